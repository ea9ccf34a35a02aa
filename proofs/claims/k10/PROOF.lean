import PyProof.Rows.All
import Wide.All
import OpenK.AllK
import Wide.FinOn
import HandS.ForMost
import HandS.Exc
import HandS.TryOnly
import HandS.ExcOwn
import HandS.WordsExc
import HandS.Walk
import HandS.Wide
import HandS.Gcd
import HandS.IsInst
import HandS.Defaults
import HandS.ExcIs
import HandS.Style
import HandS.HeadHook2
import KE.HD0
import KE.HD1
import KE.HD2
import KE.HD3
import HandS.Head0
import HandS.Head1
import HandS.Head2
import HandS.HeadEnd
import HandS.HeadHook1
import HandS.HeadHook3
import HandS.HeadHook4
import PySem.Challenge.RW_fairlevy_k10_amounts
set_option Elab.async false
set_option linter.all false
set_option maxRecDepth 100000
set_option autoImplicit false
/-! Dl1: values as plain data D over the abstract heap of HandS; the part G of the heap that never changes any more, the cells M that may change, the part R that is left alone. -/
namespace Dl
open L2 PySem PyProof.Rows PySem.Spec

/-- a value as plain data; obj a: what stands at a is told by the memory (a cell), or nothing is known of it -/
inductive D where
  | non | bl (b : Bool) | int (i : Int) | str (s : Str) | ty (n : String) | obj (a : Addr)
  | tup (ds : List D) | lst (ds : List D) | ro (ds : List D) | dk (kvs : List (Key × D)) | dt (kvs : List (List Key × D))
instance : Inhabited D := ⟨.non⟩

abbrev Fg := PySem.W.Frag
mutual
inductive Rep (K : Fg) (G : Hp) : V → D → Prop
  | non : Rep K G .non .non
  | bl {b} : Rep K G (.bl b) (.bl b)
  | int {i} : Rep K G (.int i) (.int i)
  | str {s} : Rep K G (.str s) (.str s)
  | ty {n} : Rep K G (.ty n) (.ty n)
  | obj {a} : Rep K G (.ref a) (.obj a)
  | tup {a xs ds} (h : G a = some (.tup xs)) (r : Reps K G xs ds) : Rep K G (.ref a) (.tup ds)
  | lst {a xs ds} (h : G a = some (.lst xs)) (r : Reps K G xs ds) : Rep K G (.ref a) (.lst ds)
  | ro {a xs ds} (h : SqL K G a xs) (r : Reps K G xs ds) : Rep K G (.ref a) (.ro ds)
  | dk {a ys kvs} (h : G a = some (.dK ys)) (e : ys.map (·.1) = kvs.map (·.1)) (r : Reps K G (ys.map (·.2)) (kvs.map (·.2))) : Rep K G (.ref a) (.dk kvs)
  | dt {a ys kvs} (h : G a = some (.dT ys)) (e : ys.map (·.1) = kvs.map (·.1)) (r : Reps K G (ys.map (·.2)) (kvs.map (·.2))) : Rep K G (.ref a) (.dt kvs)
inductive Reps (K : Fg) (G : Hp) : List V → List D → Prop
  | nil : Reps K G [] []
  | cons {x d xs ds} (h : Rep K G x d) (t : Reps K G xs ds) : Reps K G (x :: xs) (d :: ds)
end
section
variable {K : Fg} {G G' : Hp}
theorem SqT.mono {a : Addr} {xs : List V} (s : Same G G') (h : SqT K G a xs) : SqT K G' a xs := by
  rcases h with (h | ⟨o, h⟩) | h
  · exact .inl (.inl (s _ _ h))
  · exact .inl (.inr ⟨o, s _ _ h⟩)
  · exact .inr h
mutual
theorem Rep.mono (s : Same G G') {x : V} {d : D} : Rep K G x d → Rep K G' x d
  | .non => .non
  | .bl => .bl
  | .int => .int
  | .str => .str
  | .ty => .ty
  | .obj => .obj
  | .tup h r => .tup (s _ _ h) (Reps.mono s r)
  | .lst h r => .lst (s _ _ h) (Reps.mono s r)
  | .ro h r => .ro (s.seq h) (Reps.mono s r)
  | .dk h e r => .dk (s _ _ h) e (Reps.mono s r)
  | .dt h e r => .dt (s _ _ h) e (Reps.mono s r)
theorem Reps.mono (s : Same G G') {xs : List V} {ds : List D} : Reps K G xs ds → Reps K G' xs ds
  | .nil => .nil
  | .cons h t => .cons (Rep.mono s h) (Reps.mono s t)
end
theorem Reps.length : ∀ {xs : List V} {ds : List D}, Reps K G xs ds → xs.length = ds.length
  | _, _, .nil => rfl
  | _, _, .cons _ t => congrArg (· + 1) (Reps.length t)
theorem Reps.get : ∀ {xs : List V} {ds : List D}, Reps K G xs ds → ∀ {i : Nat} {d : D}, ds[i]? = some d → ∃ x, xs[i]? = some x ∧ Rep K G x d
  | _, _, .nil, i, d, e => by simp at e
  | _, _, .cons h t, 0, d, e => by simp at e; subst e; exact ⟨_, rfl, h⟩
  | _, _, .cons h t, i + 1, d, e => by
    obtain ⟨x, e1, r⟩ := Reps.get t (i := i) (d := d) (by simpa using e)
    exact ⟨x, by simpa using e1, r⟩
theorem Reps.get' : ∀ {xs : List V} {ds : List D}, Reps K G xs ds → ∀ {i : Nat} {x : V}, xs[i]? = some x → ∃ d, ds[i]? = some d ∧ Rep K G x d
  | _, _, .nil, i, d, e => by simp at e
  | _, _, .cons h t, 0, d, e => by simp at e; subst e; exact ⟨_, rfl, h⟩
  | _, _, .cons h t, i + 1, d, e => by
    obtain ⟨x, e1, r⟩ := Reps.get' t (i := i) (x := d) (by simpa using e)
    exact ⟨x, by simpa using e1, r⟩
theorem Reps.app : ∀ {xs ys : List V} {ds es : List D}, Reps K G xs ds → Reps K G ys es → Reps K G (xs ++ ys) (ds ++ es)
  | _, _, _, _, .nil, s => s
  | _, _, _, _, .cons h t, s => .cons h (Reps.app t s)
theorem Reps.take : ∀ {xs : List V} {ds : List D} (n : Nat), Reps K G xs ds → Reps K G (xs.take n) (ds.take n)
  | _, _, 0, _ => .nil
  | _, _, _ + 1, .nil => .nil
  | _, _, n + 1, .cons h t => .cons h (Reps.take n t)
theorem Reps.drop : ∀ {xs : List V} {ds : List D} (n : Nat), Reps K G xs ds → Reps K G (xs.drop n) (ds.drop n)
  | _, _, 0, r => r
  | _, _, _ + 1, .nil => .nil
  | _, _, n + 1, .cons _ t => Reps.drop n t
theorem Reps.set {x : V} {d : D} (r : Rep K G x d) : ∀ {xs : List V} {ds : List D} (i : Nat), Reps K G xs ds → Reps K G (xs.set i x) (ds.set i d)
  | _, _, _, .nil => .nil
  | _, _, 0, .cons _ t => .cons r t
  | _, _, i + 1, .cons q t => .cons q (Reps.set r i t)
theorem Reps.rev {xs : List V} {ds : List D} (h : Reps K G xs ds) : Reps K G xs.reverse ds.reverse := by
  induction ds generalizing xs with
  | nil => cases h; exact .nil
  | cons d ds ih =>
    cases h with
    | cons h t => rw [List.reverse_cons, List.reverse_cons]; exact (ih t).app (.cons h .nil)
theorem Reps.ints : ∀ {ns : List Int}, Reps K G (ns.map V.int) (ns.map D.int)
  | [] => .nil
  | _ :: _ => .cons .int Reps.ints
/-- data of ints stand for ints -/
theorem Reps.of_ints : ∀ {ns : List Int} {xs : List V}, Reps K G xs (ns.map D.int) → xs = ns.map V.int
  | [], _, h => by cases h; rfl
  | n :: ns, _, h => by
    cases h with
    | cons h t => cases h; rw [Reps.of_ints t]; rfl
theorem Reps.of_strs : ∀ {ns : List Str} {xs : List V}, Reps K G xs (ns.map D.str) → xs = ns.map V.str
  | [], _, h => by cases h; rfl
  | n :: ns, _, h => by
    cases h with
    | cons h t => cases h; rw [Reps.of_strs t]; rfl
theorem Reps.of_bls : ∀ {ns : List Bool} {xs : List V}, Reps K G xs (ns.map D.bl) → xs = ns.map V.bl
  | [], _, h => by cases h; rfl
  | n :: ns, _, h => by
    cases h with
    | cons h t => cases h; rw [Reps.of_bls t]; rfl
end

/-! ### cells -/
inductive Cell where
  | lst (ds : List D) | dk (kvs : List (Key × D)) | dt (kvs : List (List Key × D)) | ins (C : Addr) (fs : List (Str × D))
abbrev Mem := Addr → Option Cell
def st (M : Mem) (a : Addr) (c : Cell) : Mem := fun b => if b = a then some c else M b
def rm (M : Mem) (a : Addr) : Mem := fun b => if b = a then none else M b
theorem st_same {M : Mem} {a : Addr} {c : Cell} : st M a c a = some c := by unfold st; rw [if_pos rfl]
theorem st_ne {M : Mem} {a b : Addr} {c : Cell} (h : b ≠ a) : st M a c b = M b := by unfold st; rw [if_neg h]
theorem rm_same {M : Mem} {a : Addr} : rm M a a = none := by unfold rm; rw [if_pos rfl]
theorem rm_ne {M : Mem} {a b : Addr} (h : b ≠ a) : rm M a b = M b := by unfold rm; rw [if_neg h]
theorem st_st {M : Mem} {a : Addr} {c c' : Cell} : st (st M a c) a c' = st M a c' := by
  funext b; unfold st; split <;> rfl
theorem rm_st {M : Mem} {a : Addr} {c : Cell} (h : M a = none) : rm (st M a c) a = M := by
  funext b; unfold rm st; split
  · rename_i e; rw [e, h]
  · rfl
theorem st_get {M : Mem} {a : Addr} {c : Cell} (h : M a = some c) : st M a c = M := by
  funext b; unfold st; split
  · rename_i e; rw [e, h]
  · rfl
theorem st_comm {M : Mem} {a b : Addr} {c d : Cell} (h : a ≠ b) : st (st M a c) b d = st (st M b d) a c := by
  funext x; unfold st
  by_cases h1 : x = b
  · by_cases h2 : x = a
    · exact absurd (h2.symm.trans h1) h
    · rw [if_pos h1, if_neg h2, if_pos h1]
  · by_cases h2 : x = a
    · rw [if_neg h1, if_pos h2, if_pos h2]
    · rw [if_neg h1, if_neg h2, if_neg h2, if_neg h1]

def CellOk (K : Fg) (G H : Hp) (a : Addr) : Cell → Prop
  | .lst ds => ∃ xs, H a = some (.lst xs) ∧ Reps K G xs ds
  | .dk kvs => ∃ ys, H a = some (.dK ys) ∧ ys.map (·.1) = kvs.map (·.1) ∧ Reps K G (ys.map (·.2)) (kvs.map (·.2))
  | .dt kvs => ∃ ys, H a = some (.dT ys) ∧ ys.map (·.1) = kvs.map (·.1) ∧ Reps K G (ys.map (·.2)) (kvs.map (·.2))
  | .ins C fs => ∃ dx ys, H a = some (.ins C dx ys) ∧ ys.map (·.1) = fs.map (·.1) ∧ Reps K G (ys.map (·.2)) (fs.map (·.2))
theorem CellOk.mono {K : Fg} {G G' H H' : Hp} {a : Addr} {c : Cell} (s : Same G G') (e : H' a = H a) (h : CellOk K G H a c) : CellOk K G' H' a c := by
  cases c with
  | lst ds => obtain ⟨xs, h1, h2⟩ := h; exact ⟨xs, e.trans h1, h2.mono s⟩
  | dk kvs => obtain ⟨xs, h1, h2, h3⟩ := h; exact ⟨xs, e.trans h1, h2, h3.mono s⟩
  | dt kvs => obtain ⟨xs, h1, h2, h3⟩ := h; exact ⟨xs, e.trans h1, h2, h3.mono s⟩
  | ins C fs => obtain ⟨dx, xs, h1, h2, h3⟩ := h; exact ⟨dx, xs, e.trans h1, h2, h3.mono s⟩
theorem CellOk.there {K : Fg} {G H : Hp} {a : Addr} {c : Cell} (h : CellOk K G H a c) : ∃ o, H a = some o := by
  cases c with
  | lst ds => obtain ⟨xs, h1, h2⟩ := h; exact ⟨_, h1⟩
  | dk kvs => obtain ⟨xs, h1, h2, h3⟩ := h; exact ⟨_, h1⟩
  | dt kvs => obtain ⟨xs, h1, h2, h3⟩ := h; exact ⟨_, h1⟩
  | ins C fs => obtain ⟨dx, xs, h1, h2, h3⟩ := h; exact ⟨_, h1⟩

/-- B: what stood still at the entry; R: what is left alone -/
structure Fm where
  B : Hp
  R : Hp
/-- the abstract heap H: its still part G, its cells M, what is left alone -/
structure HRel (K : Fg) (F : Fm) (G H : Hp) (M : Mem) : Prop where
  base : Same F.B G
  sub : Same G H
  rs : Same F.R H
  rg : ∀ a o, F.R a = some o → G a = none
  cell : ∀ a c, M a = some c → CellOk K G H a c ∧ G a = none ∧ F.R a = none
/-- the slots -/
structure SRel (K : Fg) (G : Hp) (σ : L2.St) (ρ : List (Option D)) : Prop where
  len : ρ.length = σ.length
  slot : ∀ (i : Nat) (d : D), ρ[i]? = some (some d) → ∃ x, σ[i]? = some (some x) ∧ Rep K G x d
section
variable {K : Fg} {F : Fm} {G G' H : Hp} {M : Mem} {a : Addr} {o : HO} {c : Cell}
theorem SRel.mono {σ : L2.St} {ρ : List (Option D)} (s : Same G G') (h : SRel K G σ ρ) : SRel K G' σ ρ :=
  ⟨h.len, fun i d e => let ⟨x, e1, r⟩ := h.slot i d e; ⟨x, e1, r.mono s⟩⟩
theorem SRel.set {σ : L2.St} {ρ : List (Option D)} {x : V} {d : D} (h : SRel K G σ ρ) (r : Rep K G x d) (i : Nat) : SRel K G (σ.set i (some x)) (ρ.set i (some d)) := by
  refine ⟨by rw [List.length_set, List.length_set]; exact h.len, fun j e he => ?_⟩
  by_cases hj : i = j
  · subst hj
    by_cases hi : i < ρ.length
    · rw [List.getElem?_set_self hi] at he
      have := Option.some.inj (Option.some.inj he)
      subst this
      exact ⟨x, List.getElem?_set_self (by rw [← h.len]; exact hi), r⟩
    · rw [List.getElem?_eq_none (by rw [List.length_set]; omega)] at he; cases he
  · rw [List.getElem?_set_ne hj] at he ⊢
    exact h.slot j e he
theorem SRel.setN {σ : L2.St} {ρ : List (Option D)} (h : SRel K G σ ρ) (i : Nat) (x : Option V) : SRel K G (σ.set i x) (ρ.set i none) := by
  refine ⟨by rw [List.length_set, List.length_set]; exact h.len, fun j e he => ?_⟩
  by_cases hj : i = j
  · subst hj
    by_cases hi : i < ρ.length
    · rw [List.getElem?_set_self hi] at he; cases he
    · rw [List.getElem?_eq_none (by rw [List.length_set]; omega)] at he; cases he
  · rw [List.getElem?_set_ne hj] at he ⊢
    exact h.slot j e he
theorem HRel.mnone (h : HRel K F G H M) (e : H a = none) : M a = none ∧ G a = none ∧ F.R a = none := by
  refine ⟨?_, h.sub.free e, h.rs.free e⟩
  cases q : M a with
  | none => rfl
  | some c =>
    obtain ⟨o, ho⟩ := (h.cell a c q).1.there
    rw [e] at ho; cases ho
theorem same_upd (e : G a = none) : Same G (upd G a o) := fun b u h => by rw [upd_ne (ne_of_none h e)]; exact h
/-- a new object that never changes -/
theorem HRel.new (h : HRel K F G H M) (e : H a = none) : Same G (upd G a o) ∧ HRel K F (upd G a o) (upd H a o) M := by
  obtain ⟨hm, hg, hr⟩ := h.mnone e
  have s : Same G (upd G a o) := same_upd hg
  refine ⟨s, h.base.trans s, fun b u q => ?_, fun b u q => ?_, fun b u q => ?_, fun b c q => ?_⟩
  · by_cases hb : b = a
    · subst hb; rw [upd_same] at q ⊢; exact q
    · rw [upd_ne hb] at q ⊢; exact h.sub b u q
  · rw [upd_ne (ne_of_none q hr)]; exact h.rs b u q
  · rw [upd_ne (ne_of_none q hr)]; exact h.rg b u q
  · obtain ⟨h1, h2, h3⟩ := h.cell b c q
    have hb : b ≠ a := fun z => by rw [z, hm] at q; cases q
    exact ⟨h1.mono s (upd_ne hb), by rw [upd_ne hb]; exact h2, h3⟩
/-- a new object that may change -/
theorem HRel.newC (h : HRel K F G H M) (e : H a = none) (ok : CellOk K G (upd H a o) a c) : HRel K F G (upd H a o) (st M a c) := by
  obtain ⟨hm, hg, hr⟩ := h.mnone e
  refine ⟨h.base, fun b u q => ?_, fun b u q => ?_, h.rg, fun b c' q => ?_⟩
  · rw [upd_ne (ne_of_none q hg)]; exact h.sub b u q
  · rw [upd_ne (ne_of_none q hr)]; exact h.rs b u q
  · by_cases hb : b = a
    · subst hb; rw [st_same] at q; cases q
      exact ⟨ok, hg, hr⟩
    · rw [st_ne hb] at q
      obtain ⟨h1, h2, h3⟩ := h.cell b c' q
      exact ⟨h1.mono (Same.refl _) (upd_ne hb), h2, h3⟩
/-- a cell is written -/
theorem HRel.write {c' : Cell} (h : HRel K F G H M) (e : M a = some c) (ok : CellOk K G (upd H a o) a c') : HRel K F G (upd H a o) (st M a c') := by
  obtain ⟨_, hg, hr⟩ := h.cell a c e
  refine ⟨h.base, fun b u q => ?_, fun b u q => ?_, h.rg, fun b c2 q => ?_⟩
  · rw [upd_ne (ne_of_none q hg)]; exact h.sub b u q
  · rw [upd_ne (ne_of_none q hr)]; exact h.rs b u q
  · by_cases hb : b = a
    · subst hb; rw [st_same] at q; cases q
      exact ⟨ok, hg, hr⟩
    · rw [st_ne hb] at q
      obtain ⟨h1, h2, h3⟩ := h.cell b c2 q
      exact ⟨h1.mono (Same.refl _) (upd_ne hb), h2, h3⟩
/-- a cell never changes any more -/
theorem HRel.freeze (h : HRel K F G H M) (e : M a = some c) (ho : H a = some o) : Same G (upd G a o) ∧ HRel K F (upd G a o) H (rm M a) := by
  obtain ⟨_, hg, hr⟩ := h.cell a c e
  have s : Same G (upd G a o) := same_upd hg
  refine ⟨s, h.base.trans s, fun b u q => ?_, h.rs, fun b u q => ?_, fun b c2 q => ?_⟩
  · by_cases hb : b = a
    · subst hb; rw [upd_same] at q; rw [ho]; exact q
    · rw [upd_ne hb] at q; exact h.sub b u q
  · rw [upd_ne (ne_of_none q hr)]; exact h.rg b u q
  · by_cases hb : b = a
    · subst hb; rw [rm_same] at q; cases q
    · rw [rm_ne hb] at q
      obtain ⟨h1, h2, h3⟩ := h.cell b c2 q
      exact ⟨h1.mono s rfl, by rw [upd_ne hb]; exact h2, h3⟩
/-- fewer cells -/
theorem HRel.less {M' : Mem} (h : HRel K F G H M) (l : ∀ a c, M' a = some c → M a = some c) : HRel K F G H M' :=
  ⟨h.base, h.sub, h.rs, h.rg, fun a c q => h.cell a c (l a c q)⟩
/-- another base -/
theorem HRel.rebase {B : Hp} (h : HRel K F G H M) (s : Same B G) : HRel K ⟨B, F.R⟩ G H M := ⟨s, h.sub, h.rs, h.rg, h.cell⟩
/-- an object is left alone from now on -/
theorem HRel.hide (h : HRel K F G H M) (e : H a = none) : HRel K ⟨F.B, upd F.R a o⟩ G (upd H a o) M := by
  obtain ⟨hm, hg, hr⟩ := h.mnone e
  refine ⟨h.base, fun b u q => ?_, fun b u q => ?_, fun b u q => ?_, fun b c q => ?_⟩
  · rw [upd_ne (ne_of_none q hg)]; exact h.sub b u q
  · have q' : upd F.R a o b = some u := q
    by_cases hb : b = a
    · subst hb; rw [upd_same] at q' ⊢; exact q'
    · rw [upd_ne hb] at q' ⊢; exact h.rs b u q'
  · have q' : upd F.R a o b = some u := q
    by_cases hb : b = a
    · subst hb; exact hg
    · rw [upd_ne hb] at q'; exact h.rg b u q'
  · obtain ⟨h1, h2, h3⟩ := h.cell b c q
    have hb : b ≠ a := fun z => by rw [z, hm] at q; cases q
    refine ⟨h1.mono (Same.refl _) (upd_ne hb), h2, ?_⟩
    show upd F.R a o b = none
    rw [upd_ne hb]; exact h3
/-- .. changed -/
theorem HRel.hidden {R : Hp} {o o' : HO} (h : HRel K ⟨F.B, upd R a o⟩ G H M) : HRel K ⟨F.B, upd R a o'⟩ G (upd H a o') M := by
  have hga : G a = none := h.rg a o upd_same
  refine ⟨h.base, fun b u q => ?_, fun b u q => ?_, fun b u q => ?_, fun b c q => ?_⟩
  · rw [upd_ne (ne_of_none q hga)]; exact h.sub b u q
  · have q' : upd R a o' b = some u := q
    by_cases hb : b = a
    · subst hb; rw [upd_same] at q' ⊢; exact q'
    · rw [upd_ne hb] at q' ⊢; exact h.rs b u (show upd R a o b = some u by rw [upd_ne hb]; exact q')
  · have q' : upd R a o' b = some u := q
    by_cases hb : b = a
    · subst hb; exact hga
    · rw [upd_ne hb] at q'; exact h.rg b u (show upd R a o b = some u by rw [upd_ne hb]; exact q')
  · obtain ⟨h1, h2, h3⟩ := h.cell b c q
    have h3' : upd R a o b = none := h3
    have hb : b ≠ a := fun z => by rw [z, upd_same] at h3'; cases h3'
    refine ⟨h1.mono (Same.refl _) (upd_ne hb), h2, ?_⟩
    show upd R a o' b = none
    rw [upd_ne hb]; rw [upd_ne hb] at h3'; exact h3'
/-- .. and shown again, as an object that never changes -/
theorem HRel.shown {R : Hp} (hr : R a = none) (h : HRel K ⟨F.B, upd R a o⟩ G H M) : Same G (upd G a o) ∧ HRel K ⟨F.B, R⟩ (upd G a o) H M := by
  have hga : G a = none := h.rg a o upd_same
  have hha : H a = some o := h.rs a o upd_same
  have s : Same G (upd G a o) := same_upd hga
  refine ⟨s, h.base.trans s, fun b u q => ?_, fun b u q => ?_, fun b u q => ?_, fun b c q => ?_⟩
  · by_cases hb : b = a
    · subst hb; rw [upd_same] at q; rw [hha]; exact q
    · rw [upd_ne hb] at q; exact h.sub b u q
  · exact h.rs b u (show upd R a o b = some u by rw [upd_ne (ne_of_none q hr)]; exact q)
  · rw [upd_ne (ne_of_none q hr)]; exact h.rg b u (show upd R a o b = some u by rw [upd_ne (ne_of_none q hr)]; exact q)
  · obtain ⟨h1, h2, h3⟩ := h.cell b c q
    have h3' : upd R a o b = none := h3
    have hb : b ≠ a := fun z => by rw [z, upd_same] at h3'; cases h3'
    refine ⟨h1.mono s rfl, by rw [upd_ne hb]; exact h2, ?_⟩
    show R b = none
    rw [upd_ne hb] at h3'; exact h3'
/-- .. or as a cell -/
theorem HRel.shownC {R : Hp} (hr : R a = none) (h : HRel K ⟨F.B, upd R a o⟩ G H M) (ok : CellOk K G H a c) : HRel K ⟨F.B, R⟩ G H (st M a c) := by
  have hga : G a = none := h.rg a o upd_same
  refine ⟨h.base, h.sub, fun b u q => ?_, fun b u q => ?_, fun b c2 q => ?_⟩
  · exact h.rs b u (show upd R a o b = some u by rw [upd_ne (ne_of_none q hr)]; exact q)
  · exact h.rg b u (show upd R a o b = some u by rw [upd_ne (ne_of_none q hr)]; exact q)
  · by_cases hb : b = a
    · subst hb; rw [st_same] at q; cases q
      exact ⟨ok, hga, hr⟩
    · rw [st_ne hb] at q
      obtain ⟨h1, h2, h3⟩ := h.cell b c2 q
      have h3' : upd R a o b = none := h3
      rw [upd_ne hb] at h3'
      exact ⟨h1, h2, h3'⟩
end
end Dl

/-! Dl2: readings over data; names, constants, operators, tests, displays, subscripts, calls. -/
namespace Dl
open L2 PySem PyProof.Rows PySem.Spec

abbrev Rho := List (Option D)
abbrev DE := Rho → Mem → (D → Mem → Prop) → Prop
abbrev DT := Rho → Mem → (Bool → Mem → Prop) → Prop
abbrev DA := Rho → Mem → (List D → Mem → Prop) → Prop
abbrev D2 := D → D → Mem → (D → Mem → Prop) → Prop
abbrev D1 := D → Mem → (D → Mem → Prop) → Prop
abbrev DN := List D → Mem → (D → Mem → Prop) → Prop

def QE (K : Fg) (F : Fm) (G : Hp) (post : D → Mem → Prop) (Q : VK) : Prop := ∀ G' H' M' x v, Same G G' → HRel K F G' H' M' → Rep K G' x v → post v M' → Q x H'
def QT (K : Fg) (F : Fm) (G : Hp) (post : Bool → Mem → Prop) (Q : Bool → Hp → Prop) : Prop := ∀ G' H' M' b, Same G G' → HRel K F G' H' M' → post b M' → Q b H'
def QA (K : Fg) (F : Fm) (G : Hp) (post : List D → Mem → Prop) (Q : List V → Hp → Prop) : Prop := ∀ G' H' M' xs vs, Same G G' → HRel K F G' H' M' → Reps K G' xs vs → post vs M' → Q xs H'
def LE (K : Fg) (F : Fm) (d : DE) : TE := fun σ H Q => ∃ G ρ M post, HRel K F G H M ∧ SRel K G σ ρ ∧ d ρ M post ∧ QE K F G post Q
def LT (K : Fg) (F : Fm) (d : DT) : TT := fun σ H Q => ∃ G ρ M post, HRel K F G H M ∧ SRel K G σ ρ ∧ d ρ M post ∧ QT K F G post Q
def LA (K : Fg) (F : Fm) (d : DA) : TA := fun σ H Q => ∃ G ρ M post, HRel K F G H M ∧ SRel K G σ ρ ∧ d ρ M post ∧ QA K F G post Q
abbrev PD (X : Cx) (F : Fm) (e : Expr) (d : DE) : Prop := PE X e (LE X.K F d)
abbrev PDT (X : Cx) (F : Fm) (e : Expr) (d : DT) : Prop := PT X e (LT X.K F d)
abbrev PDW (X : Cx) (F : Fm) (e : Expr) (d : DT) : Prop := PW X e (LT X.K F d)
abbrev PDA (X : Cx) (F : Fm) (es : List Expr) (d : DA) : Prop := PA X es (LA X.K F d)

theorem pe_imp {X : Cx} {e : Expr} {t t' : TE} (h : PE X e t) (i : ∀ σ H Q, t' σ H Q → t σ H Q) : PE X e t' := ⟨fun pins s σ H Q I q => h.run pins s σ H Q I (i σ H Q q)⟩
theorem pt_imp {X : Cx} {e : Expr} {t t' : TT} (h : PT X e t) (i : ∀ σ H Q, t' σ H Q → t σ H Q) : PT X e t' := ⟨fun pins s σ H Q I q => h.run pins s σ H Q I (i σ H Q q)⟩
theorem pw_imp {X : Cx} {e : Expr} {t t' : TT} (h : PW X e t) (i : ∀ σ H Q, t' σ H Q → t σ H Q) : PW X e t' := ⟨fun wh pins s σ H Q I q => h.run wh pins s σ H Q I (i σ H Q q)⟩
theorem pa_imp {X : Cx} {es : List Expr} {t t' : TA} (h : PA X es t) (i : ∀ σ H Q, t' σ H Q → t σ H Q) : PA X es t' := ⟨fun pos pins s σ H Q I q => h.run pos pins s σ H Q I (i σ H Q q)⟩
theorem pe_or {X : Cx} {e : Expr} {t t' : TE} (h : PE X e t) (h' : PE X e t') : PE X e (fun σ H Q => t σ H Q ∨ t' σ H Q) :=
  ⟨fun pins s σ H Q I q => q.elim (h.run pins s σ H Q I) (h'.run pins s σ H Q I)⟩

section
variable {K : Fg} {F : Fm} {G H : Hp} {M : Mem} {post : D → Mem → Prop} {Q : VK}
theorem QE.here (k : QE K F G post Q) {x : V} {v : D} (hr : HRel K F G H M) (r : Rep K G x v) (q : post v M) : Q x H := k G H M x v (Same.refl _) hr r q
theorem QE.later (k : QE K F G post Q) {G' : Hp} (s : Same G G') : QE K F G' post Q := fun G2 H2 M2 x v s2 => k G2 H2 M2 x v (s.trans s2)
/-- a new object that never changes -/
theorem QE.new (k : QE K F G post Q) {v : D} {p : Addr} {o : HO} (hr : HRel K F G H M) (e : H p = none) (r : Rep K (upd G p o) (.ref p) v) (q : post v M) : Q (.ref p) (upd H p o) :=
  k _ _ M _ v (hr.new e).1 (hr.new e).2 r q
/-- a new object that may change -/
theorem QE.newC (k : QE K F G post Q) {p : Addr} {o : HO} {c : Cell} (hr : HRel K F G H M) (e : H p = none) (ok : CellOk K G (upd H p o) p c) (q : post (.obj p) (st M p c)) : Q (.ref p) (upd H p o) :=
  k _ _ _ _ _ (Same.refl _) (hr.newC e ok) .obj q
end

/-! ### names, constants -/
def dVar (i : Nat) : DE := fun ρ M Q => match ρ[i]? with
  | some (some v) => Q v M
  | _ => False
def dC (v : D) : DE := fun _ M Q => Q v M
section
variable {X : Cx} {F : Fm} {pos : Pos}
theorem pd_var (i : Nat) {x : Str} {pos : Pos} (hN : X.N[i]? = some x := by rfl) (hv : Vis X.env.scope x := by first | exact Or.inl rfl | exact Or.inr (Or.inl rfl) | exact Or.inr (Or.inr rfl)) (hd : (x == ("__debug__" : Str)) = false := by decide)
    (hcd : (x == ("__classdict__" : Str)) = false := by decide) : PD X F (.Name x pos) (dVar i) := pe_imp (pe_var hN hv hd hcd) fun σ H Q ⟨G, ρ, M, post, hr, sr, d, k⟩ => by
  unfold dVar at d
  split at d
  · rename_i v e
    obtain ⟨x, e1, r⟩ := sr.slot i v e
    exact ⟨x, e1, k.here hr r d⟩
  · exact d.elim
theorem pd_int {i : Int} {j : Nat} {pos : Pos} : PD X F (.Constant (.int i) j pos) (dC (.int i)) := pe_imp pe_int fun σ H Q ⟨G, ρ, M, post, hr, sr, d, k⟩ => k.here hr .int d
theorem pd_bl {b : Bool} {j : Nat} {pos : Pos} : PD X F (.Constant (.bool b) j pos) (dC (.bl b)) := pe_imp pe_bl fun σ H Q ⟨G, ρ, M, post, hr, sr, d, k⟩ => k.here hr .bl d
theorem pd_non {j : Nat} {pos : Pos} : PD X F (.Constant .none j pos) (dC .non) := pe_imp pe_non fun σ H Q ⟨G, ρ, M, post, hr, sr, d, k⟩ => k.here hr .non d
theorem pd_str {x : Str} {j : Nat} {pos : Pos} : PD X F (.Constant (.str x) j pos) (dC (.str x)) := pe_imp pe_str fun σ H Q ⟨G, ρ, M, post, hr, sr, d, k⟩ => k.here hr .str d
/-- a module's constant -/
theorem pd_glob {x : Str} {v : V} {d : D} {u : Value} {pos : Pos} (hm : X.mg x = some u) (r : RelV v u) (rd : ∀ G, Rep X.K G v d) (hg : Gl X x := by rfl) (hd : (x == ("__debug__" : Str)) = false := by decide) : PD X F (.Name x pos) (dC d) :=
  pe_imp (pe_glob hg hm r hd) fun σ H Q ⟨G, ρ, M, post, hr, sr, d, k⟩ => k.here hr (rd G) d
theorem pd_bltn {x : Str} {v : V} {d : D} {u : Value} {pos : Pos} (hm : X.mg x = none) (r : RelV v u) (rd : ∀ G, Rep X.K G v d) (hg : Gl X x := by rfl) (hv : bootBuiltins x = some u := by decide +kernel) (hn : x ≠ "__name__" := by decide) (hd : (x == ("__debug__" : Str)) = false := by decide) : PD X F (.Name x pos) (dC d) :=
  pe_imp (pe_bltn hg hm hv r hn hd) fun σ H Q ⟨G, ρ, M, post, hr, sr, d, k⟩ => k.here hr (rd G) d

/-! ### two values -/
def Ref2 (K : Fg) (F : Fm) (r : R2) (f : D2) : Prop := ∀ {G H : Hp} {M : Mem} {x y : V} {v w : D} {post : D → Mem → Prop} {Q : VK}, HRel K F G H M → Rep K G x v → Rep K G y w → f v w M post → QE K F G post Q → r x y H Q
def dBin (f : D2) (da db : DE) : DE := fun ρ M Q => da ρ M fun x M1 => db ρ M1 fun y M2 => f x y M2 Q
def dUn (f : D1) (da : DE) : DE := fun ρ M Q => da ρ M fun x M1 => f x M1 Q
variable {a b c e : Expr} {da db dc : DE} {f : D2}
theorem bin_imp {r : R2} (hf : Ref2 X.K F r f) : ∀ σ H Q, LE X.K F (dBin f da db) σ H Q → tOp r (LE X.K F da) (LE X.K F db) σ H Q := fun σ H Q ⟨G, ρ, M, post, hr, sr, d, k⟩ =>
  ⟨G, ρ, M, _, hr, sr, d, fun G1 H1 M1 x v s1 h1 rx q1 => ⟨G1, ρ, M1, _, h1, sr.mono s1, q1, fun G2 H2 M2 y w s2 h2 ry q2 => hf h2 (rx.mono s2) ry q2 (k.later (s1.trans s2))⟩⟩
theorem pd_op {op : Operator} {r : R2} (ho : OpR X (binaryOp op) r) (hf : Ref2 X.K F r f) (ha : PD X F a da) (hb : PD X F b db) : PD X F (.BinOp a op b pos) (dBin f da db) := pe_imp (pe_op ho ha hb) (bin_imp hf)
theorem pd_cmp {op : CmpOp} {r : R2} (ho : OpR X (compareOp op) r) (hf : Ref2 X.K F r f) (ha : PD X F a da) (hb : PD X F b db) (hm : behindInMarks op b = false) : PD X F (.Compare a [op] [b] pos) (dBin f da db) := pe_imp (pe_cmpR ho ha hb hm) (bin_imp hf)
/-- a value True or False as a test -/
def dTr (d : DE) : DT := fun ρ M Q => d ρ M fun x M1 => match x with
  | .bl k => Q k M1
  | _ => False
theorem pt_cmpd {op : CmpOp} {r : R2} (ho : OpR X (compareOp op) r) (hf : Ref2 X.K F r f) (ha : PD X F a da) (hb : PD X F b db) (hm : behindInMarks op b = false) : PDT X F (.Compare a [op] [b] pos) (dTr (dBin f da db)) :=
  pt_imp (pt_cmpR ho ha hb hm) fun σ H Q ⟨G, ρ, M, post, hr, sr, d, k⟩ => bin_imp hf σ H _ ⟨G, ρ, M, _, hr, sr, d, fun G1 H1 M1 x v s1 h1 rx q1 => by
    cases v with
    | bl b => cases rx; exact ⟨b, rfl, k G1 H1 M1 b s1 h1 q1⟩
    | _ => exact (show False from q1).elim⟩
def Ref1 (K : Fg) (F : Fm) (r : V → Hp → VK → Prop) (f : D1) : Prop := ∀ {G H : Hp} {M : Mem} {x : V} {v : D} {post : D → Mem → Prop} {Q : VK}, HRel K F G H M → Rep K G x v → f v M post → QE K F G post Q → r x H Q
theorem pd_un {op : UnaryOp} {r : V → Hp → VK → Prop} {f : D1} (ho : UnR X (unaryOp op) r) (hf : Ref1 X.K F r f) (ha : PD X F a da) : PD X F (.UnaryOp op a pos) (dUn f da) := pe_imp (pe_un ho ha) fun σ H Q ⟨G, ρ, M, post, hr, sr, d, k⟩ =>
  ⟨G, ρ, M, _, hr, sr, d, fun G1 H1 M1 x v s1 h1 rx q1 => hf h1 rx q1 (k.later s1)⟩

/-! ### operators -/
def DivOk (j : Int) : Prop := 0 < j ∧ j.natAbs.log2 < 9000
def f_add : D2 := fun v w M Q => match v, w with
  | .int i, .int j => Q (.int (i + j)) M
  | .str x, .str y => x.length + y.length ≤ sizeLine ∧ Q (.str (x ++ y)) M
  | .lst xs, .lst ys => xs.length + ys.length ≤ sizeLine ∧ Q (.lst (xs ++ ys)) M
  | .tup xs, .tup ys => xs ≠ [] ∧ xs.length + ys.length ≤ sizeLine ∧ Q (.tup (xs ++ ys)) M
  | _, _ => False
def f_sub : D2 := fun v w M Q => match v, w with
  | .int i, .int j => Q (.int (i - j)) M
  | .bl i, .bl j => Q (.int (b2i i - b2i j)) M
  | _, _ => False
def f_mul : D2 := fun v w M Q => match v, w with
  | .int i, .int j => CMulW i j ∧ Q (.int (i * j)) M
  | _, _ => False
def f_fdiv : D2 := fun v w M Q => match v, w with
  | .int i, .int j => DivOk j ∧ Q (.int (i / j)) M
  | _, _ => False
def f_mod : D2 := fun v w M Q => match v, w with
  | .int i, .int j => 0 < j ∧ Q (.int (i % j)) M
  | _, _ => False
def f_pow : D2 := fun v w M Q => match v, w with
  | .int i, .int j => CPow i j ∧ Q (.int (i ^ j.toNat)) M
  | _, _ => False
def f_shl : D2 := fun v w M Q => match v, w with
  | .int i, .int j => CPow i j ∧ Q (.int (i * 2 ^ j.toNat)) M
  | _, _ => False
def r_add (K : Fg) : R2 := fun x y H Q => rI0 (fun i j => .int (i + j)) x y H Q ∨ (∃ i j, x = .str i ∧ y = .str j ∧ i.length + j.length ≤ sizeLine ∧ Q (.str (i ++ j)) H) ∨ rCat x y H Q ∨ rCatT K x y H Q
theorem opr_add : OpR X (binaryOp .Add) (r_add X.K) := op_add.or (op_add_str.or (op_cat.or op_catT))
theorem ref_add {K : Fg} : Ref2 K F (r_add K) f_add := by
  intro G H M x y v w post Q hr rx ry d k
  unfold f_add at d
  split at d
  · cases rx; cases ry; exact .inl ⟨_, _, rfl, rfl, k.here hr .int d⟩
  · cases rx; cases ry; exact .inr (.inl ⟨_, _, rfl, rfl, d.1, k.here hr .str d.2⟩)
  · cases rx with
    | lst h1 r1 =>
      cases ry with
      | lst h2 r2 =>
        refine .inr (.inr (.inl ⟨_, _, _, _, rfl, rfl, hr.sub _ _ h1, hr.sub _ _ h2, by rw [r1.length, r2.length]; exact d.1, fun p hp => ?_⟩))
        exact k.new hr hp (.lst upd_same ((r1.mono (hr.new hp).1).app (r2.mono (hr.new hp).1))) d.2
  · cases rx with
    | tup h1 r1 =>
      cases ry with
      | tup h2 r2 =>
        obtain ⟨d0, d1, d2⟩ := d
        refine .inr (.inr (.inr ⟨_, _, _, _, rfl, rfl, .inl (.inl (hr.sub _ _ h1)), .inl (.inl (hr.sub _ _ h2)), fun z => ?_, by rw [r1.length, r2.length]; exact d1, fun z => ?_, fun z p hp => ?_⟩))
        · subst z; cases r1; exact d0 rfl
        · subst z; cases r2
          rw [List.append_nil] at d2
          exact k.here hr (.tup h1 r1) d2
        · exact k.new hr hp (.tup upd_same ((r1.mono (hr.new hp).1).app (r2.mono (hr.new hp).1))) d2
  · exact d.elim
theorem pd_add (ha : PD X F a da) (hb : PD X F b db) : PD X F (.BinOp a .Add b pos) (dBin f_add da db) := pd_op opr_add ref_add ha hb
theorem opr_subB : OpR X (binaryOp .Sub) (fun x y H Q => ∃ i j, x = .bl i ∧ y = .bl j ∧ Q (.int (b2i i - b2i j)) H) := by
  intro pins s σ H x y v u Q I rx ry h
  obtain ⟨i, j, rfl, rfl, q⟩ := h
  cases rx
  cases ry
  exact PyProof.Rows.sub_bool ⟨.int (b2i i - b2i j), H, I.tok _, ⟨_, rfl⟩, q⟩
theorem ref_sub {K : Fg} : Ref2 K F (fun x y H Q => rI0 (fun i j => .int (i - j)) x y H Q ∨ ∃ i j, x = .bl i ∧ y = .bl j ∧ Q (.int (b2i i - b2i j)) H) f_sub := by
  intro G H M x y v w post Q hr rx ry d k
  unfold f_sub at d
  split at d
  · cases rx; cases ry; exact .inl ⟨_, _, rfl, rfl, k.here hr .int d⟩
  · cases rx; cases ry; exact .inr ⟨_, _, rfl, rfl, k.here hr .int d⟩
  · exact d.elim
theorem pd_sub (ha : PD X F a da) (hb : PD X F b db) : PD X F (.BinOp a .Sub b pos) (dBin f_sub da db) := pd_op (op_sub.or opr_subB) ref_sub ha hb
theorem ref_mul {K : Fg} : Ref2 K F (rI CMulW fun i j => .int (i * j)) f_mul := by
  intro G H M x y v w post Q hr rx ry d k
  unfold f_mul at d
  split at d
  · cases rx; cases ry; exact ⟨_, _, rfl, rfl, d.1, k.here hr .int d.2⟩
  · exact d.elim
theorem pd_mul (ha : PD X F a da) (hb : PD X F b db) : PD X F (.BinOp a .Mult b pos) (dBin f_mul da db) := pd_op op_mulW ref_mul ha hb
theorem ref_fdiv {K : Fg} : Ref2 K F (rI CDivW fun i j => .int (i / j)) f_fdiv := by
  intro G H M x y v w post Q hr rx ry d k
  unfold f_fdiv at d
  split at d
  · cases rx; cases ry; exact ⟨_, _, rfl, rfl, d.1, k.here hr .int d.2⟩
  · exact d.elim
theorem pd_fdiv (ha : PD X F a da) (hb : PD X F b db) : PD X F (.BinOp a .FloorDiv b pos) (dBin f_fdiv da db) := pd_op op_fdivW ref_fdiv ha hb
theorem ref_mod {K : Fg} : Ref2 K F (rI (fun _ j => 0 < j) fun i j => .int (i % j)) f_mod := by
  intro G H M x y v w post Q hr rx ry d k
  unfold f_mod at d
  split at d
  · cases rx; cases ry; exact ⟨_, _, rfl, rfl, d.1, k.here hr .int d.2⟩
  · exact d.elim
theorem pd_mod (ha : PD X F a da) (hb : PD X F b db) : PD X F (.BinOp a .Mod b pos) (dBin f_mod da db) := pd_op op_mod ref_mod ha hb
theorem ref_pow {K : Fg} : Ref2 K F (rI CPow fun i j => .int (i ^ j.toNat)) f_pow := by
  intro G H M x y v w post Q hr rx ry d k
  unfold f_pow at d
  split at d
  · cases rx; cases ry; exact ⟨_, _, rfl, rfl, d.1, k.here hr .int d.2⟩
  · exact d.elim
theorem pd_pow (ha : PD X F a da) (hb : PD X F b db) : PD X F (.BinOp a .Pow b pos) (dBin f_pow da db) := pd_op op_pow ref_pow ha hb
theorem ref_shl {K : Fg} : Ref2 K F (rI CPow fun i j => .int (i * 2 ^ j.toNat)) f_shl := by
  intro G H M x y v w post Q hr rx ry d k
  unfold f_shl at d
  split at d
  · cases rx; cases ry; exact ⟨_, _, rfl, rfl, d.1, k.here hr .int d.2⟩
  · exact d.elim
theorem pd_shl (ha : PD X F a da) (hb : PD X F b db) : PD X F (.BinOp a .LShift b pos) (dBin f_shl da db) := pd_op op_shl ref_shl ha hb
def f_neg : D1 := fun v M Q => match v with
  | .int i => Q (.int (-i)) M
  | _ => False
theorem ref_neg {K : Fg} : Ref1 K F (rU fun i => .int (-i)) f_neg := by
  intro G H M x v post Q hr rx d k
  unfold f_neg at d
  split at d
  · cases rx; exact ⟨_, rfl, k.here hr .int d⟩
  · exact d.elim
theorem pd_neg (ha : PD X F a da) : PD X F (.UnaryOp .USub a pos) (dUn f_neg da) := pd_un un_neg ref_neg ha

/-! ### comparisons -/
def f_lt : D2 := fun v w M Q => match v, w with
  | .int i, .int j => Q (.bl (decide (i < j))) M
  | .str x, .str y => Q (.bl (decide (x.cps.toList < y.cps.toList))) M
  | _, _ => False
def f_le : D2 := fun v w M Q => match v, w with
  | .int i, .int j => Q (.bl (decide (i ≤ j))) M
  | _, _ => False
def f_gt : D2 := fun v w M Q => match v, w with
  | .int i, .int j => Q (.bl (decide (j < i))) M
  | _, _ => False
def f_ge : D2 := fun v w M Q => match v, w with
  | .int i, .int j => Q (.bl (decide (j ≤ i))) M
  | _, _ => False
theorem ref_lt {K : Fg} : Ref2 K F (fun x y H Q => rI0 (fun i j => .bl (decide (i < j))) x y H Q ∨ ∃ i j, x = .str i ∧ y = .str j ∧ Q (.bl (decide (i.cps.toList < j.cps.toList))) H) f_lt := by
  intro G H M x y v w post Q hr rx ry d k
  unfold f_lt at d
  split at d
  · cases rx; cases ry; exact .inl ⟨_, _, rfl, rfl, k.here hr .bl d⟩
  · cases rx; cases ry; exact .inr ⟨_, _, rfl, rfl, k.here hr .bl d⟩
  · exact d.elim
theorem ref_le {K : Fg} : Ref2 K F (rI0 fun i j => .bl (decide (i ≤ j))) f_le := by
  intro G H M x y v w post Q hr rx ry d k
  unfold f_le at d
  split at d
  · cases rx; cases ry; exact ⟨_, _, rfl, rfl, k.here hr .bl d⟩
  · exact d.elim
theorem ref_gt {K : Fg} : Ref2 K F (rI0 fun i j => .bl (decide (j < i))) f_gt := by
  intro G H M x y v w post Q hr rx ry d k
  unfold f_gt at d
  split at d
  · cases rx; cases ry; exact ⟨_, _, rfl, rfl, k.here hr .bl d⟩
  · exact d.elim
theorem ref_ge {K : Fg} : Ref2 K F (rI0 fun i j => .bl (decide (j ≤ i))) f_ge := by
  intro G H M x y v w post Q hr rx ry d k
  unfold f_ge at d
  split at d
  · cases rx; cases ry; exact ⟨_, _, rfl, rfl, k.here hr .bl d⟩
  · exact d.elim
theorem pd_lt (ha : PD X F a da) (hb : PD X F b db) : PD X F (.Compare a [.Lt] [b] pos) (dBin f_lt da db) := pd_cmp (op_lt.or op_lt_str) ref_lt ha hb (nomark _)
theorem pt_lt (ha : PD X F a da) (hb : PD X F b db) : PDT X F (.Compare a [.Lt] [b] pos) (dTr (dBin f_lt da db)) := pt_cmpd (op_lt.or op_lt_str) ref_lt ha hb (nomark _)
theorem pd_le (ha : PD X F a da) (hb : PD X F b db) : PD X F (.Compare a [.LtE] [b] pos) (dBin f_le da db) := pd_cmp op_le ref_le ha hb (nomark _)
theorem pt_le (ha : PD X F a da) (hb : PD X F b db) : PDT X F (.Compare a [.LtE] [b] pos) (dTr (dBin f_le da db)) := pt_cmpd op_le ref_le ha hb (nomark _)
theorem pd_gt (ha : PD X F a da) (hb : PD X F b db) : PD X F (.Compare a [.Gt] [b] pos) (dBin f_gt da db) := pd_cmp op_gt ref_gt ha hb (nomark _)
theorem pt_gt (ha : PD X F a da) (hb : PD X F b db) : PDT X F (.Compare a [.Gt] [b] pos) (dTr (dBin f_gt da db)) := pt_cmpd op_gt ref_gt ha hb (nomark _)
theorem pd_ge (ha : PD X F a da) (hb : PD X F b db) : PD X F (.Compare a [.GtE] [b] pos) (dBin f_ge da db) := pd_cmp op_ge ref_ge ha hb (nomark _)
theorem pt_ge (ha : PD X F a da) (hb : PD X F b db) : PDT X F (.Compare a [.GtE] [b] pos) (dTr (dBin f_ge da db)) := pt_cmpd op_ge ref_ge ha hb (nomark _)
/-! == over data -/
mutual
def toP : D → Option PyData
  | .non => some .none
  | .bl b => some (.bool b)
  | .int i => some (.int i)
  | .str s => some (.str s)
  | .tup ds => (toPs ds).map .tuple
  | .lst ds => (toPs ds).map .list
  | .ro ds => (toPs ds).map .list
  | .ty _ => none
  | .obj _ => none
  | .dk _ => none
  | .dt _ => none
def toPs : List D → Option (List PyData)
  | [] => some []
  | d :: ds => match toP d, toPs ds with
    | some p, some ps => some (p :: ps)
    | _, _ => none
end
mutual
theorem Rep.dp {K : Fg} {G : Hp} {x : V} {d : D} : Rep K G x d → ∀ {p : PyData}, toP d = some p → Dp K G x p
  | .non, p, e => by simp only [toP] at e; cases e; exact .non
  | .bl, p, e => by simp only [toP] at e; cases e; exact .bl _
  | .int, p, e => by simp only [toP] at e; cases e; exact .int _
  | .str, p, e => by simp only [toP] at e; cases e; exact .str _
  | .ty, p, e => by simp only [toP] at e; cases e
  | .obj, p, e => by simp only [toP] at e; cases e
  | .tup h r, p, e => by
    simp only [toP] at e
    obtain ⟨ps, e1, e2⟩ := Option.map_eq_some_iff.mp e
    subst e2
    exact .tup (.inl (.inl h)) (Reps.dp r e1)
  | .lst h r, p, e => by
    simp only [toP] at e
    obtain ⟨ps, e1, e2⟩ := Option.map_eq_some_iff.mp e
    subst e2
    exact .lst (.inl (.inl h)) (Reps.dp r e1)
  | .ro h r, p, e => by
    simp only [toP] at e
    obtain ⟨ps, e1, e2⟩ := Option.map_eq_some_iff.mp e
    subst e2
    exact .lst h (Reps.dp r e1)
  | .dk _ _ _, p, e => by simp only [toP] at e; cases e
  | .dt _ _ _, p, e => by simp only [toP] at e; cases e
theorem Reps.dp {K : Fg} {G : Hp} {xs : List V} {ds : List D} : Reps K G xs ds → ∀ {ps : List PyData}, toPs ds = some ps → DpAll K G xs ps
  | .nil, ps, e => by simp only [toPs] at e; cases e; exact .nil
  | .cons (d := d) (ds := ds) h t, ps, e => by
    simp only [toPs] at e
    cases e1 : toP d with
    | none => rw [e1] at e; cases e
    | some p =>
      cases e2 : toPs ds with
      | none => rw [e1, e2] at e; cases e
      | some qs => rw [e1, e2] at e; cases e; exact .cons (Rep.dp h e1) (Reps.dp t e2)
end
theorem sqT_mono {K : Fg} {G H : Hp} {a : Addr} {xs : List V} (s : Same G H) (h : SqT K G a xs) : SqT K H a xs := by
  rcases h with (h | ⟨o, h⟩) | h
  · exact .inl (.inl (s _ _ h))
  · exact .inl (.inr ⟨o, s _ _ h⟩)
  · exact .inr h
mutual
theorem dp_mono {K : Fg} {G H : Hp} (s : Same G H) {x : V} {d : PyData} : Dp K G x d → Dp K H x d
  | .non => .non
  | .bl b => .bl b
  | .int i => .int i
  | .str i => .str i
  | .lst h r => .lst (s.seq h) (dpAll_mono s r)
  | .tup h r => .tup (sqT_mono s h) (dpAll_mono s r)
theorem dpAll_mono {K : Fg} {G H : Hp} (s : Same G H) {x : List V} {d : List PyData} : DpAll K G x d → DpAll K H x d
  | .nil => .nil
  | .cons h t => .cons (dp_mono s h) (dpAll_mono s t)
end
def f_eqD (neg : Bool) : D2 := fun v w M Q => match toP v, toP w with
  | some p, some q => SeqAt.shaped p = true ∧ SeqAt.shaped q = true ∧ Q (.bl (if neg then !PyData.eqv p q else PyData.eqv p q)) M
  | _, _ => False
def f_eq : D2 := f_eqD false
def f_ne : D2 := f_eqD true
theorem ref_eq {K : Fg} : Ref2 K F (rEqD K) f_eq := by
  intro G H M x y v w post Q hr rx ry d k
  unfold f_eq f_eqD at d
  split at d
  · rename_i p q e1 e2
    exact ⟨p, q, dp_mono hr.sub (rx.dp e1), dp_mono hr.sub (ry.dp e2), d.1, d.2.1, k.here hr .bl d.2.2⟩
  · exact d.elim
theorem ref_ne {K : Fg} : Ref2 K F (rNeD K) f_ne := by
  intro G H M x y v w post Q hr rx ry d k
  unfold f_ne f_eqD at d
  split at d
  · rename_i p q e1 e2
    exact ⟨p, q, dp_mono hr.sub (rx.dp e1), dp_mono hr.sub (ry.dp e2), d.1, d.2.1, k.here hr .bl d.2.2⟩
  · exact d.elim
theorem pd_eq (hu : X.A.units + 64 < cLine) (ha : PD X F a da) (hb : PD X F b db) : PD X F (.Compare a [.Eq] [b] pos) (dBin f_eq da db) := pd_cmp (op_eqD hu) ref_eq ha hb (nomark _)
theorem pt_eq (hu : X.A.units + 64 < cLine) (ha : PD X F a da) (hb : PD X F b db) : PDT X F (.Compare a [.Eq] [b] pos) (dTr (dBin f_eq da db)) := pt_cmpd (op_eqD hu) ref_eq ha hb (nomark _)
theorem pd_ne (hu : X.A.units + 64 < cLine) (ha : PD X F a da) (hb : PD X F b db) : PD X F (.Compare a [.NotEq] [b] pos) (dBin f_ne da db) := pd_cmp (op_neD hu) ref_ne ha hb (nomark _)
theorem pt_ne (hu : X.A.units + 64 < cLine) (ha : PD X F a da) (hb : PD X F b db) : PDT X F (.Compare a [.NotEq] [b] pos) (dTr (dBin f_ne da db)) := pt_cmpd (op_neD hu) ref_ne ha hb (nomark _)
/-- is None -/
def isNon : D → Bool
  | .non => true
  | _ => false
theorem Rep.isNon {K : Fg} {G : Hp} {x : V} {d : D} (r : Rep K G x d) : decide (x = .non) = isNon d := by cases r <;> simp [Dl.isNon]
def f_is (neg : Bool) : D1 := fun v M Q => Q (.bl (if neg then !isNon v else isNon v)) M
theorem pd_isN {j : Nat} {pos' : Pos} (ha : PD X F a da) : PD X F (.Compare a [.Is] [.Constant .none j pos'] pos) (dUn (f_is false) da) := pe_imp (pe_cmp (pc_isN ha)) fun σ H Q ⟨G, ρ, M, post, hr, sr, d, k⟩ =>
  ⟨G, ρ, M, _, hr, sr, d, fun G1 H1 M1 x v s1 h1 rx q1 => by
    show Q (V.bl (decide (x = V.non))) H1
    rw [rx.isNon]; exact (k.later s1).here h1 .bl q1⟩
theorem pt_isN {j : Nat} {pos' : Pos} (ha : PD X F a da) : PDT X F (.Compare a [.Is] [.Constant .none j pos'] pos) (dTr (dUn (f_is false) da)) := pt_imp (pt_cmp (pc_isN ha)) fun σ H Q ⟨G, ρ, M, post, hr, sr, d, k⟩ =>
  ⟨G, ρ, M, _, hr, sr, d, fun G1 H1 M1 x v s1 h1 rx q1 => ⟨_, rfl, by rw [rx.isNon]; exact k _ _ _ _ s1 h1 q1⟩⟩
theorem pd_notN {j : Nat} {pos' : Pos} (ha : PD X F a da) : PD X F (.Compare a [.IsNot] [.Constant .none j pos'] pos) (dUn (f_is true) da) := pe_imp (pe_cmp (pc_notN ha)) fun σ H Q ⟨G, ρ, M, post, hr, sr, d, k⟩ =>
  ⟨G, ρ, M, _, hr, sr, d, fun G1 H1 M1 x v s1 h1 rx q1 => by
    show Q (V.bl (!decide (x = V.non))) H1
    rw [rx.isNon]; exact (k.later s1).here h1 .bl q1⟩
theorem pt_notN {j : Nat} {pos' : Pos} (ha : PD X F a da) : PDT X F (.Compare a [.IsNot] [.Constant .none j pos'] pos) (dTr (dUn (f_is true) da)) := pt_imp (pt_cmp (pc_notN ha)) fun σ H Q ⟨G, ρ, M, post, hr, sr, d, k⟩ =>
  ⟨G, ρ, M, _, hr, sr, d, fun G1 H1 M1 x v s1 h1 rx q1 => ⟨_, rfl, by rw [rx.isNon]; exact k _ _ _ _ s1 h1 q1⟩⟩

/-! ### and, or, not, if -/
variable {rest : List Expr} {dt du : DT}
def tAndD (t u : DT) : DT := fun ρ M Q => t ρ M fun c M1 => if c = true then u ρ M1 Q else Q false M1
def tOrD (t u : DT) : DT := fun ρ M Q => t ρ M fun c M1 => if c = true then Q true M1 else u ρ M1 Q
def tNotD (t : DT) : DT := fun ρ M Q => t ρ M fun c M1 => Q (!c) M1
theorem pw_and1d (ha : PDT X F a dt) : PDW X F (.BoolOp .And [a] pos) dt := pw_and1 ha
theorem pw_or1d (ha : PDT X F a dt) : PDW X F (.BoolOp .Or [a] pos) dt := pw_or1 ha
theorem pw_andd (ha : PDT X F a dt) (hb : PDW X F (.BoolOp .And (b :: rest) pos) du) : PDW X F (.BoolOp .And (a :: b :: rest) pos) (tAndD dt du) := pw_imp (pw_and ha hb) fun σ H Q ⟨G, ρ, M, post, hr, sr, d, k⟩ =>
  ⟨G, ρ, M, _, hr, sr, d, fun G1 H1 M1 c s1 h1 q1 => by
    cases c with
    | true => exact ⟨G1, ρ, M1, post, h1, sr.mono s1, q1, fun G2 H2 M2 b s2 => k G2 H2 M2 b (s1.trans s2)⟩
    | false => exact k _ _ _ _ s1 h1 q1⟩
theorem pw_ord (ha : PDT X F a dt) (hb : PDW X F (.BoolOp .Or (b :: rest) pos) du) : PDW X F (.BoolOp .Or (a :: b :: rest) pos) (tOrD dt du) := pw_imp (pw_or ha hb) fun σ H Q ⟨G, ρ, M, post, hr, sr, d, k⟩ =>
  ⟨G, ρ, M, _, hr, sr, d, fun G1 H1 M1 c s1 h1 q1 => by
    cases c with
    | false => exact ⟨G1, ρ, M1, post, h1, sr.mono s1, q1, fun G2 H2 M2 b s2 => k G2 H2 M2 b (s1.trans s2)⟩
    | true => exact k _ _ _ _ s1 h1 q1⟩
theorem ptw {e : Expr} (h : PDW X F e dt) : PDT X F e dt := h.pt
theorem pt_notd (ha : PDT X F a dt) : PDT X F (.UnaryOp .Not a pos) (tNotD dt) := pt_imp (pt_not ha) fun σ H Q ⟨G, ρ, M, post, hr, sr, d, k⟩ =>
  ⟨G, ρ, M, _, hr, sr, d, fun G1 H1 M1 c s1 h1 q1 => k _ _ _ _ s1 h1 q1⟩
/-- values, all but the last True or False -/
def dAnd (da db : DE) : DE := fun ρ M Q => da ρ M fun x M1 => match x with
  | .bl c => if c = true then db ρ M1 Q else Q (.bl false) M1
  | _ => False
def dOr (da db : DE) : DE := fun ρ M Q => da ρ M fun x M1 => match x with
  | .bl c => if c = true then Q (.bl true) M1 else db ρ M1 Q
  | _ => False
theorem pd_one {op : BoolOp} (ha : PD X F a da) : PD X F (.BoolOp op [a] pos) da := pe_one ha
theorem pd_and (ha : PD X F a da) (hb : PD X F (.BoolOp .And (b :: rest) pos) db) : PD X F (.BoolOp .And (a :: b :: rest) pos) (dAnd da db) := pe_imp (pe_and ha hb) fun σ H Q ⟨G, ρ, M, post, hr, sr, d, k⟩ =>
  ⟨G, ρ, M, _, hr, sr, d, fun G1 H1 M1 x v s1 h1 rx q1 => by
    cases v with
    | bl c =>
      cases rx
      refine ⟨c, rfl, ?_⟩
      cases c with
      | true => exact ⟨G1, ρ, M1, post, h1, sr.mono s1, q1, k.later s1⟩
      | false => exact (k.later s1).here h1 .bl q1
    | _ => exact (show False from q1).elim⟩
theorem pd_orv (ha : PD X F a da) (hb : PD X F (.BoolOp .Or (b :: rest) pos) db) : PD X F (.BoolOp .Or (a :: b :: rest) pos) (dOr da db) := pe_imp (L2.pe_or ha hb) fun σ H Q ⟨G, ρ, M, post, hr, sr, d, k⟩ =>
  ⟨G, ρ, M, _, hr, sr, d, fun G1 H1 M1 x v s1 h1 rx q1 => by
    cases v with
    | bl c =>
      cases rx
      refine ⟨c, rfl, ?_⟩
      cases c with
      | false => exact ⟨G1, ρ, M1, post, h1, sr.mono s1, q1, k.later s1⟩
      | true => exact (k.later s1).here h1 .bl q1
    | _ => exact (show False from q1).elim⟩
def f_not : D1 := fun v M Q => match v with
  | .bl c => Q (.bl (!c)) M
  | _ => False
theorem pd_not (ha : PD X F a da) : PD X F (.UnaryOp .Not a pos) (dUn f_not da) := pe_imp (pe_not ha) fun σ H Q ⟨G, ρ, M, post, hr, sr, d, k⟩ =>
  ⟨G, ρ, M, _, hr, sr, d, fun G1 H1 M1 x v s1 h1 rx q1 => by
    cases v with
    | bl c => cases rx; exact ⟨c, rfl, (k.later s1).here h1 .bl q1⟩
    | _ => exact (show False from q1).elim⟩
def dIf (t : DT) (da db : DE) : DE := fun ρ M Q => t ρ M fun c M1 => if c = true then da ρ M1 Q else db ρ M1 Q
theorem pd_if {c : Expr} (hc : PDT X F c dt) (ha : PD X F a da) (hb : PD X F b db) : PD X F (.IfExp c a b pos) (dIf dt da db) := pe_imp (pe_ifExp hc ha hb) fun σ H Q ⟨G, ρ, M, post, hr, sr, d, k⟩ =>
  ⟨G, ρ, M, _, hr, sr, d, fun G1 H1 M1 c s1 h1 q1 => by
    cases c with
    | true => exact ⟨G1, ρ, M1, post, h1, sr.mono s1, q1, k.later s1⟩
    | false => exact ⟨G1, ρ, M1, post, h1, sr.mono s1, q1, k.later s1⟩⟩
/-- an expression that gives True or False, as a test -/
theorem pt_vald (ha : PD X F a da) (he : ∀ whole, isTrue a X.env whole = (do let v ← whole; standAt a.pos; holding [v] (truthy v)) := by intro _; rfl) : PDT X F a (dTr da) := pt_imp (pt_val ha he) fun σ H Q ⟨G, ρ, M, post, hr, sr, d, k⟩ =>
  ⟨G, ρ, M, _, hr, sr, d, fun G1 H1 M1 x v s1 h1 rx q1 => by
    cases v with
    | bl c => cases rx; exact ⟨c, rfl, k _ _ _ _ s1 h1 q1⟩
    | _ => exact (show False from q1).elim⟩
end
end Dl

/-! Dl3: arguments, displays, subscripts, slices, dicts, calls of built-ins. -/
namespace Dl
open L2 PySem PyProof.Rows PySem.Spec

theorem so_inj (a b : String) : (Str.ofString a = Str.ofString b) = (a = b) := by
  refine propext ⟨fun h => ?_, fun h => by rw [h]⟩
  rw [Str.ofString_eq_toList, Str.ofString_eq_toList] at h
  have h1 : (a.toList.map Char.toNat).toArray = (b.toList.map Char.toNat).toArray := congrArg Str.cps h
  have h2 : a.toList.map Char.toNat = b.toList.map Char.toNat := by simpa using congrArg Array.toList h1
  have h3 : ∀ x y : Char, x.toNat = y.toNat → x = y := fun x y e => Char.ext (UInt32.toNat_inj.mp e)
  have h4 : ∀ l m : List Char, l.map Char.toNat = m.map Char.toNat → l = m := by
    intro l
    induction l with
    | nil => intro m e; cases m with
      | nil => rfl
      | cons _ _ => cases e
    | cons c l ih => intro m e; cases m with
      | nil => cases e
      | cons c' m =>
        rw [List.map_cons, List.map_cons] at e
        injection e with e1 e2
        rw [h3 _ _ e1, ih m e2]
  exact String.toList_inj.mp (h4 _ _ h2)

section
variable {X : Cx} {F : Fm} {pos : Pos} {a b c e : Expr} {es : List Expr} {da db dc : DE} {dA : DA} {f : D2}
/-! ### argument lists, displays -/
def daNil : DA := fun _ M Q => Q [] M
def daCons (d : DE) (r : DA) : DA := fun ρ M Q => d ρ M fun x M1 => r ρ M1 fun xs M2 => Q (x :: xs) M2
theorem pd_nil : PDA X F [] daNil := pa_imp pa_nil fun σ H Q ⟨G, ρ, M, post, hr, sr, d, k⟩ => k G H M [] [] (Same.refl _) hr .nil d
theorem pd_cons (ha : PD X F e da) (hr : PDA X F es dA) (hs : starEach (e :: es) X.env = (false, eval e X.env) :: starEach es X.env := by rfl) : PDA X F (e :: es) (daCons da dA) :=
  pa_imp (pa_cons ha hr hs) fun σ H Q ⟨G, ρ, M, post, hr, sr, d, k⟩ => ⟨G, ρ, M, _, hr, sr, d, fun G1 H1 M1 x v s1 h1 rx q1 =>
    ⟨G1, ρ, M1, _, h1, sr.mono s1, q1, fun G2 H2 M2 xs vs s2 h2 rs q2 => k G2 H2 M2 _ _ (s1.trans s2) h2 (.cons (rx.mono s2) rs) q2⟩⟩
def dTup (t : DA) : DE := fun ρ M Q => t ρ M fun vs M1 => vs.length ≤ sizeLine ∧ Q (.tup vs) M1
/-- a list that never changes -/
def dLst (t : DA) : DE := fun ρ M Q => t ρ M fun vs M1 => vs.length ≤ sizeLine ∧ Q (.lst vs) M1
/-- a list that may change -/
def dLstC (t : DA) : DE := fun ρ M Q => t ρ M fun vs M1 => vs.length ≤ sizeLine ∧ ∀ p, M1 p = none → Q (.obj p) (st M1 p (.lst vs))
theorem pd_tup {x1 : Nat} (h : PDA X F es dA) : PD X F (.Tuple es x1 pos) (dTup dA) := pe_imp (pe_tup h) fun σ H Q ⟨G, ρ, M, post, hr, sr, d, k⟩ =>
  ⟨G, ρ, M, _, hr, sr, d, fun G1 H1 M1 xs vs s1 h1 rs q1 => ⟨by rw [rs.length]; exact q1.1, fun p hp => (k.later s1).new h1 hp (.tup upd_same (rs.mono (h1.new hp).1)) q1.2⟩⟩
theorem pd_lst (h : PDA X F es dA) : PD X F (.List es pos) (dLst dA) := pe_imp (pe_lst h) fun σ H Q ⟨G, ρ, M, post, hr, sr, d, k⟩ =>
  ⟨G, ρ, M, _, hr, sr, d, fun G1 H1 M1 xs vs s1 h1 rs q1 => ⟨by rw [rs.length]; exact q1.1, fun p hp => (k.later s1).new h1 hp (.lst upd_same (rs.mono (h1.new hp).1)) q1.2⟩⟩
theorem pd_lstC (h : PDA X F es dA) : PD X F (.List es pos) (dLstC dA) := pe_imp (pe_lst h) fun σ H Q ⟨G, ρ, M, post, hr, sr, d, k⟩ =>
  ⟨G, ρ, M, _, hr, sr, d, fun G1 H1 M1 xs vs s1 h1 rs q1 => ⟨by rw [rs.length]; exact q1.1, fun p hp => (k.later s1).newC (c := .lst vs) h1 hp ⟨_, upd_same, rs⟩ (q1.2 p (h1.mnone hp).1)⟩⟩
end

/-! ### dicts as lists of pairs -/
section
variable {κ α : Type} [DecidableEq κ]
def dget : List (κ × α) → κ → Option α
  | [], _ => none
  | (j, v) :: r, k => if j = k then some v else dget r k
def dhas : List (κ × α) → κ → Bool
  | [], _ => false
  | (j, _) :: r, k => if j = k then true else dhas r k
def dsub : List (κ × α) → κ → α → List (κ × α)
  | [], _, _ => []
  | (j, u) :: r, k, v => (if j = k then (j, v) else (j, u)) :: dsub r k v
def dput (kvs : List (κ × α)) (k : κ) (v : α) : List (κ × α) := if dhas kvs k = true then dsub kvs k v else kvs ++ [(k, v)]
theorem dhas_get : ∀ (kvs : List (κ × α)) (k : κ), dhas kvs k = (dget kvs k).isSome
  | [], _ => rfl
  | (j, v) :: r, k => by
    unfold dhas dget
    by_cases h : j = k
    · rw [if_pos h, if_pos h]; rfl
    · rw [if_neg h, if_neg h]; exact dhas_get r k
theorem dsub_fst (k : κ) (v : α) : ∀ (kvs : List (κ × α)), (dsub kvs k v).map (·.1) = kvs.map (·.1)
  | [] => rfl
  | (j, u) :: r => by
    unfold dsub
    rw [List.map_cons, List.map_cons, dsub_fst k v r]
    by_cases h : j = k
    · rw [if_pos h]
    · rw [if_neg h]
theorem dhas_fst {β : Type} : ∀ {kvs : List (κ × α)} {ys : List (κ × β)} (k : κ), ys.map (·.1) = kvs.map (·.1) → dhas ys k = dhas kvs k
  | [], [], _, _ => rfl
  | [], _ :: _, _, e => by cases e
  | _ :: _, [], _, e => by cases e
  | (j, v) :: r, (j', u) :: r', k, e => by
    rw [List.map_cons, List.map_cons] at e
    injection e with e1 e2
    have e1 : j' = j := e1
    subst e1
    unfold dhas
    rw [dhas_fst k e2]
theorem dput_fst {β : Type} {kvs : List (κ × α)} {ys : List (κ × β)} (k : κ) (v : α) (u : β) (e : ys.map (·.1) = kvs.map (·.1)) : (dput ys k u).map (·.1) = (dput kvs k v).map (·.1) := by
  unfold dput
  rw [dhas_fst k e]
  split
  · rw [dsub_fst, dsub_fst, e]
  · rw [List.map_append, List.map_append, e]; rfl
end
theorem valV_dget {κ : Type} [DecidableEq κ] : ∀ (kvs : List (κ × V)) (k : κ), valV kvs k = dget kvs k
  | [], k => rfl
  | (j, v) :: r, k => by
    unfold dget
    by_cases h : j = k
    · rw [if_pos h, valV_pos h]
    · rw [if_neg h, valV_neg h]; exact valV_dget r k
theorem any_dhas {κ : Type} [DecidableEq κ] : ∀ (kvs : List (κ × V)) (k : κ), (kvs.any fun kv => decide (kv.1 = k)) = dhas kvs k
  | [], _ => rfl
  | (j, u) :: r, k => by
    rw [List.any_cons, any_dhas r k]
    by_cases h : j = k
    · rw [decide_eq_true h]; unfold dhas; rw [if_pos h]; rfl
    · rw [decide_eq_false h, Bool.false_or]
      show dhas r k = if j = k then true else dhas r k
      rw [if_neg h]
theorem map_dsub {κ : Type} [DecidableEq κ] (k : κ) (v : V) : ∀ (kvs : List (κ × V)), (kvs.map fun kv => if kv.1 = k then (kv.1, v) else kv) = dsub kvs k v
  | [] => rfl
  | (j, u) :: r => by rw [List.map_cons, map_dsub k v r]; rfl
theorem putK_dput {κ : Type} [DecidableEq κ] (k : κ) (v : V) (kvs : List (κ × V)) : putK kvs k v = dput kvs k v := by
  unfold putK dput
  rw [any_dhas, map_dsub]
section
variable {K : Fg} {G : Hp} {κ : Type} [DecidableEq κ]
theorem Reps.dget : ∀ {ys : List (κ × V)} {kvs : List (κ × D)} {k : κ} {d : D}, ys.map (·.1) = kvs.map (·.1) → Reps K G (ys.map (·.2)) (kvs.map (·.2)) → dget kvs k = some d → ∃ x, Dl.dget ys k = some x ∧ Rep K G x d
  | _, [], _, _, _, _, q => by cases q
  | [], _ :: _, _, _, e, _, _ => by cases e
  | (j', u) :: r', (j, v) :: r, k, d, e, rs, q => by
    rw [List.map_cons, List.map_cons] at e
    injection e with e1 e2
    have e1 : j' = j := e1
    subst e1
    cases rs with
    | cons h t =>
      unfold Dl.dget at q ⊢
      by_cases hk : j' = k
      · rw [if_pos hk] at q ⊢
        cases q
        exact ⟨u, rfl, h⟩
      · rw [if_neg hk] at q ⊢
        exact Reps.dget e2 t q
theorem Reps.dnone : ∀ {ys : List (κ × V)} {kvs : List (κ × D)} {k : κ}, ys.map (·.1) = kvs.map (·.1) → Dl.dget kvs k = none → Dl.dget ys k = none
  | [], _, _, _, _ => rfl
  | _ :: _, [], _, e, _ => by cases e
  | (j', u) :: r', (j, v) :: r, k, e, q => by
    rw [List.map_cons, List.map_cons] at e
    injection e with e1 e2
    have e1 : j' = j := e1
    subst e1
    unfold Dl.dget at q ⊢
    by_cases hk : j' = k
    · rw [if_pos hk] at q; cases q
    · rw [if_neg hk] at q ⊢
      exact Reps.dnone e2 q
theorem Reps.dsub {x : V} {d : D} (h : Rep K G x d) {k : κ} : ∀ {ys : List (κ × V)} {kvs : List (κ × D)}, ys.map (·.1) = kvs.map (·.1) → Reps K G (ys.map (·.2)) (kvs.map (·.2)) → Reps K G ((dsub ys k x).map (·.2)) ((dsub kvs k d).map (·.2))
  | [], [], _, _ => .nil
  | [], _ :: _, e, _ => by cases e
  | _ :: _, [], e, _ => by cases e
  | (j', u) :: r', (j, v) :: r, e, rs => by
    rw [List.map_cons, List.map_cons] at e
    injection e with e1 e2
    have e1 : j' = j := e1
    subst e1
    cases rs with
    | cons h1 t =>
      have ih := Reps.dsub h (k := k) e2 t
      unfold Dl.dsub
      rw [List.map_cons, List.map_cons]
      by_cases hk : j' = k
      · rw [if_pos hk, if_pos hk]; exact .cons h ih
      · rw [if_neg hk, if_neg hk]; exact .cons h1 ih
theorem Reps.dput {x : V} {d : D} (h : Rep K G x d) {k : κ} {ys : List (κ × V)} {kvs : List (κ × D)} (e : ys.map (·.1) = kvs.map (·.1)) (rs : Reps K G (ys.map (·.2)) (kvs.map (·.2))) : Reps K G ((dput ys k x).map (·.2)) ((dput kvs k d).map (·.2)) := by
  unfold Dl.dput
  rw [dhas_fst k e]
  split
  · exact Reps.dsub h e rs
  · rw [List.map_append, List.map_append]; exact rs.app (.cons h .nil)
end
def keyD : D → Option Key
  | .int i => some (.inl i)
  | .str s => some (.inr s)
  | _ => none
def keysD : List D → Option (List Key)
  | [] => some []
  | d :: ds => match keyD d, keysD ds with
    | some k, some ks => some (k :: ks)
    | _, _ => none
def keyT : D → Option (List Key)
  | .tup ds => keysD ds
  | _ => none
section
variable {K : Fg} {G : Hp}
theorem Rep.key {x : V} {d : D} {k : Key} (r : Rep K G x d) (e : keyD d = some k) : x = kV k := by
  cases r <;> simp only [keyD] at e <;> cases e <;> rfl
theorem Reps.keys : ∀ {xs : List V} {ds : List D} {ks : List Key}, Reps K G xs ds → keysD ds = some ks → xs = ks.map kV
  | _, _, ks, .nil, e => by simp only [keysD] at e; cases e; rfl
  | _, _, ks, .cons (d := d) (ds := ds) h t, e => by
    simp only [keysD] at e
    cases e1 : keyD d with
    | none => rw [e1] at e; cases e
    | some k =>
      cases e2 : keysD ds with
      | none => rw [e1, e2] at e; cases e
      | some qs => rw [e1, e2] at e; cases e; rw [Rep.key h e1, Reps.keys t e2]; rfl
theorem Rep.keyT {x : V} {d : D} {k : List Key} (r : Rep K G x d) (e : keyT d = some k) : ∃ b, x = .ref b ∧ G b = some (.tup (k.map kV)) := by
  cases r <;> simp only [Dl.keyT] at e <;> first
    | (cases e; done)
    | (rename_i h rs; exact ⟨_, rfl, by rw [h, Reps.keys rs e]⟩)
end
/-- what stands in a dict under a key: none: it is no dict with such keys -/
def dlook (v w : D) (M : Mem) : Option (Option D) := match v with
  | .dk kvs => (keyD w).map (dget kvs)
  | .dt kvs => (keyT w).map (dget kvs)
  | .obj a => match M a with
    | some (.dk kvs) => (keyD w).map (dget kvs)
    | some (.dt kvs) => (keyT w).map (dget kvs)
    | _ => none
  | _ => none
theorem dlook_ok {K : Fg} {F : Fm} {G H : Hp} {M : Mem} {x y : V} {v w : D} {o : Option D} (hr : HRel K F G H M) (rx : Rep K G x v) (ry : Rep K G y w) (e : dlook v w M = some o) :
    ∃ a o', x = .ref a ∧ DGet H a y o' ∧ ((o = none ∧ o' = none) ∨ ∃ d z, o = some d ∧ o' = some z ∧ Rep K G z d) := by
  have core : ∀ {κ : Type} [DecidableEq κ] {ys : List (κ × V)} {kvs : List (κ × D)} {k : κ}, ys.map (·.1) = kvs.map (·.1) → Reps K G (ys.map (·.2)) (kvs.map (·.2)) → ((dget kvs k = none ∧ valV ys k = none) ∨ ∃ d z, dget kvs k = some d ∧ valV ys k = some z ∧ Rep K G z d) := by
    intro κ _ ys kvs k e1 rs
    cases q : dget kvs k with
    | none => exact .inl ⟨rfl, by rw [valV_dget]; exact Reps.dnone e1 q⟩
    | some d => obtain ⟨z, h1, h2⟩ := Reps.dget e1 rs q; exact .inr ⟨d, z, rfl, by rw [valV_dget]; exact h1, h2⟩
  have kk : ∀ {a : Addr} {ys : List (Key × V)} {kvs : List (Key × D)}, H a = some (.dK ys) → ys.map (·.1) = kvs.map (·.1) → Reps K G (ys.map (·.2)) (kvs.map (·.2)) → (keyD w).map (dget kvs) = some o →
      ∃ a' o', V.ref a = .ref a' ∧ DGet H a' y o' ∧ ((o = none ∧ o' = none) ∨ ∃ d z, o = some d ∧ o' = some z ∧ Rep K G z d) := by
    intro a ys kvs h e1 rs eo
    obtain ⟨k, ek, eo⟩ := Option.map_eq_some_iff.mp eo
    subst eo
    rw [ry.key ek]
    exact ⟨a, _, rfl, .k h, core e1 rs⟩
  have tt : ∀ {a : Addr} {ys : List (List Key × V)} {kvs : List (List Key × D)}, H a = some (.dT ys) → ys.map (·.1) = kvs.map (·.1) → Reps K G (ys.map (·.2)) (kvs.map (·.2)) → (keyT w).map (dget kvs) = some o →
      ∃ a' o', V.ref a = .ref a' ∧ DGet H a' y o' ∧ ((o = none ∧ o' = none) ∨ ∃ d z, o = some d ∧ o' = some z ∧ Rep K G z d) := by
    intro a ys kvs h e1 rs eo
    obtain ⟨k, ek, eo⟩ := Option.map_eq_some_iff.mp eo
    subst eo
    obtain ⟨b, eb, hb⟩ := ry.keyT ek
    subst eb
    exact ⟨a, _, rfl, .t h (hr.sub _ _ hb), core e1 rs⟩
  unfold dlook at e
  cases rx with
  | dk h e1 rs => exact kk (hr.sub _ _ h) e1 rs e
  | dt h e1 rs => exact tt (hr.sub _ _ h) e1 rs e
  | obj =>
    rename_i a
    dsimp only at e
    cases q : M a with
    | none => rw [q] at e; cases e
    | some c =>
      rw [q] at e
      cases c with
      | dk kvs => obtain ⟨ys, h1, h2, h3⟩ := (hr.cell a _ q).1; exact kk h1 h2 h3 e
      | dt kvs => obtain ⟨ys, h1, h2, h3⟩ := (hr.cell a _ q).1; exact tt h1 h2 h3 e
      | lst _ => cases e
      | ins _ _ => cases e
  | _ => cases e
/-- the items of a list, tracked or still -/
def listD (v : D) (M : Mem) : Option (List D) := match v with
  | .lst ds => some ds
  | .ro ds => some ds
  | .obj a => match M a with
    | some (.lst ds) => some ds
    | _ => none
  | _ => none
theorem listD_ok {K : Fg} {F : Fm} {G H : Hp} {M : Mem} {x : V} {v : D} {ds : List D} (hr : HRel K F G H M) (rx : Rep K G x v) (e : listD v M = some ds) : ∃ a xs, x = .ref a ∧ SqL K H a xs ∧ Reps K G xs ds := by
  unfold listD at e
  cases rx with
  | lst h r => cases e; exact ⟨_, _, rfl, .inl (.inl (hr.sub _ _ h)), r⟩
  | ro h r => cases e; exact ⟨_, _, rfl, Same.seq hr.sub h, r⟩
  | obj =>
    rename_i a
    dsimp only at e
    cases q : M a with
    | none => rw [q] at e; cases e
    | some c =>
      rw [q] at e
      cases c with
      | lst ds' => cases e; obtain ⟨xs, h1, h2⟩ := (hr.cell a _ q).1; exact ⟨a, xs, rfl, .inl (.inl h1), h2⟩
      | _ => cases e
  | _ => cases e
/-- the items of a list or a tuple -/
def seqD (v : D) (M : Mem) : Option (List D) := match v with
  | .tup ds => some ds
  | v => listD v M
theorem seqD_ok {K : Fg} {F : Fm} {G H : Hp} {M : Mem} {x : V} {v : D} {ds : List D} (hr : HRel K F G H M) (rx : Rep K G x v) (e : seqD v M = some ds) : ∃ a xs, x = .ref a ∧ (SqL K H a xs ∨ SqT K H a xs) ∧ Reps K G xs ds := by
  cases v with
  | tup es => cases e; cases rx with
    | tup h r => exact ⟨_, _, rfl, .inr (.inl (.inl (hr.sub _ _ h))), r⟩
  | _ => obtain ⟨a, xs, h1, h2, h3⟩ := listD_ok hr rx e; exact ⟨a, xs, h1, .inl h2, h3⟩
theorem Reps.atI {K : Fg} {G : Hp} {xs : List V} {ds : List D} {i : Int} {d : D} (r : Reps K G xs ds) (e : atI ds i = some d) : ∃ x, L2.atI xs i = some x ∧ Rep K G x d := by
  unfold L2.atI at e ⊢
  rw [r.length]
  cases q : ixN ds.length i with
  | none => rw [q] at e; cases e
  | some j =>
    rw [q] at e
    exact r.get (i := j) e
/-- v[w] -/
def f_ix : D2 := fun v w M Q => match w with
  | .int i => (match seqD v M with
    | some ds => (match atI ds i with
      | some d => Q d M
      | none => False)
    | none => (match v with
      | .str z => z.length ≤ sizeLine ∧ (match atI z.cps.toList i with
        | some c => Q (.str ⟨#[c]⟩) M
        | none => False)
      | v => (match dlook v (.int i) M with
        | some (some d) => Q d M
        | _ => False)))
  | w => (match dlook v w M with
    | some (some d) => Q d M
    | _ => False)
def rIxD : R2 := fun x y H Q => ∃ a v, x = .ref a ∧ DGet H a y (some v) ∧ Q v H
section
variable {X : Cx} {F : Fm} {pos : Pos} {a b c e : Expr} {es : List Expr} {da db dc : DE} {dA : DA} {f : D2}
theorem ix_dict (hu : X.A.units + 64 < cLine) : IxR X rIxD := by
  intro value slice pins s σ H x y v u Q I rx ry h hs
  obtain ⟨a, z, rfl, g, q⟩ := h
  cases rx
  exact tail_any (dict_typeIs I g) PySem.F.slot_dict_getitem.lookup (d_getItem (by omega) I g ry fun w' s' I' r' => ⟨z, H, I', r', q⟩) hs
theorem ref_ixD {K : Fg} {G H : Hp} {M : Mem} {x y : V} {v w : D} {post : D → Mem → Prop} {Q : VK} (hr : HRel K F G H M) (rx : Rep K G x v) (ry : Rep K G y w) (d : match dlook v w M with
    | some (some d) => post d M
    | _ => False) (k : QE K F G post Q) : rIxD x y H Q := by
  cases e : dlook v w M with
  | none => rw [e] at d; exact d.elim
  | some o =>
    rw [e] at d
    cases o with
    | none => exact d.elim
    | some z =>
      obtain ⟨a, o', e1, g, h⟩ := dlook_ok hr rx ry e
      rcases h with ⟨h, _⟩ | ⟨d', z', h1, h2, h3⟩
      · cases h
      · cases h1; subst h2
        exact ⟨a, z', e1, g, k.here hr h3 d⟩
theorem ref_ix {K : Fg} : Ref2 K F (fun x y H Q => rIx K x y H Q ∨ rIxD x y H Q) f_ix := by
  intro G H M x y v w post Q hr rx ry d k
  cases w with
  | int i =>
    unfold f_ix at d
    dsimp only at d
    cases e : seqD v M with
    | some ds =>
      rw [e] at d
      dsimp only at d
      cases e2 : L2.atI ds i with
      | none => rw [e2] at d; exact d.elim
      | some z =>
        rw [e2] at d
        obtain ⟨p, xs, rfl, hq, rs⟩ := seqD_ok hr rx e
        obtain ⟨u, e3, ru⟩ := rs.atI e2
        cases ry
        rcases hq with hq | hq
        · exact .inl (.inl ⟨p, xs, i, u, rfl, rfl, hq, e3, k.here hr ru d⟩)
        · exact .inl (.inr (.inl ⟨p, xs, i, u, rfl, rfl, hq, e3, k.here hr ru d⟩))
    | none =>
      rw [e] at d
      dsimp only at d
      cases v with
      | str z =>
        dsimp only at d
        cases rx; cases ry
        cases e2 : L2.atI z.cps.toList i with
        | none => rw [e2] at d; exact d.2.elim
        | some c => rw [e2] at d; exact .inl (.inr (.inr ⟨z, i, c, rfl, rfl, d.1, e2, k.here hr .str d.2⟩))
      | _ => exact .inr (ref_ixD hr rx ry d k)
  | _ => exact .inr (ref_ixD hr rx ry d k)
theorem pd_ix (hu : X.A.units + 64 < cLine) (ha : PD X F a da) (hb : PD X F b db) (hs : PlainIx b := by intro _ _; rfl) : PD X F (.Subscript a b pos) (dBin f_ix da db) :=
  pe_imp (pe_ix ((ix_seq (X := X)).or (ix_dict hu)) ha hb hs) (bin_imp ref_ix)

/-! ### in -/
def flatD : D → Bool
  | .non => true
  | .bl _ => true
  | .int _ => true
  | .str _ => true
  | _ => false
def eqF : D → D → Bool
  | .non, .non => true
  | .bl a, .bl b => a == b
  | .bl a, .int b => (if a then 1 else 0) == b
  | .int a, .bl b => a == (if b then 1 else 0)
  | .int a, .int b => a == b
  | .str a, .str b => a == b
  | _, _ => false
theorem Rep.flat {K : Fg} {G : Hp} {x : V} {d : D} (r : Rep K G x d) (h : flatD d = true) : flatV x = true := by cases r <;> first | rfl | cases h
theorem Rep.eqf {K : Fg} {G : Hp} {x y : V} {d e : D} (r : Rep K G x d) (q : Rep K G y e) (h : flatD d = true) (h' : flatD e = true) : eqV x y = eqF d e := by
  cases r <;> first | (cases h; done) | (cases q <;> first | rfl | (cases h'; done))
theorem Reps.flat {K : Fg} {G : Hp} : ∀ {xs : List V} {ds : List D}, Reps K G xs ds → ds.all flatD = true → xs.all flatV = true
  | _, _, .nil, _ => rfl
  | _, _, .cons h t, e => by
    rw [List.all_cons, Bool.and_eq_true] at e
    rw [List.all_cons, Rep.flat h e.1, Reps.flat t e.2]; rfl
theorem Reps.inf {K : Fg} {G : Hp} {x : V} {d : D} (r : Rep K G x d) (h' : flatD d = true) : ∀ {xs : List V} {ds : List D}, Reps K G xs ds → ds.all flatD = true → inV x xs = ds.any fun e => eqF e d
  | _, _, .nil, _ => rfl
  | _, _, .cons h t, e => by
    rw [List.all_cons, Bool.and_eq_true] at e
    have ih := Reps.inf r h' t e.2
    unfold inV at ih ⊢
    rw [List.any_cons, List.any_cons, ih, Rep.eqf h r e.1 h']
def rInDict (neg : Bool) : R2 := fun x y H Q => ∃ a o, y = .ref a ∧ DGet H a x o ∧ Q (.bl (if neg then !o.isSome else o.isSome)) H
theorem opr_inDict (hu : X.A.units + 64 < cLine) : OpR X (compareOp .In) (rInDict false) := by
  intro pins s σ H x y v u Q I rx ry h
  obtain ⟨a, o, rfl, g, q⟩ := h
  cases ry
  exact d_in (by omega) I g rx fun s' I' => ⟨.bl _, H, I', rfl, q⟩
theorem opr_notInDict (hu : X.A.units + 64 < cLine) : OpR X (compareOp .NotIn) (rInDict true) := by
  intro pins s σ H x y v u Q I rx ry h
  obtain ⟨a, o, rfl, g, q⟩ := h
  cases ry
  exact d_notIn (by omega) I g rx fun s' I' => ⟨.bl _, H, I', rfl, q⟩
def rInStr (neg : Bool) : R2 := fun x y H Q => ∃ i j, x = .str i ∧ y = .str j ∧ Q (.bl (if neg then !(!(Builtin.Str.occurrences j i 0 j.length 1).isEmpty) else !(Builtin.Str.occurrences j i 0 j.length 1).isEmpty)) H
def f_in (neg : Bool) : D2 := fun v w M Q => match seqD w M with
  | some ds => flatD v = true ∧ ds.all flatD = true ∧ Q (.bl (if neg then !(ds.any fun e => eqF e v) else ds.any fun e => eqF e v)) M
  | none => (match w with
    | .str z => (match v with
      | .str i => Q (.bl (if neg then !(!(Builtin.Str.occurrences z i 0 z.length 1).isEmpty) else !(Builtin.Str.occurrences z i 0 z.length 1).isEmpty)) M
      | _ => False)
    | w => (match dlook w v M with
      | some o => Q (.bl (if neg then !o.isSome else o.isSome)) M
      | none => False))
theorem ref_inD {K : Fg} {neg : Bool} {G H : Hp} {M : Mem} {x y : V} {v w : D} {post : D → Mem → Prop} {Q : VK} (hr : HRel K F G H M) (rx : Rep K G x v) (ry : Rep K G y w) (d : match dlook w v M with
    | some o => post (.bl (if neg then !o.isSome else o.isSome)) M
    | none => False) (k : QE K F G post Q) : rInDict neg x y H Q := by
  cases e : dlook w v M with
  | none => rw [e] at d; exact d.elim
  | some o =>
    rw [e] at d
    obtain ⟨a, o', e1, g, h⟩ := dlook_ok hr ry rx e
    have eo : o'.isSome = o.isSome := by
      rcases h with ⟨rfl, rfl⟩ | ⟨d', z', rfl, rfl, _⟩ <;> rfl
    refine ⟨a, o', e1, g, ?_⟩
    rw [eo]
    exact k.here hr .bl d
theorem ref_in {K : Fg} {neg : Bool} : Ref2 K F (fun x y H Q => rIn K neg x y H Q ∨ rInStr neg x y H Q ∨ rInDict neg x y H Q) (f_in neg) := by
  intro G H M x y v w post Q hr rx ry d k
  unfold f_in at d
  cases e : seqD w M with
  | some ds =>
    rw [e] at d
    obtain ⟨d1, d2, d3⟩ := d
    obtain ⟨p, xs, rfl, hq, rs⟩ := seqD_ok hr ry e
    refine .inl ⟨p, xs, rfl, hq, rx.flat d1, rs.flat d2, ?_⟩
    rw [Reps.inf rx d1 rs d2]
    exact k.here hr .bl d3
  | none =>
    rw [e] at d
    dsimp only at d
    cases w with
    | str z =>
      dsimp only at d
      cases v with
      | str i => cases rx; cases ry; exact .inr (.inl ⟨i, z, rfl, rfl, k.here hr .bl d⟩)
      | _ => exact d.elim
    | _ => exact .inr (.inr (ref_inD hr rx ry d k))
theorem pd_in (hu : X.A.units + 64 < cLine) (ha : PD X F a da) (hb : PD X F b db) (hm : behindInMarks .In b = false := by rfl) : PD X F (.Compare a [.In] [b] pos) (dBin (f_in false) da db) := pd_cmp (op_in_seq.or (op_in_str.or (opr_inDict hu))) ref_in ha hb hm
theorem pt_in (hu : X.A.units + 64 < cLine) (ha : PD X F a da) (hb : PD X F b db) (hm : behindInMarks .In b = false := by rfl) : PDT X F (.Compare a [.In] [b] pos) (dTr (dBin (f_in false) da db)) := pt_cmpd (op_in_seq.or (op_in_str.or (opr_inDict hu))) ref_in ha hb hm
theorem pd_notin (hu : X.A.units + 64 < cLine) (ha : PD X F a da) (hb : PD X F b db) (hm : behindInMarks .NotIn b = false := by rfl) : PD X F (.Compare a [.NotIn] [b] pos) (dBin (f_in true) da db) := pd_cmp (op_notIn_seq.or (op_notin_str.or (opr_notInDict hu))) ref_in ha hb hm
theorem pt_notin (hu : X.A.units + 64 < cLine) (ha : PD X F a da) (hb : PD X F b db) (hm : behindInMarks .NotIn b = false := by rfl) : PDT X F (.Compare a [.NotIn] [b] pos) (dTr (dBin (f_in true) da db)) := pt_cmpd (op_notIn_seq.or (op_notin_str.or (opr_notInDict hu))) ref_in ha hb hm

/-! ### slices -/
abbrev DO := Rho → Mem → (Option Int → Mem → Prop) → Prop
def LO (K : Fg) (F : Fm) (d : DO) : TO := fun σ H Q => ∃ G ρ M post, HRel K F G H M ∧ SRel K G σ ρ ∧ d ρ M post ∧ ∀ G' H' M' o, Same G G' → HRel K F G' H' M' → post o M' → Q o H'
abbrev PDO (X : Cx) (F : Fm) (e : Option Expr) (d : DO) : Prop := PO X e (LO X.K F d)
def doNone : DO := fun _ M Q => Q none M
def doSome (d : DE) : DO := fun ρ M Q => d ρ M fun x M1 => match x with
  | .int i => Q (some i) M1
  | _ => False
theorem po_imp {X : Cx} {e : Option Expr} {t t' : TO} (h : PO X e t) (i : ∀ σ H Q, t' σ H Q → t σ H Q) : PO X e t' := ⟨fun pins s σ H Q I q => h.run pins s σ H Q I (i σ H Q q)⟩
theorem pd_none : PDO X F none doNone := po_imp po_none fun σ H Q ⟨G, ρ, M, post, hr, sr, d, k⟩ => k G H M none (Same.refl _) hr d
theorem pd_some (h : PD X F e da) : PDO X F (some e) (doSome da) := po_imp (po_some h) fun σ H Q ⟨G, ρ, M, post, hr, sr, d, k⟩ =>
  ⟨G, ρ, M, _, hr, sr, d, fun G1 H1 M1 x v s1 h1 rx q1 => by
    cases v with
    | int i => cases rx; exact ⟨i, rfl, k G1 H1 M1 _ s1 h1 q1⟩
    | _ => exact (show False from q1).elim⟩
def cutD {α : Type} (xs : List α) (lo hi : Option Int) : List α := (xs.drop (HT.sIx xs.length 0 lo)).take (HT.sIx xs.length xs.length hi - HT.sIx xs.length 0 lo)
theorem Reps.cut {K : Fg} {G : Hp} {xs : List V} {ds : List D} (r : Reps K G xs ds) (lo hi : Option Int) : Reps K G (cutV xs lo hi) (cutD ds lo hi) := by
  unfold cutV cutD
  rw [r.length]
  exact (r.drop _).take _
def f_slice (fresh : Bool) (v : D) (lo hi : Option Int) (M : Mem) (Q : D → Mem → Prop) : Prop := match listD v M with
  | some ds => if fresh then ∀ p, M p = none → Q (.obj p) (st M p (.lst (cutD ds lo hi))) else Q (.lst (cutD ds lo hi)) M
  | none => (match v with
    | .str z => z.length ≤ sizeLine ∧ Q (.str (cutS z lo hi)) M
    | .tup ds => ¬ (HT.sIx ds.length 0 lo = 0 ∧ HT.sIx ds.length ds.length hi = ds.length) ∧ Q (.tup (cutD ds lo hi)) M
    | _ => False)
def dSl (fresh : Bool) (da : DE) (dl dh : DO) : DE := fun ρ M Q => da ρ M fun x M1 => dl ρ M1 fun l M2 => dh ρ M2 fun h M3 => f_slice fresh x l h M3 Q
end
end Dl

/-! Dl4: slices, dicts made, built-ins called, methods of lists and dicts. -/
namespace Dl
open L2 PySem PyProof.Rows PySem.Spec
section
variable {X : Cx} {F : Fm} {pos : Pos} {a b c e : Expr} {es : List Expr} {da db dc : DE} {dA : DA} {f : D2} {dl dh : DO} {lo hi : Option Expr} {p2 : Pos}
theorem pd_slice (fresh : Bool) (he : PD X F e da) (hl : PDO X F lo dl) (hh : PDO X F hi dh) : PD X F (.Subscript e (.Slice lo hi none p2) pos) (dSl fresh da dl dh) :=
  pe_imp (pe_slice (sl_list.or (sl_tup.or sl_str)) he hl hh) fun σ H Q ⟨G, ρ, M, post, hr, sr, d, k⟩ =>
    ⟨G, ρ, M, _, hr, sr, d, fun G1 H1 M1 x v s1 h1 rx q1 => ⟨G1, ρ, M1, _, h1, sr.mono s1, q1, fun G2 H2 M2 l s2 h2 q2 => ⟨G2, ρ, M2, _, h2, sr.mono (s1.trans s2), q2, fun G3 H3 M3 h s3 h3 q3 => by
      have rx3 := rx.mono (s2.trans s3)
      have k3 := k.later (s1.trans (s2.trans s3))
      have q3 : f_slice fresh v l h M3 post := q3
      unfold f_slice at q3
      cases ev : listD v M3 with
      | some ds =>
        rw [ev] at q3
        dsimp only at q3
        obtain ⟨a, xs, rfl, hq, rs⟩ := listD_ok h3 rx3 ev
        refine .inl ⟨a, xs, rfl, hq, fun p hp => ?_⟩
        cases fresh with
        | false => exact k3.new h3 hp (.lst upd_same ((rs.mono (h3.new hp).1).cut l h)) q3
        | true => exact k3.newC (c := .lst _) h3 hp ⟨_, upd_same, rs.cut l h⟩ (q3 p (h3.mnone hp).1)
      | none =>
        rw [ev] at q3
        dsimp only at q3
        cases v with
        | str z => cases rx3; exact .inr (.inr ⟨z, rfl, q3.1, k3.here h3 .str q3.2⟩)
        | tup ds =>
          cases rx3 with
          | tup ht rs =>
            refine .inr (.inl ⟨_, _, rfl, .inl (.inl (h3.sub _ _ ht)), by rw [rs.length]; exact q3.1, fun p hp => ?_⟩)
            exact k3.new h3 hp (.tup upd_same ((rs.mono (h3.new hp).1).cut l h)) q3.2
        | _ => exact q3.elim⟩⟩⟩

/-! ### dicts made -/
def dNewK : DE := fun _ M Q => ∀ p, M p = none → Q (.obj p) (st M p (.dk []))
def dNewT : DE := fun _ M Q => ∀ p, M p = none → Q (.obj p) (st M p (.dt []))
theorem pd_newK : PD X F (.Dict [] [] pos) dNewK := pe_imp pe_dnewK fun σ H Q ⟨G, ρ, M, post, hr, sr, d, k⟩ p hp => k.newC (c := .dk []) hr hp ⟨[], upd_same, rfl, .nil⟩ (d p (hr.mnone hp).1)
theorem pd_newT : PD X F (.Dict [] [] pos) dNewT := pe_imp pe_dnewT fun σ H Q ⟨G, ρ, M, post, hr, sr, d, k⟩ p hp => k.newC (c := .dt []) hr hp ⟨[], upd_same, rfl, .nil⟩ (d p (hr.mnone hp).1)
/-- the frame with more left alone -/
structure Fm.Le (F F' : Fm) : Prop where
  b : F'.B = F.B
  r : Same F.R F'.R
theorem Fm.Le.refl (F : Fm) : Fm.Le F F := ⟨rfl, Same.refl _⟩
theorem Fm.Le.trans {F F' F'' : Fm} (a : Fm.Le F F') (b : Fm.Le F' F'') : Fm.Le F F'' := ⟨b.b.trans a.b, a.r.trans b.r⟩
theorem HRel.down {K : Fg} {F F' : Fm} {G H : Hp} {M : Mem} (l : Fm.Le F F') (h : HRel K F' G H M) : HRel K F G H M :=
  ⟨by have := h.base; rw [l.b] at this; exact this, h.sub, l.r.trans h.rs, fun a o q => h.rg a o (l.r _ _ q), fun a c q => ⟨(h.cell a c q).1, (h.cell a c q).2.1, l.r.free (h.cell a c q).2.2⟩⟩
/-- the pairs of a display -/
def dPairs : List (DE × DE) → Rho → Mem → (List (D × D) → Mem → Prop) → Prop
  | [], _, M, Q => Q [] M
  | (dk, dv) :: r, ρ, M, Q => dk ρ M fun x M1 => dv ρ M1 fun y M2 => dPairs r ρ M2 fun ps M3 => Q ((x, y) :: ps) M3
/-- a reading for some frame with more left alone -/
def LX (K : Fg) (F : Fm) (d : DE) : TE := fun σ H Q => ∃ F', Fm.Le F F' ∧ LE K F' d σ H Q
theorem pe_lx (h : ∀ F', Fm.Le F F' → PD X F' e da) : PE X e (LX X.K F da) := ⟨fun pins s σ H Q I ⟨F', l, q⟩ => (h F' l).run pins s σ H Q I q⟩
structure PDP (X : Cx) (F : Fm) (pos : Pos) (keys : List (Option Expr)) (values : List Expr) (trs : List (DE × DE)) : Prop where
  ok : PPs X pos keys values (trs.map fun t => (LX X.K F t.1, LX X.K F t.2))
theorem pdp_nil : PDP X F pos [] [] [] := ⟨pps_nil⟩
theorem pdp_cons {k v : Expr} {ks : List (Option Expr)} {vs : List Expr} {dk dv : DE} {trs : List (DE × DE)} (hk : ∀ F', Fm.Le F F' → PD X F' k dk) (hv : ∀ F', Fm.Le F F' → PD X F' v dv) (hr : PDP X F pos ks vs trs) : PDP X F pos (some k :: ks) (v :: vs) ((dk, dv) :: trs) := ⟨pps_cons (pe_lx hk) (pe_lx hv) hr.ok⟩
def RepP (K : Fg) (G : Hp) : List (V × V) → List (D × D) → Prop := fun ps qs => Reps K G (ps.map (·.1)) (qs.map (·.1)) ∧ Reps K G (ps.map (·.2)) (qs.map (·.2)) ∧ ps.length = qs.length
theorem pairs_imp {K : Fg} {F' : Fm} (l : Fm.Le F F') : ∀ {trs : List (DE × DE)} {σ : L2.St} {ρ : Rho} {G H : Hp} {M : Mem} {post : List (D × D) → Mem → Prop} {Q : List (V × V) → Hp → Prop}, HRel K F' G H M → SRel K G σ ρ → dPairs trs ρ M post →
    (∀ G' H' M' ps qs, Same G G' → HRel K F' G' H' M' → RepP K G' ps qs → post qs M' → Q ps H') → tPairs (trs.map fun t => (LX K F t.1, LX K F t.2)) σ H Q
  | [], σ, ρ, G, H, M, post, Q, hr, sr, d, k => k G H M [] [] (Same.refl _) hr ⟨.nil, .nil, rfl⟩ d
  | (dk, dv) :: trs, σ, ρ, G, H, M, post, Q, hr, sr, d, k =>
    ⟨F', l, G, ρ, M, _, hr, sr, d, fun G1 H1 M1 x v s1 h1 rx q1 => ⟨F', l, G1, ρ, M1, _, h1, sr.mono s1, q1, fun G2 H2 M2 y w s2 h2 ry q2 =>
      pairs_imp l h2 (sr.mono (s1.trans s2)) q2 fun G3 H3 M3 ps qs s3 h3 rp q3 => k G3 H3 M3 ((x, y) :: ps) ((v, w) :: qs) (s1.trans (s2.trans s3)) h3 ⟨Reps.cons ((rx.mono s2).mono s3) rp.1, Reps.cons (ry.mono s3) rp.2.1, congrArg (· + 1) rp.2.2⟩ q3⟩⟩
def pairsK : List (D × D) → Option (List (Key × D))
  | [] => some []
  | (k, v) :: r => match keyD k, pairsK r with
    | some k', some r' => some ((k', v) :: r')
    | _, _ => none
def dmerge (kvs : List (Key × D)) : List (Key × D) := kvs.foldl (fun acc kv => dput acc kv.1 kv.2) []
/-- a display of a dict with keys that are ints and texts -/
def dDisp (fresh : Bool) (trs : List (DE × DE)) : DE := fun ρ M Q => dPairs trs ρ M fun ps M1 => match pairsK ps with
  | some kvs => kvs.length ≤ 15 ∧ (if fresh then ∀ p, M1 p = none → Q (.obj p) (st M1 p (.dk (dmerge kvs))) else Q (.dk (dmerge kvs)) M1)
  | none => False
theorem RepP.keys {K : Fg} {G : Hp} : ∀ {ps : List (V × V)} {qs : List (D × D)} {kvs : List (Key × D)}, RepP K G ps qs → pairsK qs = some kvs →
    ∃ ys : List (Key × V), ps = ys.map (fun kv => (kV kv.1, kv.2)) ∧ ys.map (·.1) = kvs.map (·.1) ∧ Reps K G (ys.map (·.2)) (kvs.map (·.2))
  | [], [], kvs, r, e => by cases e; exact ⟨[], rfl, rfl, .nil⟩
  | [], _ :: _, _, r, _ => by cases r.2.2
  | _ :: _, [], _, r, _ => by cases r.2.2
  | (x, y) :: ps, (k, v) :: qs, kvs, r, e => by
    obtain ⟨r1, r2, r3⟩ := r
    unfold pairsK at e
    cases e1 : keyD k with
    | none => rw [e1] at e; cases e
    | some k' =>
      cases e2 : pairsK qs with
      | none => rw [e1, e2] at e; cases e
      | some r' =>
        rw [e1, e2] at e
        cases e
        cases r1 with
        | cons h1 t1 =>
          cases r2 with
          | cons h2 t2 =>
            obtain ⟨ys, i1, i2, i3⟩ := RepP.keys (ps := ps) (qs := qs) ⟨t1, t2, Nat.succ.inj r3⟩ e2
            refine ⟨(k', y) :: ys, ?_, ?_, .cons h2 i3⟩
            · rw [List.map_cons, i1]
              have : x = kV k' := Rep.key h1 e1
              rw [this]
            · rw [List.map_cons, List.map_cons, i2]
theorem merge_ok {K : Fg} {G : Hp} : ∀ {ys : List (Key × V)} {kvs : List (Key × D)} {ya : List (Key × V)} {ka : List (Key × D)}, ys.map (·.1) = kvs.map (·.1) → Reps K G (ys.map (·.2)) (kvs.map (·.2)) → ya.map (·.1) = ka.map (·.1) → Reps K G (ya.map (·.2)) (ka.map (·.2)) →
    (mergeK ya ys).map (·.1) = (kvs.foldl (fun acc kv => dput acc kv.1 kv.2) ka).map (·.1) ∧ Reps K G ((mergeK ya ys).map (·.2)) ((kvs.foldl (fun acc kv => dput acc kv.1 kv.2) ka).map (·.2))
  | [], [], ya, ka, _, _, e, r => ⟨e, r⟩
  | [], _ :: _, _, _, e, _, _, _ => by cases e
  | _ :: _, [], _, _, e, _, _, _ => by cases e
  | (j', u) :: ys, (j, v) :: kvs, ya, ka, e, rs, e3, r3 => by
    rw [List.map_cons, List.map_cons] at e
    injection e with e1 e2
    have e1 : j' = j := e1
    subst e1
    cases rs with
    | cons h t =>
      have := merge_ok (ys := ys) (kvs := kvs) (ya := dput ya j' u) (ka := dput ka j' v) e2 t (dput_fst j' v u e3) (Reps.dput h e3 r3)
      unfold mergeK at this ⊢
      rw [List.foldl_cons, List.foldl_cons, putK_dput]
      exact this
theorem pd_disp (fresh : Bool) {keys : List (Option Expr)} {values : List Expr} {trs : List (DE × DE)} (h : PDP X F pos keys values trs) (hall : keys.all (·.isSome) = true := by rfl) (hl : keys.length = values.length := by rfl) (h0 : keys ≠ [] := by intro z; cases z)
    (h15 : keys.length ≤ 15 := by decide) : PD X F (.Dict keys values pos) (dDisp fresh trs) :=
  pe_imp (pe_disp h.ok hall hl h0 h15) fun σ H Q ⟨G, ρ, M, post, hr, sr, d, k⟩ p hp => by
    obtain ⟨hm, hg, hrr⟩ := hr.mnone hp
    have l : Fm.Le F ⟨F.B, upd F.R p (.dK [])⟩ := ⟨rfl, same_upd hrr⟩
    refine pairs_imp l (hr.hide (o := .dK []) hp) sr d fun G1 H1 M1 ps qs s1 h1 rp q1 => ?_
    have hp1 : H1 p = some (.dK []) := h1.rs p _ upd_same
    refine ⟨hp1, ?_⟩
    cases e : pairsK qs with
    | none => rw [e] at q1; exact q1.elim
    | some kvs =>
      rw [e] at q1
      obtain ⟨q2, q3⟩ := q1
      obtain ⟨ys, e1, e2, r2⟩ := RepP.keys rp e
      have el : ys.length = kvs.length := by simpa using congrArg List.length e2
      refine ⟨ys, e1, by omega, ?_⟩
      obtain ⟨m1, m2⟩ := merge_ok (ya := []) (ka := []) e2 r2 rfl .nil
      have h2 := h1.hidden (o' := .dK (mergeK [] ys))
      cases fresh with
      | false =>
        obtain ⟨s3, h3⟩ := h2.shown hrr
        exact k _ _ _ _ _ (s1.trans s3) h3 (.dk upd_same m1 (m2.mono s3)) q3
      | true =>
        have h3 := h2.shownC (c := .dk (dmerge kvs)) hrr ⟨_, upd_same, m1, m2⟩
        have hm1 : M1 p = none := by
          cases q : M1 p with
          | none => rfl
          | some c =>
            have z : upd F.R p (.dK []) p = none := (h1.cell p c q).2.2
            rw [upd_same] at z; cases z
        exact k _ _ _ _ _ s1 h3 .obj (q3 p hm1)
end
end Dl

/-! Dl5: built-ins called, methods, defs called, exceptions wished for. -/
namespace Dl
open L2 PySem PyProof.Rows PySem.Spec

def RefN (K : Fg) (F : Fm) (r : List V → Hp → VK → Prop) (f : DN) : Prop := ∀ {G H : Hp} {M : Mem} {xs : List V} {vs : List D} {post : D → Mem → Prop} {Q : VK}, HRel K F G H M → Reps K G xs vs → f vs M post → QE K F G post Q → r xs H Q
def dCB (f : DN) (dA : DA) : DE := fun ρ M Q => dA ρ M fun vs M1 => f vs M1 Q
section
variable {X : Cx} {F : Fm} {pos p : Pos} {a b c e : Expr} {es : List Expr} {da db dc : DE} {dA : DA} {f : DN} {x : Str} {id T : String} {r : List V → Hp → VK → Prop}
theorem cb_imp (hf : RefN X.K F r f) : ∀ σ H Q, LE X.K F (dCB f dA) σ H Q → tCB r (LA X.K F dA) σ H Q := fun σ H Q ⟨G, ρ, M, post, hr, sr, d, k⟩ =>
  ⟨G, ρ, M, _, hr, sr, d, fun G1 H1 M1 xs vs s1 h1 rs q1 => hf h1 rs q1 (k.later s1)⟩
theorem pd_cB (hc : CallR X (.builtin id) r) (hf : RefN X.K F r f) (hm : X.mg x = none) (ha : PDA X F (e :: es) dA) (hv : bootBuiltins x = some (.builtin id) := by decide +kernel) (hg : Gl X x := by rfl) (hn : x ≠ "__name__" := by decide) (hdb : (x == ("__debug__" : Str)) = false := by decide)
    (he : starEach (e :: es) X.env = (false, eval e X.env) :: starEach es X.env := by rfl) (hpl : (backTo pos (starEach es X.env)).any (·.1) = false := by rfl) : PD X F (.Call (.Name x p) (e :: es) [] pos) (dCB f dA) :=
  pe_imp (pe_callB hc hg hm hv ha hn hdb he hpl) (cb_imp hf)
theorem pd_cTy (hc : CallR X (.type T) r) (hf : RefN X.K F r f) (hm : X.mg x = none) (ha : PDA X F (e :: es) dA) (hv : bootBuiltins x = some (.type T) := by decide +kernel) (hg : Gl X x := by rfl) (hn : x ≠ "__name__" := by decide) (hdb : (x == ("__debug__" : Str)) = false := by decide)
    (he : starEach (e :: es) X.env = (false, eval e X.env) :: starEach es X.env := by rfl) (hpl : (backTo pos (starEach es X.env)).any (·.1) = false := by rfl) : PD X F (.Call (.Name x p) (e :: es) [] pos) (dCB f dA) :=
  pe_imp (pe_callTy hc hg hm hv ha hn hdb he hpl) (cb_imp hf)
theorem pd_cFn (hc : CallR X (.builtin id) r) (hf : RefN X.K F r f) (hm : X.mg x = some (.builtin id)) (ha : PDA X F (e :: es) dA) (hg : Gl X x := by rfl) (hdb : (x == ("__debug__" : Str)) = false := by decide)
    (he : starEach (e :: es) X.env = (false, eval e X.env) :: starEach es X.env := by rfl) (hpl : (backTo pos (starEach es X.env)).any (·.1) = false := by rfl) : PD X F (.Call (.Name x p) (e :: es) [] pos) (dCB f dA) :=
  pe_imp (pe_callBfun hc hg hm ha hdb he hpl) (cb_imp hf)

/-! ### by their values -/
def intsD : List D → Option (List Int)
  | [] => some []
  | .int i :: r => (intsD r).map (i :: ·)
  | _ => none
theorem intsD_ok : ∀ {ds : List D} {ns : List Int}, intsD ds = some ns → ds = ns.map D.int
  | [], _, e => by simp only [intsD] at e; cases e; rfl
  | d :: r, ns, e => by
    cases d <;> simp only [intsD] at e <;> first
      | (cases e; done)
      | (obtain ⟨ms, e1, e2⟩ := Option.map_eq_some_iff.mp e; subst e2; rw [intsD_ok e1]; rfl)
def f_len : DN := fun vs M Q => match vs with
  | [v] => (match seqD v M with
    | some ds => Q (.int ds.length) M
    | none => (match v with
      | .str z => z.length ≤ sizeLine ∧ Q (.int z.length) M
      | .dk kvs => Q (.int kvs.length) M
      | .obj a => (match M a with
        | some (.dk kvs) => Q (.int kvs.length) M
        | _ => False)
      | _ => False))
  | _ => False
theorem ref_len {K : Fg} : RefN K F (fun xs H Q => (∃ p ys, xs = [.ref p] ∧ (SqL K H p ys ∨ SqT K H p ys) ∧ Q (.int ys.length) H) ∨ (∃ z, xs = [.str z] ∧ z.length ≤ sizeLine ∧ Q (.int z.length) H) ∨ ∃ a kvs, xs = [V.ref a] ∧ H a = some (.dK kvs) ∧ Q (.int kvs.length) H) f_len := by
  intro G H M xs vs post Q hr rs d k
  unfold f_len at d
  split at d
  · rename_i v
    cases rs with
    | cons rx t =>
      cases t
      cases e : seqD v M with
      | some ds =>
        rw [e] at d
        obtain ⟨q, ys, rfl, hq, rq⟩ := seqD_ok hr rx e
        exact .inl ⟨q, ys, rfl, hq, by rw [rq.length]; exact k.here hr .int d⟩
      | none =>
        rw [e] at d
        dsimp only at d
        cases v with
        | str z => cases rx; exact .inr (.inl ⟨z, rfl, d.1, k.here hr .int d.2⟩)
        | dk kvs =>
          cases rx with
          | dk h e1 r1 =>
            have el := congrArg List.length e1
            rw [List.length_map, List.length_map] at el
            exact .inr (.inr ⟨_, _, rfl, hr.sub _ _ h, by rw [el]; exact k.here hr .int d⟩)
        | obj a =>
          cases rx
          dsimp only at d
          cases q : M a with
          | none => rw [q] at d; exact d.elim
          | some c =>
            rw [q] at d
            cases c with
            | dk kvs =>
              obtain ⟨ys, h1, h2, h3⟩ := (hr.cell a _ q).1
              have el := congrArg List.length h2
              rw [List.length_map, List.length_map] at el
              exact .inr (.inr ⟨a, ys, rfl, h1, by rw [el]; exact k.here hr .int d⟩)
            | _ => exact d.elim
        | _ => exact d.elim
  · exact d.elim
theorem pd_len (hm : X.mg "len" = none) (ha : PDA X F [a] dA) (hg : Gl X "len" := by rfl) (he : starEach [a] X.env = (false, eval a X.env) :: starEach [] X.env := by rfl) : PD X F (.Call (.Name "len" p) [a] [] pos) (dCB f_len dA) :=
  pd_cB (call_len_seq.or (call_len_str.or call_lenD)) ref_len hm ha PySem.boot_len hg (by decide) (by decide) he rfl
def f_abs : DN := fun vs M Q => match vs with
  | [.int i] => Q (.int (if i < 0 then -i else i)) M
  | _ => False
theorem ref_abs {K : Fg} : RefN K F (fun xs H Q => ∃ i, xs = [.int i] ∧ Q (.int (if i < 0 then -i else i)) H) f_abs := by
  intro G H M xs vs post Q hr rs d k
  unfold f_abs at d
  split at d
  · cases rs with
    | cons h t => cases h; cases t; exact ⟨_, rfl, k.here hr .int d⟩
  · exact d.elim
theorem pd_abs (hm : X.mg "abs" = none) (ha : PDA X F [a] dA) (hg : Gl X "abs" := by rfl) (he : starEach [a] X.env = (false, eval a X.env) :: starEach [] X.env := by rfl) : PD X F (.Call (.Name "abs" p) [a] [] pos) (dCB f_abs dA) :=
  pd_cB call_abs ref_abs hm ha (by decide +kernel) hg (by decide) (by decide) he rfl
def f_max2 : DN := fun vs M Q => match vs with
  | [.int i, .int j] => Q (.int (if j > i then j else i)) M
  | _ => False
def f_min2 : DN := fun vs M Q => match vs with
  | [.int i, .int j] => Q (.int (if j < i then j else i)) M
  | _ => False
theorem ref_max2 {K : Fg} : RefN K F (fun xs H Q => ∃ i j, xs = [.int i, .int j] ∧ Q (.int (if j > i then j else i)) H) f_max2 := by
  intro G H M xs vs post Q hr rs d k
  unfold f_max2 at d
  split at d
  · cases rs with
    | cons h t => cases h; cases t with
      | cons h t => cases h; cases t; exact ⟨_, _, rfl, k.here hr .int d⟩
  · exact d.elim
theorem ref_min2 {K : Fg} : RefN K F (fun xs H Q => ∃ i j, xs = [.int i, .int j] ∧ Q (.int (if j < i then j else i)) H) f_min2 := by
  intro G H M xs vs post Q hr rs d k
  unfold f_min2 at d
  split at d
  · cases rs with
    | cons h t => cases h; cases t with
      | cons h t => cases h; cases t; exact ⟨_, _, rfl, k.here hr .int d⟩
  · exact d.elim
theorem pd_max2 (hc : X.calm = true) (hm : X.mg "max" = none) (ha : PDA X F [a, b] dA) (hg : Gl X "max" := by rfl) (he : starEach [a, b] X.env = (false, eval a X.env) :: starEach [b] X.env := by rfl) (hpl : (backTo pos (starEach [b] X.env)).any (·.1) = false := by rfl) : PD X F (.Call (.Name "max" p) [a, b] [] pos) (dCB f_max2 dA) :=
  pd_cB (call_max2 hc) ref_max2 hm ha (by decide +kernel) hg (by decide) (by decide) he hpl
theorem pd_min2 (hc : X.calm = true) (hm : X.mg "min" = none) (ha : PDA X F [a, b] dA) (hg : Gl X "min" := by rfl) (he : starEach [a, b] X.env = (false, eval a X.env) :: starEach [b] X.env := by rfl) (hpl : (backTo pos (starEach [b] X.env)).any (·.1) = false := by rfl) : PD X F (.Call (.Name "min" p) [a, b] [] pos) (dCB f_min2 dA) :=
  pd_cB (call_min2 hc) ref_min2 hm ha (by decide +kernel) hg (by decide) (by decide) he hpl
def f_int : DN := fun vs M Q => match vs with
  | [.int i] => Q (.int i) M
  | [.bl k] => Q (.int (if k then 1 else 0)) M
  | [.str z] => z.length ≤ 640 ∧ (match PySem.intText? z with
    | some n => Q (.int n) M
    | none => False)
  | _ => False
theorem ref_int {K : Fg} : RefN K F (fun xs H Q => ((∃ i, xs = [.int i] ∧ Q (.int i) H) ∨ ∃ k, xs = [.bl k] ∧ Q (.int (if k then 1 else 0)) H) ∨ ∃ a n, xs = [.str a] ∧ PySem.intText? a = some n ∧ a.length ≤ 640 ∧ Q (.int n) H) f_int := by
  intro G H M xs vs post Q hr rs d k
  unfold f_int at d
  split at d
  · cases rs with
    | cons h t => cases h; cases t; exact .inl (.inl ⟨_, rfl, k.here hr .int d⟩)
  · cases rs with
    | cons h t => cases h; cases t; exact .inl (.inr ⟨_, rfl, k.here hr .int d⟩)
  · rename_i z
    cases rs with
    | cons h t =>
      cases h; cases t
      cases e : PySem.intText? z with
      | none => rw [e] at d; exact d.2.elim
      | some n => rw [e] at d; exact .inr ⟨z, n, rfl, e, d.1, k.here hr .int d.2⟩
  · exact d.elim
theorem pd_intc (hm : X.mg "int" = none) (ha : PDA X F [a] dA) (hg : Gl X "int" := by rfl) (he : starEach [a] X.env = (false, eval a X.env) :: starEach [] X.env := by rfl) : PD X F (.Call (.Name "int" p) [a] [] pos) (dCB f_int dA) :=
  pd_cTy (call_int1.or call_int_str) ref_int hm ha (by decide +kernel) hg (by decide) (by decide) he rfl
def f_str : DN := fun vs M Q => match vs with
  | [.int i] => i.natAbs.log2 < 1920 ∧ Q (.str (toString i)) M
  | _ => False
theorem ref_str {K : Fg} : RefN K F (fun xs H Q => ∃ i, xs = [.int i] ∧ i.natAbs.log2 < 1920 ∧ Q (.str (toString i)) H) f_str := by
  intro G H M xs vs post Q hr rs d k
  unfold f_str at d
  split at d
  · cases rs with
    | cons h t => cases h; cases t; exact ⟨_, rfl, d.1, k.here hr .str d.2⟩
  · exact d.elim
theorem pd_strc (hm : X.mg "str" = none) (ha : PDA X F [a] dA) (hg : Gl X "str" := by rfl) (he : starEach [a] X.env = (false, eval a X.env) :: starEach [] X.env := by rfl) : PD X F (.Call (.Name "str" p) [a] [] pos) (dCB f_str dA) :=
  pd_cTy call_str_int ref_str hm ha (by decide +kernel) hg (by decide) (by decide) he rfl
def f_ord : DN := fun vs M Q => match vs with
  | [.str z] => z.length = 1 ∧ Q (.int (z.cps.getD 0 0 : Nat)) M
  | _ => False
theorem ref_ord {K : Fg} : RefN K F (fun xs H Q => ∃ x, xs = [.str x] ∧ x.length = 1 ∧ Q (.int (x.cps.getD 0 0 : Nat)) H) f_ord := by
  intro G H M xs vs post Q hr rs d k
  unfold f_ord at d
  split at d
  · cases rs with
    | cons h t => cases h; cases t; exact ⟨_, rfl, d.1, k.here hr .int d.2⟩
  · exact d.elim
theorem pd_ord (hm : X.mg "ord" = none) (ha : PDA X F [a] dA) (hg : Gl X "ord" := by rfl) (he : starEach [a] X.env = (false, eval a X.env) :: starEach [] X.env := by rfl) : PD X F (.Call (.Name "ord" p) [a] [] pos) (dCB f_ord dA) :=
  pd_cB call_ord ref_ord hm ha (by decide +kernel) hg (by decide) (by decide) he rfl
def f_gcd : DN := fun vs M Q => match vs with
  | [.int i, .int j] => Q (.int ((Nat.gcd i.natAbs j.natAbs : Nat) : Int)) M
  | _ => False
theorem ref_gcd {K : Fg} : RefN K F rGcd f_gcd := by
  intro G H M xs vs post Q hr rs d k
  unfold f_gcd at d
  split at d
  · cases rs with
    | cons h t => cases h; cases t with
      | cons h t => cases h; cases t; exact ⟨_, _, rfl, k.here hr .int d⟩
  · exact d.elim
theorem pd_gcd (hm : X.mg "gcd" = some (.builtin "math.gcd")) (ha : PDA X F [a, b] dA) (hg : Gl X "gcd" := by rfl) (he : starEach [a, b] X.env = (false, eval a X.env) :: starEach [b] X.env := by rfl) (hpl : (backTo pos (starEach [b] X.env)).any (·.1) = false := by rfl) : PD X F (.Call (.Name "gcd" p) [a, b] [] pos) (dCB f_gcd dA) :=
  pd_cFn cr_gcd ref_gcd hm ha hg (by decide) he hpl
def f_sum : DN := fun vs M Q => match vs with
  | [v] => (match listD v M with
    | some ds => (match intsD ds with
      | some ns => Q (.int ns.sum) M
      | none => False)
    | none => False)
  | _ => False
/-- a list of ints, by its items -/
theorem list_ints {K : Fg} {G H : Hp} {M : Mem} {x : V} {v : D} {ds : List D} {ns : List Int} (hr : HRel K F G H M) (rx : Rep K G x v) (e : listD v M = some ds) (e2 : intsD ds = some ns) : ∃ a, x = .ref a ∧ SqL K H a (ns.map V.int) := by
  obtain ⟨q, ys, rfl, hq, rq⟩ := listD_ok hr rx e
  rw [intsD_ok e2] at rq
  rw [Reps.of_ints rq] at hq
  exact ⟨q, rfl, hq⟩
theorem ref_sum {K : Fg} : RefN K F (rSum K) f_sum := by
  intro G H M xs vs post Q hr rs d k
  unfold f_sum at d
  split at d
  · rename_i v
    cases rs with
    | cons rx t =>
      cases t
      split at d
      · rename_i ds e
        split at d
        · rename_i ns e2
          obtain ⟨q, rfl, hq⟩ := list_ints hr rx e e2
          exact ⟨q, ns, rfl, hq, k.here hr .int d⟩
        · exact d.elim
      · exact d.elim
  · exact d.elim
theorem pd_sum (hc : X.calm = true) (hm : X.mg "sum" = none) (ha : PDA X F [a] dA) (hg : Gl X "sum" := by rfl) (he : starEach [a] X.env = (false, eval a X.env) :: starEach [] X.env := by rfl) : PD X F (.Call (.Name "sum" p) [a] [] pos) (dCB f_sum dA) :=
  pd_cB (cr_sum hc) ref_sum hm ha (by decide +kernel) hg (by decide) (by decide) he rfl
/-- the greatest, the least of a list that is not empty -/
def f_maxL : DN := fun vs M Q => match vs with
  | [v] => (match listD v M with
    | some ds => (match intsD ds with
      | some ns => 0 < ns.length ∧ ∀ m, m ∈ ns → (∀ y, y ∈ ns → y ≤ m) → Q (.int m) M
      | none => False)
    | none => False)
  | _ => False
def f_minL : DN := fun vs M Q => match vs with
  | [v] => (match listD v M with
    | some ds => (match intsD ds with
      | some ns => 0 < ns.length ∧ ∀ m, m ∈ ns → (∀ y, y ∈ ns → m ≤ y) → Q (.int m) M
      | none => False)
    | none => False)
  | _ => False
theorem ref_maxL {K : Fg} : RefN K F (rMax K) f_maxL := by
  intro G H M xs vs post Q hr rs d k
  unfold f_maxL at d
  split at d
  · rename_i v
    cases rs with
    | cons rx t =>
      cases t
      split at d
      · rename_i ds e
        split at d
        · rename_i ns e2
          obtain ⟨q, rfl, hq⟩ := list_ints hr rx e e2
          exact ⟨q, ns, rfl, hq, d.1, fun m h1 h2 => k.here hr .int (d.2 m h1 h2)⟩
        · exact d.elim
      · exact d.elim
  · exact d.elim
theorem ref_minL {K : Fg} : RefN K F (rMin K) f_minL := by
  intro G H M xs vs post Q hr rs d k
  unfold f_minL at d
  split at d
  · rename_i v
    cases rs with
    | cons rx t =>
      cases t
      split at d
      · rename_i ds e
        split at d
        · rename_i ns e2
          obtain ⟨q, rfl, hq⟩ := list_ints hr rx e e2
          exact ⟨q, ns, rfl, hq, d.1, fun m h1 h2 => k.here hr .int (d.2 m h1 h2)⟩
        · exact d.elim
      · exact d.elim
  · exact d.elim
theorem pd_maxL (hc : X.calm = true) (hm : X.mg "max" = none) (ha : PDA X F [a] dA) (hg : Gl X "max" := by rfl) (he : starEach [a] X.env = (false, eval a X.env) :: starEach [] X.env := by rfl) : PD X F (.Call (.Name "max" p) [a] [] pos) (dCB f_maxL dA) :=
  pd_cB (cr_max hc) ref_maxL hm ha (by decide +kernel) hg (by decide) (by decide) he rfl
theorem pd_minL (hc : X.calm = true) (hm : X.mg "min" = none) (ha : PDA X F [a] dA) (hg : Gl X "min" := by rfl) (he : starEach [a] X.env = (false, eval a X.env) :: starEach [] X.env := by rfl) : PD X F (.Call (.Name "min" p) [a] [] pos) (dCB f_minL dA) :=
  pd_cB (cr_min hc) ref_minL hm ha (by decide +kernel) hg (by decide) (by decide) he rfl
/-- all, any of a list of truth values -/
def blsD : List D → Option (List Bool)
  | [] => some []
  | .bl i :: r => (blsD r).map (i :: ·)
  | _ => none
theorem blsD_ok : ∀ {ds : List D} {ns : List Bool}, blsD ds = some ns → ds = ns.map D.bl
  | [], _, e => by simp only [blsD] at e; cases e; rfl
  | d :: r, ns, e => by
    cases d <;> simp only [blsD] at e <;> first
      | (cases e; done)
      | (obtain ⟨ms, e1, e2⟩ := Option.map_eq_some_iff.mp e; subst e2; rw [blsD_ok e1]; rfl)
def f_all : DN := fun vs M Q => match vs with
  | [v] => (match listD v M with
    | some ds => (match blsD ds with
      | some ns => Q (.bl (ns.all _root_.id)) M
      | none => False)
    | none => False)
  | _ => False
def f_any : DN := fun vs M Q => match vs with
  | [v] => (match listD v M with
    | some ds => (match blsD ds with
      | some ns => Q (.bl (ns.any _root_.id)) M
      | none => False)
    | none => False)
  | _ => False
theorem list_bls {K : Fg} {G H : Hp} {M : Mem} {x : V} {v : D} {ds : List D} {ns : List Bool} (hr : HRel K F G H M) (rx : Rep K G x v) (e : listD v M = some ds) (e2 : blsD ds = some ns) : ∃ a, x = .ref a ∧ SqL K H a (ns.map V.bl) := by
  obtain ⟨q, ys, rfl, hq, rq⟩ := listD_ok hr rx e
  rw [blsD_ok e2] at rq
  rw [Reps.of_bls rq] at hq
  exact ⟨q, rfl, hq⟩
theorem ref_all {K : Fg} : RefN K F (rAll K) f_all := by
  intro G H M xs vs post Q hr rs d k
  unfold f_all at d
  split at d
  · rename_i v
    cases rs with
    | cons rx t =>
      cases t
      split at d
      · rename_i ds e
        split at d
        · rename_i ns e2
          obtain ⟨q, rfl, hq⟩ := list_bls hr rx e e2
          exact ⟨q, ns, rfl, hq, k.here hr .bl d⟩
        · exact d.elim
      · exact d.elim
  · exact d.elim
theorem ref_any {K : Fg} : RefN K F (rAny K) f_any := by
  intro G H M xs vs post Q hr rs d k
  unfold f_any at d
  split at d
  · rename_i v
    cases rs with
    | cons rx t =>
      cases t
      split at d
      · rename_i ds e
        split at d
        · rename_i ns e2
          obtain ⟨q, rfl, hq⟩ := list_bls hr rx e e2
          exact ⟨q, ns, rfl, hq, k.here hr .bl d⟩
        · exact d.elim
      · exact d.elim
  · exact d.elim
theorem pd_all (hc : X.calm = true) (hm : X.mg "all" = none) (ha : PDA X F [a] dA) (hg : Gl X "all" := by rfl) (he : starEach [a] X.env = (false, eval a X.env) :: starEach [] X.env := by rfl) : PD X F (.Call (.Name "all" p) [a] [] pos) (dCB f_all dA) :=
  pd_cB (cr_all hc) ref_all hm ha (by decide +kernel) hg (by decide) (by decide) he rfl
theorem pd_any (hc : X.calm = true) (hm : X.mg "any" = none) (ha : PDA X F [a] dA) (hg : Gl X "any" := by rfl) (he : starEach [a] X.env = (false, eval a X.env) :: starEach [] X.env := by rfl) : PD X F (.Call (.Name "any" p) [a] [] pos) (dCB f_any dA) :=
  pd_cB (cr_any hc) ref_any hm ha (by decide +kernel) hg (by decide) (by decide) he rfl
/-- list(x), tuple(x): new -/
def f_list (fresh : Bool) : DN := fun vs M Q => match vs with
  | [v] => (match seqD v M with
    | some ds => if fresh then ∀ p, M p = none → Q (.obj p) (st M p (.lst ds)) else Q (.lst ds) M
    | none => False)
  | _ => False
theorem ref_list {K : Fg} (fresh : Bool) : RefN K F (fun xs H Q => ∃ p ys, xs = [.ref p] ∧ (SqL K H p ys ∨ SqT K H p ys) ∧ ∀ l, H l = none → Q (.ref l) (upd H l (.lst ys))) (f_list fresh) := by
  intro G H M xs vs post Q hr rs d k
  unfold f_list at d
  split at d
  · rename_i v
    cases rs with
    | cons rx t =>
      cases t
      split at d
      · rename_i ds e
        obtain ⟨q, ys, rfl, hq, rq⟩ := seqD_ok hr rx e
        refine ⟨q, ys, rfl, hq, fun l hl => ?_⟩
        cases fresh with
        | false => exact k.new hr hl (.lst upd_same (rq.mono (hr.new hl).1)) d
        | true => exact k.newC (c := .lst _) hr hl ⟨_, upd_same, rq⟩ (d l (hr.mnone hl).1)
      · exact d.elim
  · exact d.elim
theorem pd_listc (fresh : Bool) (hm : X.mg "list" = none) (ha : PDA X F [a] dA) (hg : Gl X "list" := by rfl) (he : starEach [a] X.env = (false, eval a X.env) :: starEach [] X.env := by rfl) : PD X F (.Call (.Name "list" p) [a] [] pos) (dCB (f_list fresh) dA) :=
  pd_cTy call_list_of (ref_list fresh) hm ha (by decide +kernel) hg (by decide) (by decide) he rfl
def f_tuple : DN := fun vs M Q => match vs with
  | [v] => (match seqD v M with
    | some ds => Q (.tup ds) M
    | none => False)
  | _ => False
theorem ref_tuple {K : Fg} : RefN K F (fun xs H Q => ∃ p ys, xs = [.ref p] ∧ ((SqL K H p ys ∧ ∀ l, H l = none → Q (.ref l) (upd H l (.tup ys))) ∨ (SqT K H p ys ∧ Q (.ref p) H))) f_tuple := by
  intro G H M xs vs post Q hr rs d k
  unfold f_tuple at d
  split at d
  · rename_i v
    cases rs with
    | cons rx t =>
      cases t
      split at d
      · rename_i ds e
        cases v with
        | tup es =>
          cases e
          cases rx with
          | tup h r => exact ⟨_, _, rfl, .inr ⟨.inl (.inl (hr.sub _ _ h)), k.here hr (.tup h r) d⟩⟩
        | _ =>
          obtain ⟨q, ys, rfl, hq, rq⟩ := listD_ok hr rx e
          exact ⟨q, ys, rfl, .inl ⟨hq, fun l hl => k.new hr hl (.tup upd_same (rq.mono (hr.new hl).1)) d⟩⟩
      · exact d.elim
  · exact d.elim
theorem pd_tuplec (hm : X.mg "tuple" = none) (ha : PDA X F [a] dA) (hg : Gl X "tuple" := by rfl) (he : starEach [a] X.env = (false, eval a X.env) :: starEach [] X.env := by rfl) : PD X F (.Call (.Name "tuple" p) [a] [] pos) (dCB f_tuple dA) :=
  pd_cTy call_tuple_of ref_tuple hm ha (by decide +kernel) hg (by decide) (by decide) he rfl
/-! isinstance of data -/
def tyD (v : D) (M : Mem) : Option String := match v with
  | .non => some "NoneType"
  | .bl _ => some "bool"
  | .int _ => some "int"
  | .str _ => some "str"
  | .tup _ => some "tuple"
  | .lst _ => some "list"
  | .dk _ => some "dict"
  | .dt _ => some "dict"
  | .obj a => (match M a with
    | some (.lst _) => some "list"
    | some (.dk _) => some "dict"
    | some (.dt _) => some "dict"
    | _ => none)
  | _ => none
def isI (t n : String) : Bool := decide (t = n) || (decide (t = "bool") && decide (n = "int"))
def tys : List String := ["NoneType", "bool", "int", "str", "tuple", "list", "dict"]
theorem isI_ok : (tys.all fun t => tys.all fun n => decide (kitB t n = some (isI t n))) = true := by decide +kernel
theorem tyD_mem {v : D} {M : Mem} {t : String} (e : tyD v M = some t) : t ∈ tys := by
  unfold tyD at e
  have q : ∀ z : String, z ∈ tys → some z = some t → t ∈ tys := fun z hz h => by cases h; exact hz
  cases v with
  | obj a =>
    dsimp only at e
    split at e <;> first
      | (cases e; done)
      | exact q _ (by decide) e
  | _ => first
    | (cases e; done)
    | exact q _ (by decide) e
theorem tyD_ok {K : Fg} {G H : Hp} {M : Mem} {x : V} {v : D} {t : String} (hr : HRel K F G H M) (rx : Rep K G x v) (e : tyD v M = some t) : TyX K H x (.type t) := by
  unfold tyD at e
  cases rx with
  | non => cases e; exact .base .non
  | bl => cases e; exact .base (.bl _)
  | int => cases e; exact .base (.int _)
  | str => cases e; exact .base (.str _)
  | ty => cases e
  | obj =>
    rename_i a
    dsimp only at e
    split at e
    · rename_i ds q
      cases e; obtain ⟨xs, h1, h2⟩ := (hr.cell a _ q).1; exact .base (.lst h1)
    · rename_i ds q
      cases e; obtain ⟨xs, h1, h2⟩ := (hr.cell a _ q).1; exact .base (.dK h1)
    · rename_i ds q
      cases e; obtain ⟨xs, h1, h2⟩ := (hr.cell a _ q).1; exact .base (.dT h1)
    · cases e
  | tup h _ => cases e; exact .base (.tup (hr.sub _ _ h))
  | lst h _ => cases e; exact .base (.lst (hr.sub _ _ h))
  | ro h _ => cases e
  | dk h _ _ => cases e; exact .base (.dK (hr.sub _ _ h))
  | dt h _ _ => cases e; exact .base (.dT (hr.sub _ _ h))
def f_isi : DN := fun vs M Q => match vs with
  | [v, .ty n] => (match tyD v M with
    | some t => n ∈ tys ∧ Q (.bl (isI t n)) M
    | none => False)
  | _ => False
theorem ref_isi {K : Fg} : RefN K F (rIsi K) f_isi := by
  intro G H M xs vs post Q hr rs d k
  unfold f_isi at d
  split at d
  · rename_i v n
    cases rs with
    | cons rx t =>
      cases t with
      | cons rc t =>
        cases t; cases rc
        split at d
        · rename_i t e
          obtain ⟨d1, d2⟩ := d
          have h1 := List.all_eq_true.mp isI_ok t (tyD_mem e)
          have h2 := of_decide_eq_true (List.all_eq_true.mp h1 n d1)
          exact ⟨_, _, _, _, _, rfl, .ty n, tyD_ok hr rx e, kit_ty h2, k.here hr .bl d2⟩
        · exact d.elim
  · exact d.elim
theorem pd_isi (hm : X.mg "isinstance" = none) (ha : PDA X F [a, b] dA) (hg : Gl X "isinstance" := by rfl) (he : starEach [a, b] X.env = (false, eval a X.env) :: starEach [b] X.env := by rfl) (hpl : (backTo pos (starEach [b] X.env)).any (·.1) = false := by rfl) : PD X F (.Call (.Name "isinstance" p) [a, b] [] pos) (dCB f_isi dA) :=
  pd_cB call_isi ref_isi hm ha (by decide +kernel) hg (by decide) (by decide) he hpl
theorem pd_ty {x : Str} {n : String} {pos : Pos} (hm : X.mg x = none) (hg : Gl X x := by rfl) (hv : bootBuiltins x = some (.type n) := by decide +kernel) (hn : x ≠ "__name__" := by decide) (hd : (x == ("__debug__" : Str)) = false := by decide) : PD X F (.Name x pos) (dC (.ty n)) :=
  pd_bltn hm (v := .ty n) rfl (fun _ => .ty) hg hv hn hd

/-! ### methods -/
abbrev DM := D → List D → Mem → (D → Mem → Prop) → Prop
def RefM (K : Fg) (F : Fm) (r : V → List V → Hp → VK → Prop) (f : DM) : Prop := ∀ {G H : Hp} {M : Mem} {x : V} {v : D} {xs : List V} {vs : List D} {post : D → Mem → Prop} {Q : VK}, HRel K F G H M → Rep K G x v → Reps K G xs vs → f v vs M post → QE K F G post Q → r x xs H Q
def TyOk (T : String) (v : D) (M : Mem) : Prop := (T = "list" ∧ (listD v M).isSome = true) ∨ (T = "str" ∧ ∃ z, v = .str z)
theorem TyOk.ok {K : Fg} {G H : Hp} {M : Mem} {x : V} {v : D} {T : String} (hr : HRel K F G H M) (rx : Rep K G x v) (h : TyOk T v M) : tyV K T x H := by
  rcases h with ⟨rfl, h⟩ | ⟨rfl, z, rfl⟩
  · obtain ⟨ds, e⟩ := Option.isSome_iff_exists.mp h
    obtain ⟨a, xs, rfl, hq, _⟩ := listD_ok hr rx e
    exact .inl ⟨rfl, xs, hq⟩
  · cases rx; rfl
def dMt (T : String) (f : DM) (da : DE) (dA : DA) : DE := fun ρ M Q => da ρ M fun x M1 => TyOk T x M1 ∧ dA ρ M1 fun vs M2 => f x vs M2 Q
variable {name : Str} {apos cpos : Pos} {rm : V → List V → Hp → VK → Prop} {fm : DM}
theorem pd_mt (pa : PlainAttrs T) (slot : Slot T name id) (hty : typeOf (.builtin id) = pure (.type "method_descriptor")) (hm : MtR X id rm) (hf : RefM X.K F rm fm) (ho : PD X F a da) (ha : PDA X F (e :: es) dA)
    (hbase : attributeBase a name X.env (eval a X.env) = eval a X.env := by rfl)
    (hfew : ((backTo cpos (starEach (e :: es) X.env)).all (fun x => !x.1) && (backToKw cpos (keywordEach [] X.env)).all (fun x => x.1.isSome)
      && decide ((e :: es).length + ([] : List Keyword).length + (if ([] : List Keyword).isEmpty then 0 else 1) < 30)) = true := by rfl)
    (hline : (apos.endLine == cpos.line) = true := by rfl) (hs : starEach (e :: es) X.env = (false, eval e X.env) :: starEach es X.env := by rfl) (hplain : (backTo cpos (starEach es X.env)).any (·.1) = false := by rfl) :
    PD X F (.Call (.Attribute a name apos) (e :: es) [] cpos) (dMt T fm da dA) := pe_imp (pe_bm pa slot hty hm ho ha hbase hfew hline hs hplain) fun σ H Q ⟨G, ρ, M, post, hr, sr, d, k⟩ =>
  ⟨G, ρ, M, _, hr, sr, d, fun G1 H1 M1 x v s1 h1 rx q1 => ⟨q1.1.ok h1 rx, G1, ρ, M1, _, h1, sr.mono s1, q1.2, fun G2 H2 M2 xs vs s2 h2 rs q2 => hf h2 (rx.mono s2) rs q2 (k.later (s1.trans s2))⟩⟩
def dMt0 (T : String) (f : DM) (da : DE) : DE := fun ρ M Q => da ρ M fun x M1 => TyOk T x M1 ∧ f x [] M1 Q
theorem pd_mt0 (pa : PlainAttrs T) (slot : Slot T name id) (hty : typeOf (.builtin id) = pure (.type "method_descriptor")) (hm : MtR X id rm) (hf : RefM X.K F rm fm) (ho : PD X F a da)
    (hbase : attributeBase a name X.env (eval a X.env) = eval a X.env := by rfl) (hline : (apos.endLine == cpos.line) = true := by rfl) :
    PD X F (.Call (.Attribute a name apos) [] [] cpos) (dMt0 T fm da) := pe_imp (pe_bm0 pa slot hty hm ho hbase hline) fun σ H Q ⟨G, ρ, M, post, hr, sr, d, k⟩ =>
  ⟨G, ρ, M, _, hr, sr, d, fun G1 H1 M1 x v s1 h1 rx q1 => ⟨q1.1.ok h1 rx, hf h1 rx .nil q1.2 (k.later s1)⟩⟩
def f_append : DM := fun v vs M Q => match v, vs with
  | .obj a, [y] => (match M a with
    | some (.lst ds) => ds.length < sizeLine ∧ Q .non (st M a (.lst (ds ++ [y])))
    | _ => False)
  | _, _ => False
theorem ref_append {K : Fg} : RefM K F rAppend f_append := by
  intro G H M x v xs vs post Q hr rx rs d k
  unfold f_append at d
  split at d
  · rename_i a y
    cases rx
    cases rs with
    | cons ry t =>
      cases t
      split at d
      · rename_i ds e
        obtain ⟨ys, h1, h2⟩ := (hr.cell a _ e).1
        refine ⟨a, ys, _, rfl, rfl, h1, by rw [h2.length]; exact d.1, ?_⟩
        exact k _ _ _ _ _ (Same.refl _) (hr.write (c' := .lst _) e ⟨_, upd_same, h2.app (.cons ry .nil)⟩) .non d.2
      · exact d.elim
  · exact d.elim
theorem pd_append (ho : PD X F a da) (ha : PDA X F [e] dA)
    (hbase : attributeBase a "append" X.env (eval a X.env) = eval a X.env := by rfl)
    (hfew : ((backTo cpos (starEach [e] X.env)).all (fun x => !x.1) && (backToKw cpos (keywordEach [] X.env)).all (fun x => x.1.isSome)
      && decide (([e] : List Expr).length + ([] : List Keyword).length + (if ([] : List Keyword).isEmpty then 0 else 1) < 30)) = true := by rfl)
    (hline : (apos.endLine == cpos.line) = true := by rfl) (hs : starEach [e] X.env = (false, eval e X.env) :: starEach [] X.env := by rfl) :
    PD X F (.Call (.Attribute a "append" apos) [e] [] cpos) (dMt "list" f_append da dA) :=
  pd_mt PySem.F.plainAttrs_list PySem.F.slot_list_append PySem.F.type_list_append mt_append ref_append ho ha hbase hfew hline hs rfl
end
end Dl

/-! Dl6: statements, defs called, the rule of a def, loops. -/
namespace Dl
open L2 PySem PyProof.Rows PySem.Spec

structure DEnds where
  nx : Rho → Mem → Prop
  rt : D → Mem → Prop
  bk : Rho → Mem → Prop := fun _ _ => False
  ct : Rho → Mem → Prop := fun _ _ => False
abbrev DS := DEnds → Rho → Mem → Prop
structure QS (K : Fg) (F : Fm) (G : Hp) (E : DEnds) (Dn : Ends) : Prop where
  nx : ∀ G' σ' H' ρ' M', Same G G' → HRel K F G' H' M' → SRel K G' σ' ρ' → E.nx ρ' M' → Dn.nx σ' H'
  rt : QE K F G E.rt Dn.rt
  bk : ∀ G' σ' H' ρ' M', Same G G' → HRel K F G' H' M' → SRel K G' σ' ρ' → E.bk ρ' M' → Dn.bk σ' H'
  ct : ∀ G' σ' H' ρ' M', Same G G' → HRel K F G' H' M' → SRel K G' σ' ρ' → E.ct ρ' M' → Dn.ct σ' H'
theorem QS.later {K : Fg} {F : Fm} {G G' : Hp} {E : DEnds} {Dn : Ends} (q : QS K F G E Dn) (s : Same G G') : QS K F G' E Dn :=
  ⟨fun G2 σ' H' ρ' M' s2 => q.nx G2 σ' H' ρ' M' (s.trans s2), q.rt.later s, fun G2 σ' H' ρ' M' s2 => q.bk G2 σ' H' ρ' M' (s.trans s2), fun G2 σ' H' ρ' M' s2 => q.ct G2 σ' H' ρ' M' (s.trans s2)⟩
def LS (K : Fg) (F : Fm) (d : DS) : TS := fun Dn σ H => ∃ G ρ M E, HRel K F G H M ∧ SRel K G σ ρ ∧ d E ρ M ∧ QS K F G E Dn
abbrev PDS (X : Cx) (F : Fm) (st : Stmt) (d : DS) : Prop := PS X st (LS X.K F d)
abbrev PDSs (X : Cx) (F : Fm) (sts : List Stmt) (d : DS) : Prop := PSs X sts (LS X.K F d)
theorem ps_imp {X : Cx} {st : Stmt} {t t' : TS} (h : PS X st t) (i : ∀ D σ H, t' D σ H → t D σ H) : PS X st t' := ⟨fun pins s σ H D I q => h.run pins s σ H D I (i D σ H q)⟩
theorem pss_imp {X : Cx} {st : List Stmt} {t t' : TS} (h : PSs X st t) (i : ∀ D σ H, t' D σ H → t D σ H) : PSs X st t' := ⟨fun pins s σ H D I q => h.run pins s σ H D I (i D σ H q)⟩

section
variable {X : Cx} {F : Fm} {sm : Stmt} {rest : List Stmt} {d d1 d2 : DS} {e c : Expr} {da : DE} {dt : DT} {dA : DA} {pos : Pos}
def dNext : DS := fun E ρ M => E.nx ρ M
def dSeq (d1 d2 : DS) : DS := fun E ρ M => d1 { E with nx := d2 E } ρ M
theorem pds_nil : PDSs X F [] dNext := pss_imp pss_nil fun D σ H ⟨G, ρ, M, E, hr, sr, d, q⟩ => q.nx G σ H ρ M (Same.refl _) hr sr d
theorem seq_imp {K : Fg} : ∀ D σ H, LS K F (dSeq d1 d2) D σ H → tSeq (LS K F d1) (LS K F d2) D σ H := fun D σ H ⟨G, ρ, M, E, hr, sr, d, q⟩ =>
  ⟨G, ρ, M, { E with nx := d2 E }, hr, sr, d, ⟨fun G' σ' H' ρ' M' s h s' q' => ⟨G', ρ', M', E, h, s', q', q.later s⟩, q.rt, q.bk, q.ct⟩⟩
theorem pds_cons (h1 : PDS X F sm d1) (h2 : PDSs X F rest d2) : PDSs X F (sm :: rest) (dSeq d1 d2) := pss_imp (pss_cons h1 h2) seq_imp
theorem pds_one (h1 : PDS X F sm d1) : PDSs X F [sm] d1 := pss_one h1
theorem pds_pass : PDS X F (.Pass pos) dNext := ps_imp ps_pass fun D σ H ⟨G, ρ, M, E, hr, sr, d, q⟩ => q.nx G σ H ρ M (Same.refl _) hr sr d
def dBrk : DS := fun E ρ M => E.bk ρ M
def dCnt : DS := fun E ρ M => E.ct ρ M
theorem pds_break : PDS X F (.Break pos) dBrk := ps_imp ps_break fun D σ H ⟨G, ρ, M, E, hr, sr, d, q⟩ => q.bk G σ H ρ M (Same.refl _) hr sr d
theorem pds_continue : PDS X F (.Continue pos) dCnt := ps_imp ps_continue fun D σ H ⟨G, ρ, M, E, hr, sr, d, q⟩ => q.ct G σ H ρ M (Same.refl _) hr sr d
def dDrop (da : DE) : DS := fun E ρ M => da ρ M fun _ M1 => E.nx ρ M1
theorem pds_expr (he : PD X F e da) (hs : swapsWith e none pos.line X.env = pure false := by rfl) : PDS X F (.Expr e pos) (dDrop da) := ps_imp (ps_expr he hs) fun D σ H ⟨G, ρ, M, E, hr, sr, d, q⟩ =>
  ⟨G, ρ, M, _, hr, sr, d, fun G' H' M' x v s h r q' => q.nx G' σ H' ρ M' s h (sr.mono s) q'⟩
def dRet (da : DE) : DS := fun E ρ M => da ρ M E.rt
theorem pds_ret (he : PD X F e da) : PDS X F (.Return (some e) pos) (dRet da) := ps_imp (ps_ret he) fun D σ H ⟨G, ρ, M, E, hr, sr, d, q⟩ => ⟨G, ρ, M, _, hr, sr, d, q.rt⟩
def dRetN : DS := fun E _ M => E.rt .non M
theorem pds_retN : PDS X F (.Return none pos) dRetN := ps_imp ps_retN fun D σ H ⟨G, ρ, M, E, hr, sr, d, q⟩ => q.rt.here hr .non d
def dIfS (t : DT) (d1 d2 : DS) : DS := fun E ρ M => t ρ M fun b M1 => if b = true then d1 E ρ M1 else d2 E ρ M1
theorem pds_if {a b : List Stmt} (hc : PDT X F c dt) (ha : PDSs X F a d1) (hb : PDSs X F b d2) : PDS X F (.If c a b pos) (dIfS dt d1 d2) := ps_imp (ps_if hc ha hb) fun D σ H ⟨G, ρ, M, E, hr, sr, d, q⟩ =>
  ⟨G, ρ, M, _, hr, sr, d, fun G' H' M' b s h q' => by
    cases b with
    | true => exact ⟨G', ρ, M', E, h, sr.mono s, q', q.later s⟩
    | false => exact ⟨G', ρ, M', E, h, sr.mono s, q', q.later s⟩⟩

/-! ### targets -/
abbrev DG := D → Rho → Mem → (Rho → Mem → Prop) → Prop
abbrev DGs := List D → Rho → Mem → (Rho → Mem → Prop) → Prop
def QG (K : Fg) (F : Fm) (G : Hp) (post : Rho → Mem → Prop) (Q : L2.St → Hp → Prop) : Prop := ∀ G' σ' H' ρ' M', Same G G' → HRel K F G' H' M' → SRel K G' σ' ρ' → post ρ' M' → Q σ' H'
theorem QG.later {K : Fg} {G G' : Hp} {post : Rho → Mem → Prop} {Q : L2.St → Hp → Prop} (q : QG K F G post Q) (s : Same G G') : QG K F G' post Q := fun G2 σ' H' ρ' M' s2 => q G2 σ' H' ρ' M' (s.trans s2)
def LG (K : Fg) (F : Fm) (g : DG) : TG := fun x σ H Q => ∃ G ρ M v post, HRel K F G H M ∧ SRel K G σ ρ ∧ Rep K G x v ∧ g v ρ M post ∧ QG K F G post Q
def LGs (K : Fg) (F : Fm) (g : DGs) : TGs := fun xs σ H Q => ∃ G ρ M vs post, HRel K F G H M ∧ SRel K G σ ρ ∧ Reps K G xs vs ∧ g vs ρ M post ∧ QG K F G post Q
abbrev PDG (X : Cx) (F : Fm) (tg : Expr) (g : DG) : Prop := PG X tg (LG X.K F g)
abbrev PDGs (X : Cx) (F : Fm) (tgs : List Expr) (g : DGs) : Prop := PGs X tgs (LGs X.K F g)
theorem pg_imp {tg : Expr} {t t' : TG} (h : PG X tg t) (i : ∀ v σ H Q, t' v σ H Q → t v σ H Q) : PG X tg t' := ⟨fun pins s σ H v u Q I r q => h.run pins s σ H v u Q I r (i v σ H Q q)⟩
theorem pgs_imp {tg : List Expr} {t t' : TGs} (h : PGs X tg t) (i : ∀ v σ H Q, t' v σ H Q → t v σ H Q) : PGs X tg t' := ⟨fun pins s σ H v u Q I r q => h.run pins s σ H v u Q I r (i v σ H Q q)⟩
def dgName (i : Nat) : DG := fun v ρ M Q => Q (ρ.set i (some v)) M
theorem pdg_name (i : Nat) {x : Str} (hN : X.N.Nodup) (hi : X.N[i]? = some x := by rfl) (hx : Loc X.env.scope x := by first | exact Or.inl rfl | exact Or.inr rfl) (hf : X.fn x = true ∨ X.env.scope.names.lookup x = some .local := by first | exact .inl rfl | exact .inr rfl | assumption) : PDG X F (.Name x pos) (dgName i) :=
  pg_imp (pg_name hN hi hx hf) fun x σ H Q ⟨G, ρ, M, v, post, hr, sr, r, d, q⟩ => q G _ H _ M (Same.refl _) hr (sr.set r i) d
def dgNil : DGs := fun vs ρ M Q => vs = [] ∧ Q ρ M
def dgCons (g : DG) (gs : DGs) : DGs := fun vs ρ M Q => match vs with
  | v :: r => g v ρ M fun ρ1 M1 => gs r ρ1 M1 Q
  | [] => False
theorem pdgs_nil : PDGs X F [] dgNil := pgs_imp pgs_nil fun xs σ H Q ⟨G, ρ, M, vs, post, hr, sr, r, d, q⟩ => by
  obtain ⟨rfl, d⟩ := d
  cases r
  exact ⟨rfl, q G σ H ρ M (Same.refl _) hr sr d⟩
theorem pdgs_cons {es : List Expr} {g : DG} {gs : DGs} (h1 : PDG X F e g) (h2 : PDGs X F es gs) (hs : (assignEach (e :: es) X.env).map (·.2) = assign e X.env :: (assignEach es X.env).map (·.2) := by rfl) : PDGs X F (e :: es) (dgCons g gs) :=
  pgs_imp (pgs_cons h1 h2 hs) fun xs σ H Q ⟨G, ρ, M, vs, post, hr, sr, r, d, q⟩ => by
    cases r with
    | nil => exact (show False from d).elim
    | cons rx t =>
      exact ⟨_, _, rfl, G, ρ, M, _, _, hr, sr, rx, d, fun G' σ' H' ρ' M' s h s' q' => ⟨G', ρ', M', _, post, h, s', t.mono s, q', q.later s⟩⟩
def dgTup (n : Nat) (gs : DGs) : DG := fun v ρ M Q => match v with
  | .tup ds => ds.length = n ∧ gs ds ρ M Q
  | _ => False
theorem pdg_tup {es : List Expr} {k n : Nat} {gs : DGs} (hc : X.calm = true) (h : PDGs X F es gs) (hn : (assignEach es X.env).length = n := by rfl) (hst : (assignEach es X.env).findIdx? (·.1) = none := by rfl) : PDG X F (.Tuple es k pos) (dgTup n gs) :=
  pg_imp (pg_tup hc h hn hst) fun x σ H Q ⟨G, ρ, M, v, post, hr, sr, r, d, q⟩ => by
    cases v with
    | tup ds =>
      cases r with
      | tup ht rs => exact ⟨_, _, rfl, .inl (.inl (hr.sub _ _ ht)), by rw [rs.length]; exact d.1, G, ρ, M, _, post, hr, sr, rs, d.2, q⟩
    | _ => exact (show False from d).elim
def dAsg (da : DE) (g : DG) : DS := fun E ρ M => da ρ M fun v M1 => g v ρ M1 E.nx
theorem asg_imp {K : Fg} {g : DG} : ∀ D σ H, LS K F (dAsg da g) D σ H → tAsg (LE K F da) (LG K F g) D σ H := fun D σ H ⟨G, ρ, M, E, hr, sr, d, q⟩ =>
  ⟨G, ρ, M, _, hr, sr, d, fun G' H' M' x v s h r q' => ⟨G', ρ, M', v, E.nx, h, sr.mono s, r, q', (q.later s).nx⟩⟩
theorem pds_asg {tg : Expr} {g : DG} (he : PD X F e da) (hg : PDG X F tg g) (hs : swapsWithSole [tg] e pos.line X.env = pure false := by rfl) (hw : swappedStores [tg] e X.env = pure none := by rfl) (h1 : (assignEach [tg] X.env).map (·.2) = [assign tg X.env] := by rfl) :
    PDS X F (.Assign [tg] e pos) (dAsg da g) := ps_imp (ps_asg he hg hs hw h1) asg_imp
def dSet (i : Nat) (da : DE) : DS := fun E ρ M => da ρ M fun v M1 => E.nx (ρ.set i (some v)) M1
theorem pds_set (i : Nat) {x : Str} {pos' : Pos} (hN : X.N.Nodup) (he : PD X F e da) (hi : X.N[i]? = some x := by rfl) (hx : Loc X.env.scope x := by first | exact Or.inl rfl | exact Or.inr rfl) (hs : swapsWith e (some (.Name x pos')) pos.line X.env = pure false := by rfl)
    (hf : X.fn x = true ∨ X.env.scope.names.lookup x = some .local := by first | exact .inl rfl | exact .inr rfl | assumption) : PDS X F (.Assign [.Name x pos'] e pos) (dSet i da) :=
  ps_imp (ps_set hN hi hx he hs hf) fun D σ H ⟨G, ρ, M, E, hr, sr, d, q⟩ => ⟨G, ρ, M, _, hr, sr, d, fun G' H' M' x v s h r q' => q.nx G' _ H' _ M' s h ((sr.mono s).set r i) q'⟩
def dPar (i j : Nat) (dA : DA) : DS := fun E ρ M => dA ρ M fun vs M1 => match vs with
  | [v, w] => E.nx ((ρ.set i (some v)).set j (some w)) M1
  | _ => False
theorem pds_par (i j : Nat) {x y : Str} {a b : Expr} {px py pt : Pos} {kt k2 : Nat} {pt2 : Pos} (hc : X.calm = true) (hN : X.N.Nodup) (ha : PDA X F [a, b] dA) (hi : X.N[i]? = some x := by rfl) (hj : X.N[j]? = some y := by rfl) (hij : i ≠ j := by decide)
    (hx : X.env.scope.names.lookup x = some .local := by rfl) (hy : X.env.scope.names.lookup y = some .local := by rfl) (hw : swappedStores [.Tuple [.Name x px, .Name y py] kt pt] (.Tuple [a, b] k2 pt2) X.env = pure (some [x, y]) := by rfl)
    (hs : swapsWithSole [.Tuple [.Name x px, .Name y py] kt pt] (.Tuple [a, b] k2 pt2) pos.line X.env = pure false := by rfl) : PDS X F (.Assign [.Tuple [.Name x px, .Name y py] kt pt] (.Tuple [a, b] k2 pt2) pos) (dPar i j dA) :=
  ps_imp (ps_par hc hN hi hj hij hx hy ha hw hs) fun D σ H ⟨G, ρ, M, E, hr, sr, d, q⟩ => ⟨G, ρ, M, _, hr, sr, d, fun G' H' M' xs vs s h rs q' => by
    cases rs with
    | nil => exact (show False from q').elim
    | cons r1 t => cases t with
      | nil => exact (show False from q').elim
      | cons r2 t => cases t with
        | nil => exact ⟨_, _, rfl, q.nx G' _ H' _ M' s h (((sr.mono s).set r1 i).set r2 j) q'⟩
        | cons _ _ => exact (show False from q').elim⟩
/-! ### stores -/
abbrev DSet := D → D → D → Mem → (Mem → Prop) → Prop
def f_set : DSet := fun o i v M Q => match o with
  | .obj a => (match M a with
    | some (.lst ds) => (match i with
      | .int k => (match ixN ds.length k with
        | some j => Q (st M a (.lst (ds.set j v)))
        | none => False)
      | _ => False)
    | some (.dk kvs) => (match keyD i with
      | some k => kvs.length < sizeLine ∧ Q (st M a (.dk (dput kvs k v)))
      | none => False)
    | some (.dt kvs) => (match keyT i with
      | some k => kvs.length < sizeLine ∧ Q (st M a (.dt (dput kvs k v)))
      | none => False)
    | _ => False)
  | _ => False
def rSetD : V → V → V → Hp → (Hp → Prop) → Prop := fun o i v H Q => ∃ a H', o = .ref a ∧ DPut H a i v H' ∧ Q H'
theorem set_dict (hu : X.A.units + 64 < cLine) : PSet X rSetD := by
  intro pins s σ H o i v ov iv u Q I ro ri rv h
  obtain ⟨a, H', rfl, g, q⟩ := h
  cases ro
  exact d_setItem (by omega) I g ri rv fun s' I' => ⟨H', I', q⟩
def dgSub (do_ di : DE) : DG := fun v ρ M Q => do_ ρ M fun o M1 => di ρ M1 fun i M2 => f_set o i v M2 fun M3 => Q ρ M3
theorem set_or {t t' : TSet} (h : PSet X t) (h' : PSet X t') : PSet X (fun o i v H Q => t o i v H Q ∨ t' o i v H Q) := fun pins s σ H o i v ov iv u Q I ro ri rv q => q.elim (h pins s σ H o i v ov iv u Q I ro ri rv) (h' pins s σ H o i v ov iv u Q I ro ri rv)
theorem ref_set {K : Fg} {G H : Hp} {M : Mem} {x y z : V} {o i v : D} {post : Mem → Prop} {Q : Hp → Prop} (hr : HRel K F G H M) (ro : Rep K G x o) (ri : Rep K G y i) (rv : Rep K G z v) (d : f_set o i v M post)
    (k : ∀ H' M', HRel K F G H' M' → post M' → Q H') : rSetL x y z H Q ∨ rSetD x y z H Q := by
  unfold f_set at d
  cases o with
  | obj a =>
    cases ro
    dsimp only at d
    split at d
    · rename_i ds e
      split at d
      · rename_i n
        split at d
        · rename_i j ej
          obtain ⟨ys, h1, h2⟩ := (hr.cell a _ e).1
          cases ri
          exact .inl ⟨a, ys, n, j, rfl, rfl, h1, by rw [h2.length]; exact ej, k _ _ (hr.write (c' := .lst _) e ⟨_, upd_same, h2.set rv j⟩) d⟩
        · exact d.elim
      · exact d.elim
    · rename_i kvs e
      split at d
      · rename_i key ek
        obtain ⟨ys, h1, h2, h3⟩ := (hr.cell a _ e).1
        have el := congrArg List.length h2
        rw [List.length_map, List.length_map] at el
        rw [ri.key ek]
        refine .inr ⟨a, _, rfl, .k h1 (by rw [el]; exact d.1), ?_⟩
        rw [putK_dput]
        exact k _ _ (hr.write (c' := .dk _) e ⟨_, upd_same, dput_fst key v z h2, Reps.dput rv h2 h3⟩) d.2
      · exact d.elim
    · rename_i kvs e
      split at d
      · rename_i key ek
        obtain ⟨ys, h1, h2, h3⟩ := (hr.cell a _ e).1
        have el := congrArg List.length h2
        rw [List.length_map, List.length_map] at el
        obtain ⟨b, rfl, hb⟩ := ri.keyT ek
        refine .inr ⟨a, _, rfl, .t h1 (hr.sub _ _ hb) (by rw [el]; exact d.1), ?_⟩
        rw [putK_dput]
        exact k _ _ (hr.write (c' := .dt _) e ⟨_, upd_same, dput_fst key v z h2, Reps.dput rv h2 h3⟩) d.2
      · exact d.elim
    · exact d.elim
  | _ => exact d.elim
theorem pdg_sub {o i : Expr} {do_ di : DE} (hu : X.A.units + 64 < cLine) (ho : PD X F o do_) (hi : PD X F i di)
    (ha : ∀ v, assign (.Subscript o i pos) X.env v = (do
      let ov ← holding [v] (eval o X.env)
      let iv ← holding [v, ov] (eval i X.env)
      standAt pos
      holding [v, ov, iv] (setItem ov iv v)
      release [v, ov, iv] []) := by intro _; rfl) : PDG X F (.Subscript o i pos) (dgSub do_ di) :=
  pg_imp (pg_sub ho hi (set_or set_list (set_dict hu)) ha) fun x σ H Q ⟨G, ρ, M, v, post, hr, sr, r, d, q⟩ =>
    ⟨G, ρ, M, _, hr, sr, d, fun G1 H1 M1 y o s1 h1 ro q1 => ⟨G1, ρ, M1, _, h1, sr.mono s1, q1, fun G2 H2 M2 z i s2 h2 ri q2 =>
      ref_set h2 (ro.mono s2) ri ((r.mono s1).mono s2) q2 fun H' M' h3 q3 => q G2 σ H' ρ M' (s1.trans s2) h3 (sr.mono (s1.trans s2)) q3⟩⟩
/-- o[i] = e -/
theorem pds_setitem {o i : Expr} {do_ di : DE} {pos' : Pos} (hu : X.A.units + 64 < cLine) (ho : PD X F o do_) (hi : PD X F i di) (he : PD X F e da)
    (ha : ∀ v, assign (.Subscript o i pos') X.env v = (do
      let ov ← holding [v] (eval o X.env)
      let iv ← holding [v, ov] (eval i X.env)
      standAt pos'
      holding [v, ov, iv] (setItem ov iv v)
      release [v, ov, iv] []) := by intro _; rfl)
    (hs : swapsWithSole [.Subscript o i pos'] e pos.line X.env = pure false := by rfl) (hw : swappedStores [.Subscript o i pos'] e X.env = pure none := by rfl) (h1 : (assignEach [.Subscript o i pos'] X.env).map (·.2) = [assign (.Subscript o i pos') X.env] := by rfl) :
    PDS X F (.Assign [.Subscript o i pos'] e pos) (dAsg da (dgSub do_ di)) := pds_asg he (pdg_sub hu ho hi ha) hs hw h1
end

/-! ### exceptions wished for, defs called -/
structure DX where
  cls : Value
  fs : List (Str × D)
def XRep (K : Fg) (G H : Hp) (o : Option Addr) (fs : List (Str × D)) : Prop := (o = none ∧ fs = []) ∨ ∃ d ys, o = some d ∧ fs ≠ [] ∧ H d = some (.xd ys) ∧ ys.map (·.1) = fs.map (·.1) ∧ Reps K G (ys.map (·.2)) (fs.map (·.2))
abbrev DW := DX → Rho → Mem → Prop
def LW (K : Fg) (F : Fm) (pw : DW) : WX := fun c o σ H => ∃ G ρ M fs, HRel K F G H M ∧ SRel K G σ ρ ∧ XRep K G H o fs ∧ pw ⟨c, fs⟩ ρ M
abbrev TkD (X : Cx) (F : Fm) (pw : DW) : Prop := Takes X (LW X.K F pw)
theorem TkD.up {X : Cx} {F F' : Fm} {pw : DW} (t : TkD X F pw) (l : Fm.Le F F') : TkD X F' pw := Takes.imp t fun c d σ H ⟨G, ρ, M, fs, hr, sr, xr, p⟩ => ⟨G, ρ, M, fs, hr.down l, sr, xr, p⟩
/-- nothing is let out -/
def dw0 : DW := fun _ _ _ => False
theorem tk0 {X : Cx} {F : Fm} : TkD X F dw0 := Takes.imp takes0 fun c d σ H ⟨G, ρ, M, fs, hr, sr, xr, p⟩ => p
abbrev DSp := List D → Mem → (D → Mem → Prop) → (DX → Mem → Prop) → Prop
def QX (K : Fg) (F : Fm) (G : Hp) (pox : DX → Mem → Prop) (E : XK) : Prop := ∀ G' H' M' c o fs, Same G G' → HRel K F G' H' M' → XRep K G' H' o fs → pox ⟨c, fs⟩ M' → E c o H'
def LSp (K : Fg) (sp : DSp) : Sp := fun vs H Q E => ∃ R G ds M post pox, HRel K ⟨G, R⟩ G H M ∧ Reps K G vs ds ∧ sp ds M post pox ∧ QE K ⟨G, R⟩ G post Q ∧ QX K ⟨G, R⟩ G pox E
/-- a def that keeps its promise, as a caller sees it -/
structure Cal (P : Program) (w : World) (K : Fg) (mg : Str → Option Value) (base : Heap) (k : Nat) (x : Str) (sp : DSp) : Prop where
  ex : ∃ (f : Addr) (fd : FuncData) (ps : List Str), FnOk P w K mg base (L2.CX P w) k f fd ps (LSp K sp) ∧ mg x = some (.ref f) ∧ PySem.W.keepIn K (.ref f) = true ∧ Binds K fd ps []
theorem Cal.up {P : Program} {w : World} {K : Fg} {mg : Str → Option Value} {base : Heap} {j k : Nat} {x : Str} {sp : DSp} (c : Cal P w K mg base j x sp) (h : j ≤ k) : Cal P w K mg base k x sp :=
  let ⟨f, fd, ps, h1, h2, h3, h4⟩ := c.ex; ⟨f, fd, ps, h1.mono h, h2, h3, h4⟩
def dCall (sp : DSp) (pw : DW) (dA : DA) : DE := fun ρ M Q => dA ρ M fun vs M1 => sp vs M1 Q fun x M2 => pw x ρ M2
theorem HRel.at {K : Fg} {F : Fm} {G H : Hp} {M : Mem} (h : HRel K F G H M) : HRel K ⟨G, F.R⟩ G H M := ⟨Same.refl _, h.sub, h.rs, h.rg, h.cell⟩
theorem HRel.back {K : Fg} {F : Fm} {G G' H H' : Hp} {M M' : Mem} (h0 : HRel K F G H M) (h : HRel K ⟨G, F.R⟩ G' H' M') : HRel K F G' H' M' := ⟨h0.base.trans h.base, h.sub, h.rs, h.rg, h.cell⟩
section
variable {X : Cx} {F : Fm} {e : Expr} {es : List Expr} {dA : DA} {k : Nat} {x : Str} {sp : DSp} {pw : DW} {p pos : Pos}
theorem pd_call (c : Cal X.prog X.w X.K X.mg X.base k x sp) (hr : Room k X.A) (tk : TkD X F pw) (ha : PDA X F (e :: es) dA) (hg : Gl X x := by rfl) (hdb : (x == ("__debug__" : Str)) = false := by decide)
    (he : starEach (e :: es) X.env = (false, eval e X.env) :: starEach es X.env := by rfl) (hpl : (backTo pos (starEach es X.env)).any (·.1) = false := by rfl) : PD X F (.Call (.Name x p) (e :: es) [] pos) (dCall sp pw dA) := by
  obtain ⟨f, fd, ps, h1, h2, h3, h4⟩ := c.ex
  refine pe_imp (pe_callS (E := WE (LW X.K F pw)) h1 hr hg h2 h3 h4 (fun σ => passAt tk σ) ha hdb he hpl) fun σ H Q ⟨G, ρ, M, post, hr, sr, d, k⟩ => ?_
  exact ⟨G, ρ, M, _, hr, sr, d, fun G1 H1 M1 xs vs s1 h1 rs q1 => ⟨F.R, G1, vs, M1, post, _, h1.at, rs, q1, fun G2 H2 M2 x v s2 h2 r q2 => k G2 H2 M2 x v (s1.trans s2) (h1.back h2) r q2,
    fun G2 H2 M2 c o fs s2 h2 xr q2 => ⟨G2, ρ, M2, fs, h1.back h2, sr.mono (s1.trans s2), xr, q2⟩⟩⟩
/-- f() that raises nothing -/
def dCall0 (sp : DSp) : DE := fun _ M Q => sp [] M Q fun _ _ => False
theorem pd_call0 (c : Cal X.prog X.w X.K X.mg X.base k x sp) (hr : Room k X.A) (hg : Gl X x := by rfl) (hdb : (x == ("__debug__" : Str)) = false := by decide) : PD X F (.Call (.Name x p) [] [] pos) (dCall0 sp) := by
  obtain ⟨f, fd, ps, h1, h2, h3, h4⟩ := c.ex
  refine pe_imp (pe_call0 (E := E0) h1 hr hg h2 h3 h4 .nil passL hdb) fun σ H Q ⟨G, ρ, M, post, hr, sr, d, k⟩ => ?_
  exact ⟨F.R, G, [], M, post, _, hr.at, .nil, d, fun G2 H2 M2 x v s2 h2 r q2 => k G2 H2 M2 x v s2 (hr.back h2) r q2, fun G2 H2 M2 c o fs s2 h2 xr q2 => q2⟩
end
/-- the slots at the entry -/
def dstart (n : Nat) (ds : List D) : Rho := ds.map some ++ List.replicate (n - ds.length) none
theorem start_rel {K : Fg} {G : Hp} {N : List Str} {vs : List V} {ds : List D} (r : Reps K G vs ds) : SRel K G (L2.start N vs) (dstart N.length ds) := by
  have hl := r.length
  refine ⟨by unfold L2.start dstart; rw [List.length_append, List.length_append, List.length_map, List.length_map, List.length_replicate, List.length_replicate, hl], fun i d e => ?_⟩
  unfold dstart at e
  by_cases hi : i < ds.length
  · rw [List.getElem?_append_left (by rw [List.length_map]; exact hi), List.getElem?_map] at e
    cases q : ds[i]? with
    | none => rw [q] at e; cases e
    | some d' =>
      rw [q] at e
      have e2 : d' = d := Option.some.inj (Option.some.inj e)
      subst e2
      obtain ⟨x, e1, rx⟩ := r.get q
      refine ⟨x, ?_, rx⟩
      unfold L2.start
      rw [List.getElem?_append_left (by rw [List.length_map, hl]; exact hi), List.getElem?_map, e1]
      rfl
  · rw [List.getElem?_append_right (by rw [List.length_map]; omega), List.getElem?_replicate] at e
    split at e <;> cases e
section
variable {P : Program} {w : World} {K : Fg} {mg : Str → Option Value} {base : Heap}
/-- the context of a def's body -/
abbrev bodyX (P : Program) (w : World) (K : Fg) (mg : Str → Option Value) (base : Heap) (N : List Str) (qual : Str) (stm : Stmt) (f : Addr) (cdv : Value) (A : Around) (outer : List Env) (s : Shared) (H : Hp) (E : XK) : Cx :=
  cxOf (L2.CX P w) P w K mg base N qual (defScope stm) f cdv A outer s H E
theorem fn_d {x qual : Str} {stm : Stmt} {f : Addr} {fd : FuncData} {N ps : List Str} {k : Nat} {sp : DSp} (Fn : Fun K x qual stm f fd) (S : FnScope N ps (defScope stm)) (len : ∀ ds M Q E, sp ds M Q E → ds.length = ps.length) (d : DW → DS)
    (hd : ∀ (cdv : Value) (A : Around) (outer : List Env) (s : Shared) (H : Hp) (E : XK) (F : Fm) (pw : DW), Room k (A.deeper (envOfC qual (defScope stm) s.heap.objs.size f cdv)) → TkD (bodyX P w K mg base N qual stm f cdv A outer s H E) F pw →
      PassesOwn (model P w) (bodyX P w K mg base N qual stm f cdv A outer s H E).A (bodyX P w K mg base N qual stm f cdv A outer s H E).env (bodyX P w K mg base N qual stm f cdv A outer s H E).xe →
      PDSs (bodyX P w K mg base N qual stm f cdv A outer s H E) F (defBody stm) (d pw))
    (hs : ∀ ds M post pox, sp ds M post pox → d (fun x _ M => pox x M) { nx := fun _ M => post .non M, rt := post } (dstart N.length ds) M) : FnOk P w K mg base (L2.CX P w) (k + 1) f fd ps (LSp K sp) := by
  refine Fn.okX S (fun vs H Q E h => ?_) (fun cdv A outer s H vs Q E hr h => ?_)
  · obtain ⟨R, G, ds, M, post, pox, _, rs, h, _⟩ := h
    rw [rs.length]; exact len _ _ _ _ h
  · obtain ⟨R, G, ds, M, post, pox, h0, rs, h, kq, kx⟩ := h
    have tk : TkD (bodyX P w K mg base N qual stm f cdv A outer s H E) ⟨G, R⟩ (fun x _ M => pox x M) :=
      Takes.imp (takes_of (E := E) rfl rfl rfl rfl) fun c o σ H' ⟨G', ρ, M', fs, h1, sr, xr, p⟩ => kx G' H' M' c o fs h1.base h1 xr p
    refine ⟨_, hd cdv A outer s H E ⟨G, R⟩ (fun x _ M => pox x M) hr tk (passes_of rfl), ?_⟩
    refine ⟨G, dstart N.length ds, M, { nx := fun _ M => post .non M, rt := post }, h0, start_rel rs, hs ds M post pox h, ⟨fun G' σ' H' ρ' M' s h sr q => kq.later s |>.here h .non q, kq, fun _ _ _ _ _ _ _ _ z => z.elim, fun _ _ _ _ _ _ _ _ z => z.elim⟩⟩
end
end Dl

/-! Dl7: what is walked, for, while, comprehensions, raise. -/
namespace Dl
open L2 PySem PyProof.Rows PySem.Spec

/-- what is walked: its items, what stands still meanwhile -/
abbrev DI := Rho → Mem → (List D → (Mem → Prop) → Mem → Prop) → Prop
structure IterOk (K : Fg) (G : Hp) (J : It) (items : List D) (stay : Mem → Prop) : Prop where
  ex : ∃ (Gp : Hp → Prop) (Y : Nat → Hp → V → Hp → Prop), Walk J items.length Gp Y ∧ (∀ F G' H' M', Same G G' → HRel K F G' H' M' → stay M' → Gp H') ∧
    ∀ i F G' H' M' x H'', i < items.length → Same G G' → HRel K F G' H' M' → stay M' → Y i H' x H'' → ∃ G'' d, Same G' G'' ∧ HRel K F G'' H'' M' ∧ items[i]? = some d ∧ Rep K G'' x d
def LI (K : Fg) (F : Fm) (d : DI) : TI := fun σ H R => ∃ G ρ M post, HRel K F G H M ∧ SRel K G σ ρ ∧ d ρ M post ∧ ∀ G' H' M' items stay J, Same G G' → HRel K F G' H' M' → IterOk K G' J items stay → post items stay M' → R J H'
abbrev PDI (X : Cx) (F : Fm) (tg e : Expr) (d : DI) : Prop := PI X tg e (LI X.K F d)
theorem pi_imp {X : Cx} {tg e : Expr} {t t' : TI} (h : PI X tg e t) (i : ∀ σ H Q, t' σ H Q → t σ H Q) : PI X tg e t' := ⟨fun pins s σ H Q I q => h.run pins s σ H Q I (i σ H Q q)⟩
section
variable {X : Cx} {F : Fm} {tg e a b : Expr} {da : DE} {dA : DA} {pos p : Pos}
/-- a list -/
def diList (da : DE) : DI := fun ρ M Q => da ρ M fun x M1 => match x with
  | .lst ds => Q ds (fun _ => True) M1
  | .ro ds => Q ds (fun _ => True) M1
  | .obj a => (match M1 a with
    | some (.lst ds) => Q ds (fun M => M a = some (.lst ds)) M1
    | _ => False)
  | _ => False
theorem iter_list {K : Fg} {G : Hp} {a : Addr} {xs : List V} {ds : List D} (h : ∀ G' H', Same G G' → Same G' H' → SqL K H' a xs) (rs : Reps K G xs ds) : IterOk K G (Itl K a) ds (fun _ => True) := by
  refine ⟨fun H => SqL K H a xs, YAt xs, by rw [← rs.length]; exact walk_list, fun F G' H' M' s hr _ => h G' H' s hr.sub, fun i F G' H' M' x H'' hi s hr _ y => ?_⟩
  obtain ⟨rfl, y⟩ := y
  obtain ⟨d, e, r⟩ := rs.get' y
  exact ⟨G', d, Same.refl _, hr, e, r.mono s⟩
theorem pdi_list (ha : PD X F e da) : PDI X F tg e (diList da) := pi_imp (pi_list ha) fun σ H R ⟨G, ρ, M, post, hr, sr, d, k⟩ => ⟨G, ρ, M, _, hr, sr, d, fun G1 H1 M1 x v s1 h1 rx q1 => by
  cases v with
  | lst ds =>
    cases rx with
    | lst h r => exact ⟨_, rfl, ⟨_, .inl (.inl (h1.sub _ _ h))⟩, k _ _ _ _ _ _ s1 h1 (iter_list (fun G' H' s s' => .inl (.inl (s' _ _ (s _ _ h)))) r) q1⟩
  | ro ds =>
    cases rx with
    | ro h r => exact ⟨_, rfl, ⟨_, Same.seq h1.sub h⟩, k _ _ _ _ _ _ s1 h1 (iter_list (fun G' H' s s' => Same.seq s' (Same.seq s h)) r) q1⟩
  | obj a =>
    cases rx
    have q1 : (match M1 a with
      | some (.lst ds) => post ds (fun M => M a = some (.lst ds)) M1
      | _ => False) := q1
    split at q1
    · rename_i ds ea
      obtain ⟨xs, e1, e2⟩ := (h1.cell a _ ea).1
      refine ⟨a, rfl, ⟨_, .inl (.inl e1)⟩, k _ _ _ ds (fun M => M a = some (.lst ds)) _ s1 h1 ?_ q1⟩
      refine ⟨fun H => ∃ ys, H a = some (.lst ys) ∧ ys.length = ds.length, fun i H x H' => H' = H ∧ ∃ ys, H a = some (.lst ys) ∧ ys[i]? = some x, ⟨fun i H hi ⟨ys, g1, g2⟩ => ⟨ys, ys[i]'(by omega), .inl (.inl g1), by simp [g2, hi]⟩, fun H ⟨ys, g1, g2⟩ => ⟨ys, .inl (.inl g1), Nat.le_of_eq g2⟩,
        fun i H x H' hi ⟨ys, g1, g2⟩ y => ⟨y.1, ys, g1, y.2 ys (.inl (.inl g1))⟩⟩, fun F G' H' M' s hr st => ?_, fun i F G' H' M' x H'' hi s hr st y => ?_⟩
      · obtain ⟨ys, g1, g2⟩ := (hr.cell a _ st).1
        exact ⟨ys, g1, g2.length⟩
      · obtain ⟨rfl, ys, y1, y2⟩ := y
        obtain ⟨zs, g1, g2⟩ := (hr.cell a _ st).1
        rw [y1] at g1
        have ez : ys = zs := by injection g1 with g; injection g
        subst ez
        obtain ⟨d, e, r⟩ := g2.get' y2
        exact ⟨G', d, Same.refl _, hr, e, r⟩
    · exact q1.elim
  | _ => exact (show False from q1).elim⟩
/-- a tuple -/
def diTup (da : DE) : DI := fun ρ M Q => da ρ M fun x M1 => match x with
  | .tup ds => Q ds (fun _ => True) M1
  | _ => False
theorem pdi_tup (ha : PD X F e da) : PDI X F tg e (diTup da) := pi_imp (pi_tup ha) fun σ H R ⟨G, ρ, M, post, hr, sr, d, k⟩ => ⟨G, ρ, M, _, hr, sr, d, fun G1 H1 M1 x v s1 h1 rx q1 => by
  cases v with
  | tup ds =>
    cases rx with
    | tup h r =>
      rename_i xs
      refine ⟨_, rfl, ⟨_, .inl (.inl (h1.sub _ _ h))⟩, k _ _ _ ds (fun _ => True) _ s1 h1 ?_ q1⟩
      refine ⟨fun H => SqT X.K H _ xs, YAt xs, by rw [← r.length]; exact walk_tup, fun F G' H' M' s hr _ => .inl (.inl (hr.sub _ _ (s _ _ h))), fun i F G' H' M' x H'' hi s hr _ y => ?_⟩
      obtain ⟨rfl, y⟩ := y
      obtain ⟨d, e, r⟩ := r.get' y
      exact ⟨G', d, Same.refl _, hr, e, r.mono s⟩
  | _ => exact (show False from q1).elim⟩
/-- the signs of a text -/
def signsD (z : Str) : List D := z.cps.toList.map fun c => .str ⟨#[c]⟩
def diStr (da : DE) : DI := fun ρ M Q => da ρ M fun x M1 => match x with
  | .str z => Q (signsD z) (fun _ => True) M1
  | _ => False
theorem pdi_str (ha : PD X F e da) : PDI X F tg e (diStr da) := pi_imp (pi_str ha) fun σ H R ⟨G, ρ, M, post, hr, sr, d, k⟩ => ⟨G, ρ, M, _, hr, sr, d, fun G1 H1 M1 x v s1 h1 rx q1 => by
  cases v with
  | str z =>
    cases rx
    refine ⟨z, rfl, k _ _ _ (signsD z) (fun _ => True) _ s1 h1 ?_ q1⟩
    have hl : (signsD z).length = z.cps.size := by unfold signsD; rw [List.length_map, Array.length_toList]
    refine ⟨fun _ => True, _, by rw [hl]; exact walk_str, fun _ _ _ _ _ _ _ => trivial, fun i F G' H' M' x H'' hi s hr _ y => ?_⟩
    obtain ⟨rfl, c, hc, rfl⟩ := y
    refine ⟨G', _, Same.refl _, hr, ?_, .str⟩
    unfold signsD
    rw [List.getElem?_map, Array.getElem?_toList, hc]
    rfl
  | _ => exact (show False from q1).elim⟩
/-- range(n), range(a, b) -/
def rangeD (lo : Int) (n : Nat) : List D := (List.range n).map fun i => .int (lo + (i : Nat))
theorem iter_range {K : Fg} {G : Hp} {lo : Int} {n : Nat} : IterOk K G (Itr lo n) (rangeD lo n) (fun _ => True) := by
  have hl : (rangeD lo n).length = n := by unfold rangeD; rw [List.length_map, List.length_range]
  refine ⟨fun _ => True, YFn fun i => .int (lo + i), by rw [hl]; exact walk_range, fun _ _ _ _ _ _ _ => trivial, fun i F G' H' M' x H'' hi s hr _ y => ?_⟩
  obtain ⟨rfl, rfl⟩ := y
  rw [hl] at hi
  refine ⟨G', _, Same.refl _, hr, ?_, .int⟩
  unfold rangeD
  rw [List.getElem?_map, List.getElem?_range hi]
  rfl
def diRng1 (dA : DA) : DI := fun ρ M Q => dA ρ M fun vs M1 => match vs with
  | [.int j] => (-(2 ^ 62) ≤ j ∧ j < 2 ^ 62) ∧ Q (rangeD 0 j.toNat) (fun _ => True) M1
  | _ => False
def diRng2 (dA : DA) : DI := fun ρ M Q => dA ρ M fun vs M1 => match vs with
  | [.int i, .int j] => (-(2 ^ 62) ≤ i ∧ i < 2 ^ 62 ∧ -(2 ^ 62) ≤ j ∧ j < 2 ^ 62) ∧ Q (rangeD i (j - i).toNat) (fun _ => True) M1
  | _ => False
theorem pdi_range1 (hm : X.mg "range" = none) (ha : PDA X F [a] dA) (hg : Gl X "range" := by rfl) (hs : starEach [a] X.env = [(false, eval a X.env)] := by rfl) : PDI X F tg (.Call (.Name "range" p) [a] [] pos) (diRng1 dA) :=
  pi_imp (pi_range1 hg hm ha hs) fun σ H R ⟨G, ρ, M, post, hr, sr, d, k⟩ => ⟨G, ρ, M, _, hr, sr, d, fun G1 H1 M1 xs vs s1 h1 rs q1 => by
    cases rs with
    | nil => exact (show False from q1).elim
    | cons r t =>
      cases t with
      | cons _ _ => cases r <;> exact (show False from q1).elim
      | nil => cases r <;> first
        | exact (show False from q1).elim
        | exact ⟨_, rfl, q1.1.1, q1.1.2, k _ _ _ _ _ _ s1 h1 iter_range q1.2⟩⟩
theorem pdi_range2 (hm : X.mg "range" = none) (ha : PDA X F [a, b] dA) (hg : Gl X "range" := by rfl) (hs : starEach [a, b] X.env = [(false, eval a X.env), (false, eval b X.env)] := by rfl) (hs2 : starEach [b] X.env = [(false, eval b X.env)] := by rfl) :
    PDI X F tg (.Call (.Name "range" p) [a, b] [] pos) (diRng2 dA) :=
  pi_imp (pi_range2 hg hm ha hs hs2) fun σ H R ⟨G, ρ, M, post, hr, sr, d, k⟩ => ⟨G, ρ, M, _, hr, sr, d, fun G1 H1 M1 xs vs s1 h1 rs q1 => by
    cases rs with
    | nil => exact (show False from q1).elim
    | cons r t =>
      cases t with
      | nil => cases r <;> exact (show False from q1).elim
      | cons r' t => cases t with
        | cons _ _ => cases r <;> cases r' <;> exact (show False from q1).elim
        | nil => cases r <;> first
          | exact (show False from q1).elim
          | (cases r' <;> first
            | exact (show False from q1).elim
            | exact ⟨_, _, rfl, q1.1, k _ _ _ _ _ _ s1 h1 iter_range q1.2⟩)⟩

/-! ### for -/
def dForL (g : DG) (db : DS) (E : DEnds) (stay : Mem → Prop) : List D → Rho → Mem → Prop
  | [] => fun ρ M => stay M ∧ E.nx ρ M
  | d :: ds => fun ρ M => stay M ∧ g d ρ M fun ρ1 M1 => db { nx := dForL g db E stay ds, rt := E.rt, ct := dForL g db E stay ds, bk := E.nx } ρ1 M1
theorem dForL_stay {g : DG} {db : DS} {E : DEnds} {stay : Mem → Prop} {ds : List D} {ρ : Rho} {M : Mem} (h : dForL g db E stay ds ρ M) : stay M := by
  cases ds with
  | nil => exact h.1
  | cons d ds => exact h.1
def dFor (di : DI) (g : DG) (db : DS) : DS := fun E ρ M => di ρ M fun items stay M1 => dForL g db E stay items ρ M1
theorem pds_for {iter : Expr} {body : List Stmt} {di : DI} {g : DG} {db : DS} (hp : PassesOwn (model X.prog X.w) X.A X.env X.xe) (hc : X.calm = true) (hi : PDI X F tg iter di) (hg : PDG X F tg g) (hb : PDSs X F body db)
    (hs : ∀ x, foldedSetIterable iter X.env x = pure x := by intro _; rfl) : PDS X F (.For tg iter body [] pos) (dFor di g db) :=
  ps_imp (ps_for hp hc hi hg hb hs) fun Dn σ H ⟨G, ρ, M, E, hr, sr, d, q⟩ => ⟨G, ρ, M, _, hr, sr, d, fun G1 H1 M1 items stay J s1 h1 io q1 => by
    obtain ⟨Gp, Y, wk, w1, w2⟩ := io.ex
    refine for_it wk (fun i σ' H' => ∃ G' ρ' M', Same G1 G' ∧ HRel X.K F G' H' M' ∧ SRel X.K G' σ' ρ' ∧ dForL g db E stay (items.drop i) ρ' M') ⟨G1, ρ, M1, Same.refl _, h1, sr.mono s1, q1⟩ ?_ ?_ ?_
    · rintro i σ' H' hi ⟨G', ρ', M', s, hr', sr', h⟩
      exact w1 F G' H' M' s hr' (dForL_stay h)
    · rintro i x σ' H' H'' hi ⟨G', ρ', M', s, hr', sr', h⟩ y
      obtain ⟨G2, dd, s2, hr2, e, rx⟩ := w2 i F G' H' M' x H'' hi s hr' (dForL_stay h) y
      have ed : items.drop i = dd :: items.drop (i + 1) := by
        rw [List.drop_eq_getElem_cons hi]
        rw [List.getElem?_eq_getElem hi] at e
        rw [Option.some.inj e]
      rw [ed] at h
      refine ⟨G2, ρ', M', dd, _, hr2, sr'.mono s2, rx, h.2, fun G3 σ3 H3 ρ3 M3 s3 hr3 sr3 q3 => ⟨G3, ρ3, M3, _, hr3, sr3, q3, ⟨?_, q.rt.later (s1.trans (s.trans (s2.trans s3))), ?_, ?_⟩⟩⟩
      · intro G4 σ4 H4 ρ4 M4 s4 hr4 sr4 q4
        exact ⟨G4, ρ4, M4, s.trans (s2.trans (s3.trans s4)), hr4, sr4, q4⟩
      · intro G4 σ4 H4 ρ4 M4 s4 hr4 sr4 q4
        exact q.nx G4 σ4 H4 ρ4 M4 (s1.trans (s.trans (s2.trans (s3.trans s4)))) hr4 sr4 q4
      · intro G4 σ4 H4 ρ4 M4 s4 hr4 sr4 q4
        exact ⟨G4, ρ4, M4, s.trans (s2.trans (s3.trans s4)), hr4, sr4, q4⟩
    · rintro σ' H' ⟨G', ρ', M', s, hr', sr', h⟩
      rw [List.drop_length] at h
      exact q.nx G' σ' H' ρ' M' (s1.trans s) hr' sr' h.2⟩

/-! ### while -/
def dWhileN (t : DT) (db : DS) (E : DEnds) : Nat → Rho → Mem → Prop
  | 0 => fun _ _ => False
  | n + 1 => fun ρ M => t ρ M fun b M1 => if b = true then db { nx := dWhileN t db E n, rt := E.rt, ct := dWhileN t db E n, bk := E.nx } ρ M1 else E.nx ρ M1
def dWhile (t : DT) (db : DS) : DS := fun E ρ M => ∃ n, dWhileN t db E n ρ M
theorem pds_while {c : Expr} {body : List Stmt} {dt : DT} {db : DS} (hp : PassesOwn (model X.prog X.w) X.A X.env X.xe) (hc : PDT X F c dt) (hb : PDSs X F body db) : PDS X F (.While c body [] pos) (dWhile dt db) :=
  ps_imp (ps_while hp hc hb) fun Dn σ H ⟨G, ρ, M, E, hr, sr, ⟨n, d⟩, q⟩ => by
    refine ⟨fun m σ' H' => ∃ G' ρ' M', Same G G' ∧ HRel X.K F G' H' M' ∧ SRel X.K G' σ' ρ' ∧ dWhileN dt db E m ρ' M', ⟨n, G, ρ, M, Same.refl _, hr, sr, d⟩, ?_⟩
    rintro m σ' H' ⟨G', ρ', M', s, hr', sr', h⟩
    cases m with
    | zero => exact h.elim
    | succ m =>
      refine ⟨G', ρ', M', _, hr', sr', h, fun G2 H2 M2 b s2 hr2 q2 => ?_⟩
      cases b with
      | false => exact q.nx G2 σ' H2 ρ' M2 (s.trans s2) hr2 (sr'.mono s2) q2
      | true =>
        refine ⟨fun σ4 H4 => ∃ G4 ρ4 M4, Same G G4 ∧ HRel X.K F G4 H4 M4 ∧ SRel X.K G4 σ4 ρ4 ∧ dWhileN dt db E m ρ4 M4, fun σ4 H4 h4 => ⟨m, Nat.lt_succ_self m, h4⟩, ?_⟩
        refine ⟨G2, ρ', M2, _, hr2, sr'.mono s2, q2, ⟨fun G4 σ4 H4 ρ4 M4 s4 hr4 sr4 q4 => ⟨G4, ρ4, M4, s.trans (s2.trans s4), hr4, sr4, q4⟩, q.rt.later (s.trans s2), fun G4 σ4 H4 ρ4 M4 s4 hr4 sr4 q4 => q.nx G4 σ4 H4 ρ4 M4 (s.trans (s2.trans s4)) hr4 sr4 q4, fun G4 σ4 H4 ρ4 M4 s4 hr4 sr4 q4 => ⟨G4, ρ4, M4, s.trans (s2.trans s4), hr4, sr4, q4⟩⟩⟩

/-! ### comprehensions -/
abbrev PDTs (X : Cx) (F : Fm) (ifs : List Expr) (d : DT) : Prop := PTs X ifs (LT X.K F d)
def dYes : DT := fun _ M Q => Q true M
theorem pdts_nil : PDTs X F [] dYes := ⟨fun pins s σ H Q I ⟨G, ρ, M, post, hr, sr, d, k⟩ => pts_nil.run pins s σ H Q I (k G H M true (Same.refl _) hr d)⟩
theorem pdts_one {c : Expr} {dt : DT} (h : PDT X F c dt) : PDTs X F [c] dt := pts_one h
/-- the slots of the block's own names forgotten -/
def dwipe (ρ : Rho) : List Nat → Rho
  | [] => ρ
  | v :: vs => (dwipe ρ vs).set v none
theorem wipe_rel {K : Fg} {G : Hp} {σ : L2.St} {ρ : Rho} (h : SRel K G σ ρ) : ∀ vs : List Nat, SRel K G (wipe σ vs) (dwipe ρ vs)
  | [] => h
  | v :: vs => (wipe_rel h vs).setN v none
def dLcL (g : DG) (dt : DT) (de : DE) (vs : List Nat) (stay : Mem → Prop) (ρ : Rho) (Q : List D → Mem → Prop) : List D → List D → Mem → Prop
  | [], acc, M => stay M ∧ Q acc M
  | d :: ds, acc, M => stay M ∧ g d (dwipe ρ vs) M fun ρ1 M1 => dt ρ1 M1 fun b M2 => if b = true then de ρ1 M2 fun y M3 => acc.length < sizeLine ∧ dLcL g dt de vs stay ρ Q ds (acc ++ [y]) M3 else dLcL g dt de vs stay ρ Q ds acc M2
theorem dLcL_stay {g : DG} {dt : DT} {de : DE} {vs : List Nat} {stay : Mem → Prop} {ρ : Rho} {Q : List D → Mem → Prop} {ds acc : List D} {M : Mem} (h : dLcL g dt de vs stay ρ Q ds acc M) : stay M := by
  cases ds with
  | nil => exact h.1
  | cons d ds => exact h.1
/-- the new list: one that never changes, or a cell -/
def dLc (fresh : Bool) (di : DI) (g : DG) (dt : DT) (de : DE) (vs : List Nat) : DE := fun ρ M Q => di ρ M fun items stay M1 => dLcL g dt de vs stay ρ (fun acc M2 => if fresh then ∀ p, M2 p = none → Q (.obj p) (Dl.st M2 p (.lst acc)) else Q (.lst acc) M2) items [] M1
end
end Dl

/-! Dl8: comprehensions, raise, try .. except .. as. -/
namespace Dl
open L2 PySem PyProof.Rows PySem.Spec

theorem wipe_get (σ : L2.St) : ∀ (vs : List Nat) (j : Nat), (wipe σ vs)[j]? = if j ∈ vs ∧ j < σ.length then some none else σ[j]?
  | [], j => by simp [wipe]
  | v :: vs, j => by
    unfold wipe
    by_cases hj : v = j
    · subst hj
      by_cases hl : v < σ.length
      · rw [List.getElem?_set_self (by rw [wipe_length]; exact hl), if_pos ⟨List.mem_cons_self, hl⟩]
      · rw [List.getElem?_eq_none (by rw [List.length_set, wipe_length]; omega), if_neg (fun z => hl z.2), List.getElem?_eq_none (by omega)]
    · rw [List.getElem?_set_ne hj, wipe_get σ vs j]
      have e : (j ∈ v :: vs) = (j ∈ vs) := by
        refine propext ⟨fun h => ?_, List.mem_cons_of_mem _⟩
        rcases List.mem_cons.mp h with h | h
        · exact absurd h.symm hj
        · exact h
      by_cases h : j ∈ vs ∧ j < σ.length
      · rw [if_pos h, if_pos ⟨e ▸ h.1, h.2⟩]
      · rw [if_neg h, if_neg fun z => h ⟨e ▸ z.1, z.2⟩]
/-- but for the slots vs all is as it was -/
def OnlyIn (vs : List Nat) (σ σ' : L2.St) : Prop := σ'.length = σ.length ∧ ∀ j : Nat, j ∉ vs → σ'[j]? = σ[j]?
theorem OnlyIn.refl (vs : List Nat) (σ : L2.St) : OnlyIn vs σ σ := ⟨rfl, fun _ _ => rfl⟩
theorem OnlyIn.trans {vs : List Nat} {σ σ1 σ2 : L2.St} (a : OnlyIn vs σ σ1) (b : OnlyIn vs σ1 σ2) : OnlyIn vs σ σ2 := ⟨b.1.trans a.1, fun j h => (b.2 j h).trans (a.2 j h)⟩
theorem OnlyIn.wipe {vs : List Nat} {σ σ' : L2.St} (a : OnlyIn vs σ σ') : wipe σ' vs = wipe σ vs := by
  refine List.ext_getElem? fun j => ?_
  rw [wipe_get, wipe_get, a.1]
  by_cases h : j ∈ vs ∧ j < σ.length
  · rw [if_pos h, if_pos h]
  · rw [if_neg h, if_neg h]
    by_cases h2 : j ∈ vs
    · have h3 : ¬ j < σ.length := fun z => h ⟨h2, z⟩
      rw [List.getElem?_eq_none (by rw [a.1]; omega), List.getElem?_eq_none (by omega)]
    · exact a.2 j h2
/-- targets of a comprehension: they store in the slots vs alone -/
def LGv (K : Fg) (F : Fm) (vs : List Nat) (g : DG) : TG := fun x σ H Q => ∃ G ρ M v post, HRel K F G H M ∧ SRel K G σ ρ ∧ Rep K G x v ∧ g v ρ M post ∧ ∀ G' σ' H' ρ' M', Same G G' → HRel K F G' H' M' → SRel K G' σ' ρ' → OnlyIn vs σ σ' → post ρ' M' → Q σ' H'
def LGsv (K : Fg) (F : Fm) (us : List Nat) (g : DGs) : TGs := fun xs σ H Q => ∃ G ρ M vs post, HRel K F G H M ∧ SRel K G σ ρ ∧ Reps K G xs vs ∧ g vs ρ M post ∧ ∀ G' σ' H' ρ' M', Same G G' → HRel K F G' H' M' → SRel K G' σ' ρ' → OnlyIn us σ σ' → post ρ' M' → Q σ' H'
abbrev PDGv (X : Cx) (F : Fm) (vs : List Nat) (tg : Expr) (g : DG) : Prop := PG X tg (LGv X.K F vs g)
abbrev PDGsv (X : Cx) (F : Fm) (vs : List Nat) (tgs : List Expr) (g : DGs) : Prop := PGs X tgs (LGsv X.K F vs g)
section
variable {X : Cx} {F : Fm} {us : List Nat} {pos : Pos} {e : Expr}
theorem pdgv_name (i : Nat) {x : Str} (hN : X.N.Nodup) (hu : i ∈ us := by decide) (hi : X.N[i]? = some x := by rfl) (hx : Loc X.env.scope x := by first | exact Or.inl rfl | exact Or.inr rfl) (hf : X.fn x = true ∨ X.env.scope.names.lookup x = some .local := by first | exact .inl rfl | exact .inr rfl | assumption) : PDGv X F us (.Name x pos) (dgName i) :=
  pg_imp (pg_name hN hi hx hf) fun x σ H Q ⟨G, ρ, M, v, post, hr, sr, r, d, q⟩ => q G _ H _ M (Same.refl _) hr (sr.set r i) ⟨List.length_set, fun j hj => List.getElem?_set_ne (fun z : i = j => hj (by rw [← z]; exact hu))⟩ d
theorem pdgsv_nil : PDGsv X F us [] dgNil := pgs_imp pgs_nil fun xs σ H Q ⟨G, ρ, M, vs, post, hr, sr, r, d, q⟩ => by
  obtain ⟨rfl, d⟩ := d
  cases r
  exact ⟨rfl, q G σ H ρ M (Same.refl _) hr sr (.refl _ _) d⟩
theorem pdgsv_cons {es : List Expr} {g : DG} {gs : DGs} (h1 : PDGv X F us e g) (h2 : PDGsv X F us es gs) (hs : (assignEach (e :: es) X.env).map (·.2) = assign e X.env :: (assignEach es X.env).map (·.2) := by rfl) : PDGsv X F us (e :: es) (dgCons g gs) :=
  pgs_imp (pgs_cons h1 h2 hs) fun xs σ H Q ⟨G, ρ, M, vs, post, hr, sr, r, d, q⟩ => by
    cases r with
    | nil => exact (show False from d).elim
    | cons rx t =>
      exact ⟨_, _, rfl, G, ρ, M, _, _, hr, sr, rx, d, fun G' σ' H' ρ' M' s h s' o' q' => ⟨G', ρ', M', _, post, h, s', t.mono s, q', fun G2 σ2 H2 ρ2 M2 s2 h2 sr2 o2 q2 => q G2 σ2 H2 ρ2 M2 (s.trans s2) h2 sr2 (o'.trans o2) q2⟩⟩
theorem pdgv_tup {es : List Expr} {k n : Nat} {gs : DGs} (hc : X.calm = true) (h : PDGsv X F us es gs) (hn : (assignEach es X.env).length = n := by rfl) (hst : (assignEach es X.env).findIdx? (·.1) = none := by rfl) : PDGv X F us (.Tuple es k pos) (dgTup n gs) :=
  pg_imp (pg_tup hc h hn hst) fun x σ H Q ⟨G, ρ, M, v, post, hr, sr, r, d, q⟩ => by
    cases v with
    | tup ds =>
      cases r with
      | tup ht rs => exact ⟨_, _, rfl, .inl (.inl (hr.sub _ _ ht)), by rw [rs.length]; exact d.1, G, ρ, M, _, post, hr, sr, rs, d.2, q⟩
    | _ => exact (show False from d).elim
end
/-- .. for some frame with more left alone -/
def LXT (K : Fg) (F : Fm) (d : DT) : TT := fun σ H Q => ∃ F', Fm.Le F F' ∧ LT K F' d σ H Q
def LXG (K : Fg) (F : Fm) (vs : List Nat) (g : DG) : TG := fun x σ H Q => ∃ F', Fm.Le F F' ∧ LGv K F' vs g x σ H Q
section
variable {X : Cx} {F : Fm} {tg elt iter : Expr} {ifs : List Expr} {scope : Scope} {own : List (Str × Nat)} {pos : Pos} {di : DI} {g : DG} {dt : DT} {de : DE}
/-- the context of a comprehension's block -/
abbrev blkX (X : Cx) (s : Shared) (H : Hp) (scope : Scope) (C : Addr) (cl : List (Str × Addr)) (fp : List Addr) : Cx := X.blk s H scope (compEnvC scope cl C X.env) fp
theorem lc_imp (fresh : Bool) : ∀ σ H Q, LE X.K F (dLc fresh di g dt de (own.map (·.2))) σ H Q → tLc (LI X.K F di) (LXG X.K F (own.map (·.2)) g) (LXT X.K F dt) (LX X.K F de) (own.map (·.2)) σ H Q :=
  fun σ H Q ⟨G, ρ, M, post, hr, sr, d, k⟩ => ⟨G, ρ, M, _, hr, sr, d, fun G1 H1 M1 items stay J s1 h1 io q1 => fun D hD => by
    obtain ⟨Gp, Y, wk, w1, w2⟩ := io.ex
    have hrr := (h1.mnone hD).2.2
    refine lc_it wk (fun i H' => ∃ G' M' acc xs, Same G1 G' ∧ HRel X.K ⟨F.B, upd F.R D (.lst xs)⟩ G' H' M' ∧ Reps X.K G' xs acc ∧ dLcL g dt de (own.map (·.2)) stay ρ (fun acc M2 => if fresh then ∀ p, M2 p = none → post (.obj p) (Dl.st M2 p (.lst acc)) else post (.lst acc) M2) (items.drop i) acc M')
      ⟨G1, M1, [], [], Same.refl _, h1.hide hD, .nil, q1⟩ ?_ ?_ ?_
    · rintro i H' hi ⟨G', M', acc, xs, s, hr', rs, h⟩
      exact w1 _ G' H' M' s hr' (dLcL_stay h)
    · rintro i x H' H'' hi ⟨G', M', acc, xs, s, hr', rs, h⟩ y
      have l : ∀ ys : List V, Fm.Le F ⟨F.B, upd F.R D (.lst ys)⟩ := fun ys => ⟨rfl, same_upd hrr⟩
      obtain ⟨G2, dd, s2, hr2, e, rx⟩ := w2 i _ G' H' M' x H'' hi s hr' (dLcL_stay h) y
      have ed : items.drop i = dd :: items.drop (i + 1) := by
        rw [List.drop_eq_getElem_cons hi]
        rw [List.getElem?_eq_getElem hi] at e
        rw [Option.some.inj e]
      rw [ed] at h
      have sr2 : SRel X.K G2 σ ρ := sr.mono (s1.trans (s.trans s2))
      refine ⟨_, l xs, G2, dwipe ρ _, M', dd, _, hr2, wipe_rel sr2 _, rx, h.2, fun G3 σ3 H3 ρ3 M3 s3 hr3 sr3 o3 q3 => ⟨?_, _, l xs, G3, ρ3, M3, _, hr3, sr3, q3, fun G4 H4 M4 b s4 hr4 q4 => ?_⟩⟩
      · rw [o3.wipe]
        refine List.ext_getElem? fun j => ?_
        rw [wipe_get, wipe_length]
        by_cases hj : j ∈ own.map (·.2) ∧ j < σ.length
        · rw [if_pos hj, wipe_get, if_pos hj]
        · rw [if_neg hj]
      · cases b with
        | false => exact ⟨G4, M4, acc, xs, s.trans (s2.trans (s3.trans s4)), hr4, rs.mono (s2.trans (s3.trans s4)), q4⟩
        | true =>
          refine ⟨_, l xs, G4, ρ3, M4, _, hr4, sr3.mono s4, q4, fun G5 H5 M5 z v s5 hr5 rz q5 => ⟨xs, hr5.rs D _ upd_same, by rw [rs.length]; exact q5.1, ?_⟩⟩
          exact ⟨G5, M5, acc ++ [v], xs ++ [z], s.trans (s2.trans (s3.trans (s4.trans s5))), hr5.hidden, (rs.mono (s2.trans (s3.trans (s4.trans s5)))).app (.cons rz .nil), q5.2⟩
    · rintro H' ⟨G', M', acc, xs, s, hr', rs, h⟩
      rw [List.drop_length] at h
      obtain ⟨_, h⟩ := h
      cases fresh with
      | false =>
        obtain ⟨s3, h3⟩ := hr'.shown hrr
        exact k _ _ _ _ _ (s1.trans (s.trans s3)) h3 (.lst upd_same (rs.mono s3)) h
      | true =>
        have hh : H' D = some (.lst xs) := hr'.rs D _ upd_same
        have hm1 : M' D = none := by
          cases q : M' D with
          | none => rfl
          | some c =>
            have z : upd F.R D (.lst xs) D = none := (hr'.cell D c q).2.2
            rw [upd_same] at z; cases z
        exact k _ _ _ _ _ (s1.trans s) (hr'.shownC (c := .lst acc) hrr ⟨_, hh, rs⟩) .obj (h D hm1)⟩
variable (hc : X.calm = true) (hN : X.N.Nodup) (hi : PDI X F tg iter di) (ok : BlkOk X.N X.env.scope scope own)
    (hg : ∀ (s : Shared) (H : Hp) (C : Addr) (cl : List (Str × Addr)) (fp : List Addr) (F' : Fm), Fm.Le F F' → PDGv (blkX X s H scope C cl fp) F' (own.map (·.2)) tg g)
    (ht : ∀ (s : Shared) (H : Hp) (C : Addr) (cl : List (Str × Addr)) (fp : List Addr) (F' : Fm), Fm.Le F F' → PDTs (blkX X s H scope C cl fp) F' ifs dt)
    (he : ∀ (s : Shared) (H : Hp) (C : Addr) (cl : List (Str × Addr)) (fp : List Addr) (F' : Fm), Fm.Le F F' → PD (blkX X s H scope C cl fp) F' elt de)
include hc hN hi ok hg ht he
theorem pd_lc (fresh : Bool) (hs : ∀ x, foldedSetIterable iter X.env x = pure x := by intro _; rfl) : PD X F (.ListComp elt [⟨tg, iter, ifs, 0⟩] scope pos) (dLc fresh di g dt de (own.map (·.2))) :=
  pe_imp (pe_lc hc hN hi ok (g := LXG X.K F (own.map (·.2)) g) (tt := LXT X.K F dt) (te := LX X.K F de)
    (fun s H C cl fp => ⟨fun pins s' σ H' v u Q I r ⟨F', l, q⟩ => (hg s H C cl fp F' l).run pins s' σ H' v u Q I r q⟩)
    (fun s H C cl fp => ⟨fun pins s' σ H' Q I ⟨F', l, q⟩ => (ht s H C cl fp F' l).run pins s' σ H' Q I q⟩)
    (fun s H C cl fp => ⟨fun pins s' σ H' Q I ⟨F', l, q⟩ => (he s H C cl fp F' l).run pins s' σ H' Q I q⟩) hs) (lc_imp fresh)
/-- name = [..] on one line -/
theorem pds_setlc (fresh : Bool) (i : Nat) {y : Str} {py spos : Pos} (hy : X.N[i]? = some y) (hyl : X.env.scope.names.lookup y = some .local) (hsw : swapsWith (.ListComp elt [⟨tg, iter, ifs, 0⟩] scope pos) (some (.Name y py)) spos.line X.env = pure true)
    (hs : ∀ x, foldedSetIterable iter X.env x = pure x := by intro _; rfl) : PDS X F (.Assign [.Name y py] (.ListComp elt [⟨tg, iter, ifs, 0⟩] scope pos) spos) (dSet i (dLc fresh di g dt de (own.map (·.2)))) :=
  ps_imp (ps_setLc (i := i) hc hN hy hyl hsw hi ok (g := LXG X.K F (own.map (·.2)) g) (tt := LXT X.K F dt) (te := LX X.K F de)
    (fun s H C cl fp => ⟨fun pins s' σ H' v u Q I r ⟨F', l, q⟩ => (hg s H C cl fp F' l).run pins s' σ H' v u Q I r q⟩)
    (fun s H C cl fp => ⟨fun pins s' σ H' Q I ⟨F', l, q⟩ => (ht s H C cl fp F' l).run pins s' σ H' Q I q⟩)
    (fun s H C cl fp => ⟨fun pins s' σ H' Q I ⟨F', l, q⟩ => (he s H C cl fp F' l).run pins s' σ H' Q I q⟩) hs) fun Dn σ H ⟨G, ρ, M, E, hr, sr, d, q⟩ =>
      lc_imp fresh σ H _ ⟨G, ρ, M, _, hr, sr, d, fun G' H' M' x v s h r q' => q.nx G' _ H' _ M' s h ((sr.mono s).set r i) q'⟩
end
end Dl

/-! Dl9: raise, try .. except. -/
namespace Dl
open L2 PySem PyProof.Rows PySem.Spec

section
variable {X : Cx} {F : Fm} {pw : DW} {pos p p2 p3 : Pos}
/-- raise C('m'), C an own class without own __init__ -/
def dRaise (pw : DW) (C : Addr) : DS := fun _ ρ M => pw ⟨.ref C, []⟩ ρ M
theorem pds_raise {C : Addr} {bmB : List Value} {B newId initId : String} {x m : Str} {j : Nat} (Fx : ExcBaseFacts B newId initId bmB) (q : PySem.W.excIn X.K C bmB newId = true) (gC : X.mg x = some (.ref C)) (kC : PySem.W.keepIn X.K (.ref C) = true)
    (s1 : PySem.W.subIn X.K (.ref C) (.type "BaseException") = some true) (s2 : PySem.W.typeIn X.K (.ref C) = some (.type "type")) (hc : X.calm = true) (tk : TkD X F pw) (hg : Gl X x := by rfl) (hdb : (x == ("__debug__" : Str)) = false := by decide) :
    PDS X F (.Raise (some (.Call (.Name x p) [.Constant (.str m) j p2] [] p3)) none pos) (dRaise pw C) :=
  ps_imp (ps_raise hc tk (pmk_own Fx q gC kC (raises_own s1 s2) hg hdb)) fun D σ H ⟨G, ρ, M, E, hr, sr, d, q⟩ => ⟨G, ρ, M, [], hr, sr, .inl ⟨rfl, rfl⟩, d⟩
/-- what the suite may know of the fields of the exception that it holds -/
def XF (K : Fg) (F : Fm) (o : Option Addr) (fs : List (Str × D)) : Prop := (o = none ∧ fs = []) ∨ ∃ d ys, o = some d ∧ fs ≠ [] ∧ (∀ G H M, HRel K F G H M → H d = some (.xd ys)) ∧ ys.map (·.1) = fs.map (·.1) ∧ Reps K F.B (ys.map (·.2)) (fs.map (·.2))
theorem xf_of {K : Fg} {G H : Hp} {M : Mem} {o : Option Addr} {fs : List (Str × D)} (hr : HRel K F G H M) (xr : XRep K G H o fs) : ∃ G', Same G G' ∧ HRel K ⟨G', F.R⟩ G' H M ∧ XF K ⟨G', F.R⟩ o fs := by
  rcases xr with ⟨e1, e2⟩ | ⟨d, ys, e1, ne, hd, e2, rs⟩
  · exact ⟨G, Same.refl _, hr.at, .inl ⟨e1, e2⟩⟩
  · cases qg : G d with
    | some u =>
      have hu := hr.sub d u qg
      rw [hd] at hu; cases hu
      exact ⟨G, Same.refl _, hr.at, .inr ⟨d, ys, e1, ne, fun G' H' M' h => h.sub d _ (h.base d _ qg), e2, rs⟩⟩
    | none =>
      cases qr : F.R d with
      | some u =>
        have hu := hr.rs d u qr
        rw [hd] at hu; cases hu
        exact ⟨G, Same.refl _, hr.at, .inr ⟨d, ys, e1, ne, fun G' H' M' h => h.rs d _ qr, e2, rs⟩⟩
      | none =>
        have s : Same G (upd G d (.xd ys)) := same_upd qg
        have hm : ∀ c, M d = some c → False := fun c qc => by
          obtain ⟨h1, _⟩ := hr.cell d c qc
          cases c with
          | lst ds => obtain ⟨xs, h2, _⟩ := h1; rw [hd] at h2; cases h2
          | dk ds => obtain ⟨xs, h2, _⟩ := h1; rw [hd] at h2; cases h2
          | dt ds => obtain ⟨xs, h2, _⟩ := h1; rw [hd] at h2; cases h2
          | ins C ds => obtain ⟨dx, xs, h2, _⟩ := h1; rw [hd] at h2; cases h2
        refine ⟨upd G d (.xd ys), s, ⟨Same.refl _, fun b u q => ?_, hr.rs, fun b u q => ?_, fun b c q => ?_⟩, .inr ⟨d, ys, e1, ne, fun G' H' M' h => h.sub d _ (h.base d _ upd_same), e2, rs.mono s⟩⟩
        · by_cases hb : b = d
          · subst hb; rw [upd_same] at q; rw [hd]; exact q
          · rw [upd_ne hb] at q; exact hr.sub b u q
        · rw [upd_ne (ne_of_none q qr)]; exact hr.rg b u q
        · obtain ⟨h1, h2, h3⟩ := hr.cell b c q
          have hb : b ≠ d := fun z => hm c (z ▸ q)
          exact ⟨h1.mono s rfl, by rw [upd_ne hb]; exact h2, h3⟩
def dEndsN (i : Nat) (E : DEnds) : DEnds := { nx := fun ρ M => E.nx (ρ.set i none) M, rt := E.rt, bk := fun ρ M => E.bk (ρ.set i none) M, ct := fun ρ M => E.ct (ρ.set i none) M }
/-- try: body, except c as (slot i): suite -/
def dTryAs (K : Fg) (c : Value) (i : Nat) (db : DW → DS) (dsu : Addr → DX → DS) (pw : DW) : DS := fun E ρ M =>
  db (fun x ρ' M' => ∃ b, PySem.W.exmOne K x.cls c = some b ∧ (b = true → ∀ a, dsu a x (dEndsN i E) (ρ'.set i (some (.obj a))) M') ∧ (b = false → pw x ρ' M')) E ρ M
variable {x n : Str} {c : Value} {body suite : List Stmt} {b₀ : Stmt} {np pos' : Pos} {db : DW → DS} {dsu : Addr → DX → DS}
theorem pds_tryas (i : Nat) (hs : X.stack = X.env :: X.outer) (hf : X.env.frame = some X.env.locals) (hN : X.N.Nodup) (hc : Names X x c) (tk : TkD X F pw)
    (hb : ∀ (F' : Fm) (pw' : DW) (pn : List (Addr × Obj)) (xe : Value → Shared → Prop), TkD (X.tr pn xe) F' pw' → PassesOwn (model X.prog X.w) X.A X.env xe → PDSs (X.tr pn xe) F' body (db pw'))
    (hsu : ∀ (F' : Fm) (a : Addr) (oe : Obj) (cls : Value) (o : Option Addr) (fs : List (Str × D)) (pn : List (Addr × Obj)), Zc cls o oe → (∃ vs, oe.data = .fields vs) → XF X.K F' o fs → PDSs (X.suite a ((a, oe) :: pn)) F' (b₀ :: suite) (dsu a ⟨cls, fs⟩))
    (hi : X.N[i]? = some n := by rfl) (hln : X.env.kindOf n = some .local := by rfl) :
    PDS X F (.Try body [.ExceptHandler (some (.Name x np)) (some n) (b₀ :: suite) pos'] [] [] pos) (dTryAs X.K c i db dsu pw) := by
  refine ps_imp (ps_try_as (i := i) (Wout := LW X.K F pw) (tb := fun W Dn σ H => ∃ F' pw', (∀ c o σ H, LW X.K F' pw' c o σ H → W c o σ H) ∧ LS X.K F' (db pw') Dn σ H)
    (ts := fun a cls o Dn σ H => ∃ F' fs, XF X.K F' o fs ∧ LS X.K F' (dsu a ⟨cls, fs⟩) Dn σ H) hs hf hN hi hln hc tk ?_ ?_) ?_
  · exact fun W pn xe tW hp => ⟨fun pins s σ H Dn I ⟨F', pw', hle, ls⟩ => (hb F' pw' pn xe (Takes.imp tW hle) hp).run pins s σ H Dn I ls⟩
  · exact fun a oe cls o pn hz hv => ⟨fun pins s σ H Dn I ⟨F', fs, xf, ls⟩ => (hsu F' a oe cls o fs pn hz hv xf).run pins s σ H Dn I ls⟩
  · rintro Dn σ H ⟨G, ρ, M, E, hr, sr, d, q⟩
    refine ⟨⟨G, F.R⟩, (fun x ρ' M' => ∃ b, PySem.W.exmOne X.K x.cls c = some b ∧ (b = true → ∀ a, dsu a x (dEndsN i E) (ρ'.set i (some (.obj a))) M') ∧ (b = false → pw x ρ' M')), fun cls o σ' H' hh => ?_, G, ρ, M, E, hr.at, sr, d, ⟨fun G' σ' H' ρ' M' s h => q.nx G' σ' H' ρ' M' s (hr.back h), fun G' H' M' x v s h => q.rt G' H' M' x v s (hr.back h), fun G' σ' H' ρ' M' s h => q.bk G' σ' H' ρ' M' s (hr.back h), fun G' σ' H' ρ' M' s h => q.ct G' σ' H' ρ' M' s (hr.back h)⟩⟩
    obtain ⟨G', ρ', M', fs, hr', sr', xr, b, e1, yes, no⟩ := hh
    refine ⟨b, e1, fun hb a ha => ?_, fun hb => ?_⟩
    · have hrF := hr.back hr'
      obtain ⟨G2, s2, h2, xf⟩ := xf_of hrF xr
      have sb : Same G G2 := Same.trans hr'.base s2
      have bk : ∀ {G3 H3 : Hp} {M3 : Mem}, HRel X.K ⟨G2, F.R⟩ G3 H3 M3 → HRel X.K F G3 H3 M3 := fun h3 => hr.back ⟨Same.trans sb h3.base, h3.sub, h3.rs, h3.rg, h3.cell⟩
      refine ⟨⟨G2, F.R⟩, fs, xf, G2, ρ'.set i (some (.obj a)), M', dEndsN i E, h2, (sr'.mono s2).set .obj i, yes hb a, ⟨fun G3 σ3 H3 ρ3 M3 s3 h3 sr3 q3 => ?_, fun G3 H3 M3 x v s3 h3 => q.rt G3 H3 M3 x v (sb.trans s3) (bk h3), fun G3 σ3 H3 ρ3 M3 s3 h3 sr3 q3 => ?_, fun G3 σ3 H3 ρ3 M3 s3 h3 sr3 q3 => ?_⟩⟩
      · exact q.nx G3 _ H3 _ M3 (sb.trans s3) (bk h3) (sr3.setN i none) q3
      · exact q.bk G3 _ H3 _ M3 (sb.trans s3) (bk h3) (sr3.setN i none) q3
      · exact q.ct G3 _ H3 _ M3 (sb.trans s3) (bk h3) (sr3.setN i none) q3
    · exact ⟨G', ρ', M', fs, hr.back hr', sr', xr, no hb⟩
/-- isinstance(e, C), e the exception that the suite holds -/
def f_isE (K : Fg) (a : Addr) (x : DX) : DN := fun vs M Q => match vs with
  | [.obj a', .obj C] => a' = a ∧ x.fs = [] ∧ ∃ D b, x.cls = .ref D ∧ ExcC K D ∧ PySem.W.kitOne K (.ref D) (.ref C) = some b ∧ Q (.bl b) M
  | _ => False
theorem pd_isE {a : Addr} {oe : Obj} {cls : Value} {o : Option Addr} {fs : List (Str × D)} {pn : List (Addr × Obj)} {e1 e2 : Expr} {dA : DA} (hz : Zc cls o oe) (hv : ∃ vs, oe.data = .fields vs) (xf : XF X.K F o fs) (hm : X.mg "isinstance" = none)
    (ha : PDA (X.suite a ((a, oe) :: pn)) F [e1, e2] dA) (hg : Gl X "isinstance" := by rfl)
    (he : starEach [e1, e2] X.env = (false, eval e1 X.env) :: starEach [e2] X.env := by rfl) (hpl : (backTo pos (starEach [e2] X.env)).any (·.1) = false := by rfl) : PD (X.suite a ((a, oe) :: pn)) F (.Call (.Name "isinstance" p) [e1, e2] [] pos) (dCB (f_isE X.K a ⟨cls, fs⟩) dA) := by
  refine pd_cB (X := X.suite a ((a, oe) :: pn)) (id := "isinstance") (r := fun xs H Q => ∃ D, cls = .ref D ∧ o = none ∧ ExcC X.K D ∧ rIsE X.K D a xs H Q) ?_ ?_ hm ha (by decide +kernel) hg (by decide) (by decide) he hpl
  · intro pins s σ H xs us Q I r h
    obtain ⟨D, rfl, rfl, C, h⟩ := h
    exact call_isE C hz hv pins s σ H xs us Q I r h
  · intro G H M xs vs post Q hr rs d k
    unfold f_isE at d
    split at d
    · rename_i a' C
      obtain ⟨rfl, e0, D, b, e3, hC, e4, d⟩ := d
      have e0 : fs = [] := e0
      have e3 : cls = .ref D := e3
      have eo : o = none := by
        rcases xf with ⟨h, _⟩ | ⟨dd, ys, h1, h2, h3, h4⟩
        · exact h
        · exact absurd e0 h2
      cases rs with
      | cons r1 t => cases t with
        | cons r2 t =>
          cases t; cases r1; cases r2
          exact ⟨D, e3, eo, hC, .ref C, .ref C, b, rfl, fun u hu => hu, e4, k.here hr .bl d⟩
    · exact d.elim
end
end Dl

/-! Dl10: freezing, invariants of loops, module constants, defs told by the head. -/
namespace Dl
open L2 PySem PyProof.Rows PySem.Spec

section
variable {X : Cx} {F : Fm} {pos p : Pos} {e : Expr} {da : DE}
/-- a cell that nobody writes any more becomes data -/
def dFrz (da : DE) : DE := fun ρ M Q => da ρ M fun v M1 => match v with
  | .obj a => (match M1 a with
    | some (.lst ds) => Q (.lst ds) (rm M1 a)
    | some (.dk kvs) => Q (.dk kvs) (rm M1 a)
    | some (.dt kvs) => Q (.dt kvs) (rm M1 a)
    | _ => Q (.obj a) M1)
  | v => Q v M1
theorem pd_frz (h : PD X F e da) : PD X F e (dFrz da) := pe_imp h fun σ H Q ⟨G, ρ, M, post, hr, sr, d, k⟩ => ⟨G, ρ, M, _, hr, sr, d, fun G1 H1 M1 x v s1 h1 rx q1 => by
  cases v with
  | obj a =>
    dsimp only at q1
    cases rx
    cases q : M1 a with
    | none => rw [q] at q1; exact (k.later s1).here h1 .obj q1
    | some c =>
      rw [q] at q1
      cases c with
      | lst ds =>
        obtain ⟨xs, e1, r⟩ := (h1.cell a _ q).1
        obtain ⟨s2, h2⟩ := h1.freeze q e1
        exact (k.later (s1.trans s2)).here h2 (.lst upd_same (r.mono s2)) q1
      | dk kvs =>
        obtain ⟨xs, e1, e2, r⟩ := (h1.cell a _ q).1
        obtain ⟨s2, h2⟩ := h1.freeze q e1
        exact (k.later (s1.trans s2)).here h2 (.dk upd_same e2 (r.mono s2)) q1
      | dt kvs =>
        obtain ⟨xs, e1, e2, r⟩ := (h1.cell a _ q).1
        obtain ⟨s2, h2⟩ := h1.freeze q e1
        exact (k.later (s1.trans s2)).here h2 (.dt upd_same e2 (r.mono s2)) q1
      | ins C fs => exact (k.later s1).here h1 .obj q1
  | _ => exact (k.later s1).here h1 rx q1⟩
/-- module constants -/
theorem pd_gstr {x z : Str} (hm : ∃ t, X.mg x = some (.str z t)) (hg : Gl X x := by rfl) (hd : (x == ("__debug__" : Str)) = false := by decide) : PD X F (.Name x pos) (dC (.str z)) := by
  obtain ⟨t, hm⟩ := hm
  exact pd_glob (v := .str z) hm ⟨t, rfl⟩ (fun _ => .str) hg hd
theorem pd_gint {x : Str} {z : Int} (hm : ∃ t, X.mg x = some (.int z t)) (hg : Gl X x := by rfl) (hd : (x == ("__debug__" : Str)) = false := by decide) : PD X F (.Name x pos) (dC (.int z)) := by
  obtain ⟨t, hm⟩ := hm
  exact pd_glob (v := .int z) hm ⟨t, rfl⟩ (fun _ => .int) hg hd
theorem names_own {x : Str} {c : Value} (hm : X.mg x = some c) (hg : Gl X x) (hd : (x == ("__debug__" : Str)) = false := by decide) : Names X x c := ⟨hg, hd, .inl hm⟩
/-- three names at once -/
def dPar3 (i j l : Nat) (dA : DA) : DS := fun E ρ M => dA ρ M fun vs M1 => match vs with
  | [u, v, w] => E.nx (((ρ.set i (some u)).set j (some v)).set l (some w)) M1
  | _ => False
theorem pds_par3 (i j l : Nat) {dA : DA} {x y z : Str} {a b c : Expr} {px py pz pt : Pos} {kt k2 : Nat} {pt2 : Pos} (hc : X.calm = true) (hN : X.N.Nodup) (ha : PDA X F [a, b, c] dA) (hi : X.N[i]? = some x := by rfl) (hj : X.N[j]? = some y := by rfl) (hl : X.N[l]? = some z := by rfl)
    (hij : i ≠ j := by decide) (hil : i ≠ l := by decide) (hjl : j ≠ l := by decide)
    (hx : X.env.scope.names.lookup x = some .local := by rfl) (hy : X.env.scope.names.lookup y = some .local := by rfl) (hz : X.env.scope.names.lookup z = some .local := by rfl) (hw : swappedStores [.Tuple [.Name x px, .Name y py, .Name z pz] kt pt] (.Tuple [a, b, c] k2 pt2) X.env = pure (some [x, y, z]) := by rfl)
    (hs : swapsWithSole [.Tuple [.Name x px, .Name y py, .Name z pz] kt pt] (.Tuple [a, b, c] k2 pt2) pos.line X.env = pure false := by rfl) : PDS X F (.Assign [.Tuple [.Name x px, .Name y py, .Name z pz] kt pt] (.Tuple [a, b, c] k2 pt2) pos) (dPar3 i j l dA) :=
  ps_imp (ps_par3 hc hN hi hj hl hij hil hjl hx hy hz ha hw hs) fun D σ H ⟨G, ρ, M, E, hr, sr, d, q⟩ => ⟨G, ρ, M, _, hr, sr, d, fun G' H' M' xs vs s h rs q' => by
    cases rs with
    | nil => exact (show False from q').elim
    | cons r1 t => cases t with
      | nil => exact (show False from q').elim
      | cons r2 t => cases t with
        | nil => exact (show False from q').elim
        | cons r3 t => cases t with
          | nil => exact ⟨_, _, _, rfl, q.nx G' _ H' _ M' s h ((((sr.mono s).set r1 i).set r2 j).set r3 l) q'⟩
          | cons _ _ => exact (show False from q').elim⟩

/-! ### loops by invariants -/
theorem dForL_inv {g : DG} {db : DS} {E : DEnds} {stay : Mem → Prop} {items : List D} (I : Nat → Rho → Mem → Prop) (hs : ∀ i ρ M, I i ρ M → stay M)
    (step : ∀ i d ρ M, items[i]? = some d → I i ρ M → ∀ nx : Rho → Mem → Prop, (∀ ρ' M', I (i + 1) ρ' M' → nx ρ' M') → g d ρ M fun ρ1 M1 => db { nx := nx, rt := E.rt, ct := nx, bk := E.nx } ρ1 M1)
    (out : ∀ ρ M, I items.length ρ M → E.nx ρ M) {ρ : Rho} {M : Mem} (h0 : I 0 ρ M) : dForL g db E stay items ρ M := by
  have key : ∀ (n i : Nat) (ρ : Rho) (M : Mem), items.length = i + n → I i ρ M → dForL g db E stay (items.drop i) ρ M := by
    intro n
    induction n with
    | zero =>
      intro i ρ M e h
      rw [List.drop_eq_nil_of_le (by omega)]
      exact ⟨hs _ _ _ h, out ρ M (by rw [e]; exact h)⟩
    | succ n ih =>
      intro i ρ M e h
      have hi : i < items.length := by omega
      rw [List.drop_eq_getElem_cons hi]
      exact ⟨hs _ _ _ h, step i _ ρ M (List.getElem?_eq_getElem hi) h _ fun ρ' M' h' => ih (i + 1) ρ' M' (by omega) h'⟩
  exact key items.length 0 ρ M (by omega) h0
/-- a while loop by its invariant, over a number that falls -/
def dWhileI (t : DT) (db : DS) : DS := fun E ρ M => ∃ I : Nat → Rho → Mem → Prop, (∃ n, I n ρ M) ∧ ∀ n ρ M, I n ρ M → ∀ nx : Rho → Mem → Prop, (∀ m ρ' M', m < n → I m ρ' M' → nx ρ' M') →
  t ρ M fun b M1 => if b = true then db { nx := nx, rt := E.rt, ct := nx, bk := E.nx } ρ M1 else E.nx ρ M1
theorem pds_whileI {c : Expr} {body : List Stmt} {dt : DT} {db : DS} (hp : PassesOwn (model X.prog X.w) X.A X.env X.xe) (hc : PDT X F c dt) (hb : PDSs X F body db) : PDS X F (.While c body [] pos) (dWhileI dt db) :=
  ps_imp (ps_while hp hc hb) fun Dn σ H ⟨G, ρ, M, E, hr, sr, ⟨I, ⟨n, d⟩, step⟩, q⟩ => by
    refine ⟨fun m σ' H' => ∃ G' ρ' M', Same G G' ∧ HRel X.K F G' H' M' ∧ SRel X.K G' σ' ρ' ∧ I m ρ' M', ⟨n, G, ρ, M, Same.refl _, hr, sr, d⟩, ?_⟩
    rintro m σ' H' ⟨G', ρ', M', s, hr', sr', h⟩
    refine ⟨G', ρ', M', _, hr', sr', step m ρ' M' h (fun ρ4 M4 => ∃ k, k < m ∧ I k ρ4 M4) (fun k ρ4 M4 l i => ⟨k, l, i⟩), fun G2 H2 M2 b s2 hr2 q2 => ?_⟩
    cases b with
    | false => exact q.nx G2 σ' H2 ρ' M2 (s.trans s2) hr2 (sr'.mono s2) q2
    | true =>
      refine ⟨fun σ4 H4 => ∃ k, k < m ∧ ∃ G4 ρ4 M4, Same G G4 ∧ HRel X.K F G4 H4 M4 ∧ SRel X.K G4 σ4 ρ4 ∧ I k ρ4 M4, fun σ4 H4 h4 => h4, ?_⟩
      exact ⟨G2, ρ', M2, _, hr2, sr'.mono s2, q2, ⟨fun G4 σ4 H4 ρ4 M4 s4 hr4 sr4 ⟨k, l, i⟩ => ⟨k, l, G4, ρ4, M4, s.trans (s2.trans s4), hr4, sr4, i⟩, q.rt.later (s.trans s2), fun G4 σ4 H4 ρ4 M4 s4 hr4 sr4 q4 => q.nx G4 σ4 H4 ρ4 M4 (s.trans (s2.trans s4)) hr4 sr4 q4, fun G4 σ4 H4 ρ4 M4 s4 hr4 sr4 ⟨k, l, i⟩ => ⟨k, l, G4, ρ4, M4, s.trans (s2.trans s4), hr4, sr4, i⟩⟩⟩
theorem dLcL_inv {g : DG} {dt : DT} {de : DE} {vs : List Nat} {stay : Mem → Prop} {ρ : Rho} {Q : List D → Mem → Prop} {items : List D} (I : Nat → List D → Mem → Prop) (hs : ∀ i acc M, I i acc M → stay M) (hl : ∀ i acc M, I i acc M → acc.length < sizeLine)
    (step : ∀ i d acc M, items[i]? = some d → I i acc M → g d (dwipe ρ vs) M fun ρ1 M1 => dt ρ1 M1 fun b M2 => if b = true then de ρ1 M2 fun y M3 => I (i + 1) (acc ++ [y]) M3 else I (i + 1) acc M2)
    (mono : ∀ d ρ M (P P' : Rho → Mem → Prop), (∀ ρ M, P ρ M → P' ρ M) → g d ρ M P → g d ρ M P') (monot : ∀ ρ M (P P' : Bool → Mem → Prop), (∀ b M, P b M → P' b M) → dt ρ M P → dt ρ M P') (monoe : ∀ ρ M (P P' : D → Mem → Prop), (∀ b M, P b M → P' b M) → de ρ M P → de ρ M P')
    (out : ∀ acc M, I items.length acc M → Q acc M) {M : Mem} (h0 : I 0 [] M) : dLcL g dt de vs stay ρ Q items [] M := by
  have key : ∀ (n i : Nat) (acc : List D) (M : Mem), items.length = i + n → I i acc M → dLcL g dt de vs stay ρ Q (items.drop i) acc M := by
    intro n
    induction n with
    | zero =>
      intro i acc M e h
      rw [List.drop_eq_nil_of_le (by omega)]
      exact ⟨hs _ _ _ h, out acc M (by rw [e]; exact h)⟩
    | succ n ih =>
      intro i acc M e h
      have hi : i < items.length := by omega
      rw [List.drop_eq_getElem_cons hi]
      refine ⟨hs _ _ _ h, mono _ _ _ _ _ (fun ρ1 M1 h1 => ?_) (step i _ acc M (List.getElem?_eq_getElem hi) h)⟩
      refine monot _ _ _ _ (fun b M2 h2 => ?_) h1
      cases b with
      | false => exact ih (i + 1) acc M2 (by omega) h2
      | true => exact monoe _ _ _ _ (fun y M3 h3 => ⟨hl _ _ _ h, ih (i + 1) (acc ++ [y]) M3 (by omega) h3⟩) h2
  exact key items.length 0 [] M (by omega) h0
end

/-! ### promises by the number of arguments -/
abbrev W0 := Mem → (D → Mem → Prop) → (DX → Mem → Prop) → Prop
def sp0 (f : W0) : DSp := fun ds M Q E => ds = [] ∧ f M Q E
def sp1 (f : D → W0) : DSp := fun ds M Q E => ∃ a, ds = [a] ∧ f a M Q E
def sp2 (f : D → D → W0) : DSp := fun ds M Q E => ∃ a b, ds = [a, b] ∧ f a b M Q E
def sp3 (f : D → D → D → W0) : DSp := fun ds M Q E => ∃ a b c, ds = [a, b, c] ∧ f a b c M Q E
def sp4 (f : D → D → D → D → W0) : DSp := fun ds M Q E => ∃ a b c d, ds = [a, b, c, d] ∧ f a b c d M Q E
def sp5 (f : D → D → D → D → D → W0) : DSp := fun ds M Q E => ∃ a b c d e, ds = [a, b, c, d, e] ∧ f a b c d e M Q E
def sp6 (f : D → D → D → D → D → D → W0) : DSp := fun ds M Q E => ∃ a b c d e g, ds = [a, b, c, d, e, g] ∧ f a b c d e g M Q E
theorem sp0_app {f : W0} {M : Mem} {Q : D → Mem → Prop} {E : DX → Mem → Prop} : sp0 f [] M Q E = f M Q E := propext ⟨fun h => h.2, fun h => ⟨rfl, h⟩⟩
theorem sp1_app {f : D → W0} {a : D} {M : Mem} {Q : D → Mem → Prop} {E : DX → Mem → Prop} : sp1 f [a] M Q E = f a M Q E := propext ⟨fun ⟨_, e, h⟩ => by cases e; exact h, fun h => ⟨_, rfl, h⟩⟩
theorem sp2_app {f : D → D → W0} {a b : D} {M : Mem} {Q : D → Mem → Prop} {E : DX → Mem → Prop} : sp2 f [a, b] M Q E = f a b M Q E := propext ⟨fun ⟨_, _, e, h⟩ => by cases e; exact h, fun h => ⟨_, _, rfl, h⟩⟩
theorem sp3_app {f : D → D → D → W0} {a b c : D} {M : Mem} {Q : D → Mem → Prop} {E : DX → Mem → Prop} : sp3 f [a, b, c] M Q E = f a b c M Q E := propext ⟨fun ⟨_, _, _, e, h⟩ => by cases e; exact h, fun h => ⟨_, _, _, rfl, h⟩⟩
theorem sp4_app {f : D → D → D → D → W0} {a b c d : D} {M : Mem} {Q : D → Mem → Prop} {E : DX → Mem → Prop} : sp4 f [a, b, c, d] M Q E = f a b c d M Q E := propext ⟨fun ⟨_, _, _, _, e, h⟩ => by cases e; exact h, fun h => ⟨_, _, _, _, rfl, h⟩⟩
theorem sp5_app {f : D → D → D → D → D → W0} {a b c d e : D} {M : Mem} {Q : D → Mem → Prop} {E : DX → Mem → Prop} : sp5 f [a, b, c, d, e] M Q E = f a b c d e M Q E := propext ⟨fun ⟨_, _, _, _, _, e, h⟩ => by cases e; exact h, fun h => ⟨_, _, _, _, _, rfl, h⟩⟩
theorem sp6_app {f : D → D → D → D → D → D → W0} {a b c d e g : D} {M : Mem} {Q : D → Mem → Prop} {E : DX → Mem → Prop} : sp6 f [a, b, c, d, e, g] M Q E = f a b c d e g M Q E := propext ⟨fun ⟨_, _, _, _, _, _, e, h⟩ => by cases e; exact h, fun h => ⟨_, _, _, _, _, _, rfl, h⟩⟩

/-! ### defs told by the head -/
abbrev cA (K : Fg) (x : Str) : Addr := He.ga K x
structure Df (K : Fg) (mg : Str → Option Value) (x : Str) (stm : Stmt) : Prop where
  ex : ∃ fd, FunD K x x (defArgs stm) (defBody stm) (defScope stm) [] [] (He.ga K x) fd
  g : mg x = some (.ref (He.ga K x))
/-- what a def's derivation says -/
abbrev Der (P : Program) (w : World) (K : Fg) (mg : Str → Option Value) (base : Heap) (N : List Str) (qual : Str) (stm : Stmt) (k : Nat) (d : DW → DS) : Prop :=
  ∀ (f : Addr) (cdv : Value) (A : Around) (outer : List Env) (s : Shared) (H : Hp) (E : XK) (F : Fm) (pw : DW), Room k (A.deeper (envOfC qual (defScope stm) s.heap.objs.size f cdv)) → TkD (bodyX P w K mg base N qual stm f cdv A outer s H E) F pw →
    PassesOwn (model P w) (bodyX P w K mg base N qual stm f cdv A outer s H E).A (bodyX P w K mg base N qual stm f cdv A outer s H E).env (bodyX P w K mg base N qual stm f cdv A outer s H E).xe →
    PDSs (bodyX P w K mg base N qual stm f cdv A outer s H E) F (defBody stm) (d pw)
section
variable {P : Program} {w : World} {K : Fg} {mg : Str → Option Value} {base : Heap}
theorem fn_dD {x qual : Str} {stm : Stmt} {f : Addr} {fd : FuncData} {N ps : List Str} {k : Nat} {sp : DSp} (Fn : FunD K x qual (defArgs stm) (defBody stm) (defScope stm) [] [] f fd) (S : FnScope N ps (defScope stm)) (len : ∀ ds M Q E, sp ds M Q E → ds.length = ps.length) (d : DW → DS)
    (hd : Der P w K mg base N qual stm k d) (hs : ∀ ds M post pox, sp ds M post pox → d (fun x _ M => pox x M) { nx := fun _ M => post .non M, rt := post } (dstart N.length ds) M) : FnOk P w K mg base (L2.CX P w) (k + 1) f fd ps (LSp K sp) := by
  refine Fn.ok S (fun vs H Q E h => ?_) (fun cdv A outer s H vs Q E hr h => ?_)
  · obtain ⟨R, G, ds, M, post, pox, _, rs, h, _⟩ := h
    rw [rs.length]; exact len _ _ _ _ h
  · obtain ⟨R, G, ds, M, post, pox, h0, rs, h, kq, kx⟩ := h
    have tk : TkD (bodyX P w K mg base N qual stm f cdv A outer s H E) ⟨G, R⟩ (fun x _ M => pox x M) :=
      Takes.imp (takes_of (E := E) rfl rfl rfl rfl) fun c o σ H' ⟨G', ρ, M', fs, h1, sr, xr, p⟩ => kx G' H' M' c o fs h1.base h1 xr p
    refine ⟨_, hd f cdv A outer s H E ⟨G, R⟩ (fun x _ M => pox x M) hr tk (passes_of rfl), ?_⟩
    refine ⟨G, dstart N.length ds, M, { nx := fun _ M => post .non M, rt := post }, h0, start_rel rs, hs ds M post pox h, ⟨fun G' σ' H' ρ' M' s h sr q => kq.later s |>.here h .non q, kq, fun _ _ _ _ _ _ _ _ z => z.elim, fun _ _ _ _ _ _ _ _ z => z.elim⟩⟩
theorem cal_d {x : Str} {stm : Stmt} {N ps : List Str} {k : Nat} {sp : DSp} (Dx : Df K mg x stm) (S : FnScope N ps (defScope stm))
    (hb : ∀ (kV doc pm : Value) (an : Option Addr) (cdv ct : Value) (us : List Value), us.length = ps.length → bindArgs (PySem.W.fnOf x x (defArgs stm) (defBody stm) (defScope stm) .none kV doc pm an cdv ct) ⟨us, []⟩ = pure (ps.zip us))
    (len : ∀ ds M Q E, sp ds M Q E → ds.length = ps.length) (d : DW → DS) (hd : Der P w K mg base N x stm k d)
    (hs : ∀ ds M post pox, sp ds M post pox → d (fun x _ M => pox x M) { nx := fun _ M => post .non M, rt := post } (dstart N.length ds) M) : Cal P w K mg base (k + 1) x sp := by
  obtain ⟨fd, F⟩ := Dx.ex
  exact ⟨⟨_, fd, ps, fn_dD F S len d hd hs, Dx.g, F.kp, F.bindsN hb⟩⟩
end
end Dl

/-! Dm: plain lemmas over data: equality, sizes, lists walked, the draws' state, lowest terms. -/
namespace Dl
open L2 PySem PyProof.Rows PySem.Spec

section
variable {M : Mem} {Q : D → Mem → Prop}
theorem len0 {f : W0} {ds : List D} {E : DX → Mem → Prop} (h : sp0 f ds M Q E) : ds.length = 0 := by obtain ⟨rfl, _⟩ := h; rfl
theorem len1 {f : D → W0} {ds : List D} {E : DX → Mem → Prop} (h : sp1 f ds M Q E) : ds.length = 1 := by obtain ⟨_, rfl, _⟩ := h; rfl
theorem len2 {f : D → D → W0} {ds : List D} {E : DX → Mem → Prop} (h : sp2 f ds M Q E) : ds.length = 2 := by obtain ⟨_, _, rfl, _⟩ := h; rfl
theorem len3 {f : D → D → D → W0} {ds : List D} {E : DX → Mem → Prop} (h : sp3 f ds M Q E) : ds.length = 3 := by obtain ⟨_, _, _, rfl, _⟩ := h; rfl
theorem len4 {f : D → D → D → D → W0} {ds : List D} {E : DX → Mem → Prop} (h : sp4 f ds M Q E) : ds.length = 4 := by obtain ⟨_, _, _, _, rfl, _⟩ := h; rfl
theorem len5 {f : D → D → D → D → D → W0} {ds : List D} {E : DX → Mem → Prop} (h : sp5 f ds M Q E) : ds.length = 5 := by obtain ⟨_, _, _, _, _, rfl, _⟩ := h; rfl
theorem len6 {f : D → D → D → D → D → D → W0} {ds : List D} {E : DX → Mem → Prop} (h : sp6 f ds M Q E) : ds.length = 6 := by obtain ⟨_, _, _, _, _, _, rfl, _⟩ := h; rfl

/-! ### == -/
theorem bdec (a b : Int) : (a == b) = decide (a = b) := by
  by_cases h : a = b
  · subst h; simp
  · simp [h]
theorem bdecS (a b : Str) : (a == b) = decide (a = b) := by
  by_cases h : a = b
  · subst h; simp
  · rw [decide_eq_false h]; exact beq_eq_false_iff_ne.mpr h
theorem eq_ii (a b : Int) : f_eq (.int a) (.int b) M Q = Q (.bl (decide (a = b))) M := by
  have h : SeqAt.shaped (.int a) = true := rfl
  have h' : SeqAt.shaped (.int b) = true := rfl
  simp [f_eq, f_eqD, toP, h, h', PyData.eqv, bdec]
theorem ne_ii (a b : Int) : f_ne (.int a) (.int b) M Q = Q (.bl (!decide (a = b))) M := by
  have h : SeqAt.shaped (.int a) = true := rfl
  have h' : SeqAt.shaped (.int b) = true := rfl
  simp [f_ne, f_eqD, toP, h, h', PyData.eqv, bdec]
theorem eq_bb (a b : Bool) : f_eq (.bl a) (.bl b) M Q = Q (.bl (a == b)) M := by
  have h : SeqAt.shaped (.bool a) = true := rfl
  have h' : SeqAt.shaped (.bool b) = true := rfl
  simp [f_eq, f_eqD, toP, h, h', PyData.eqv]
theorem ne_bb (a b : Bool) : f_ne (.bl a) (.bl b) M Q = Q (.bl (!(a == b))) M := by
  have h : SeqAt.shaped (.bool a) = true := rfl
  have h' : SeqAt.shaped (.bool b) = true := rfl
  simp [f_ne, f_eqD, toP, h, h', PyData.eqv]
theorem eq_ss (a b : Str) : f_eq (.str a) (.str b) M Q = (SeqAt.shaped (.str a) = true ∧ SeqAt.shaped (.str b) = true ∧ Q (.bl (decide (a = b))) M) := by
  simp [f_eq, f_eqD, toP, PyData.eqv, bdecS]
theorem ne_ss (a b : Str) : f_ne (.str a) (.str b) M Q = (SeqAt.shaped (.str a) = true ∧ SeqAt.shaped (.str b) = true ∧ Q (.bl (!decide (a = b))) M) := by
  simp [f_ne, f_eqD, toP, PyData.eqv, bdecS]
theorem eq_aa (a b c d : Int) : f_eq (.tup [.int a, .int b]) (.tup [.int c, .int d]) M Q = Q (.bl (decide (a = c ∧ b = d))) M := by
  have h : SeqAt.shaped (.tuple [.int a, .int b]) = true := rfl
  have h' : SeqAt.shaped (.tuple [.int c, .int d]) = true := rfl
  simp [f_eq, f_eqD, toP, toPs, h, h', PyData.eqv, PyData.eqvAll, bdec]
theorem ne_aa (a b c d : Int) : f_ne (.tup [.int a, .int b]) (.tup [.int c, .int d]) M Q = Q (.bl (!decide (a = c ∧ b = d))) M := by
  have h : SeqAt.shaped (.tuple [.int a, .int b]) = true := rfl
  have h' : SeqAt.shaped (.tuple [.int c, .int d]) = true := rfl
  simp [f_ne, f_eqD, toP, toPs, h, h', PyData.eqv, PyData.eqvAll, bdec]
/-- equal data -/
theorem eqv_refl_int (a : Int) : PyData.eqv (.int a) (.int a) = true := by simp [PyData.eqv]
end

/-! ### operators at known values -/
section
variable {M : Mem} {Q : D → Mem → Prop} {i j : Int} {a b : Bool} {x y : Str} {l m : List D} {p : Addr}
theorem add_ii : f_add (.int i) (.int j) M Q = Q (.int (i + j)) M := rfl
theorem add_ss : f_add (.str x) (.str y) M Q = (x.length + y.length ≤ sizeLine ∧ Q (.str (x ++ y)) M) := rfl
theorem add_ll : f_add (.lst l) (.lst m) M Q = (l.length + m.length ≤ sizeLine ∧ Q (.lst (l ++ m)) M) := rfl
theorem add_tt : f_add (.tup l) (.tup m) M Q = (l ≠ [] ∧ l.length + m.length ≤ sizeLine ∧ Q (.tup (l ++ m)) M) := rfl
theorem sub_ii : f_sub (.int i) (.int j) M Q = Q (.int (i - j)) M := rfl
theorem sub_bb : f_sub (.bl a) (.bl b) M Q = Q (.int (b2i a - b2i b)) M := rfl
theorem mul_ii : f_mul (.int i) (.int j) M Q = (CMulW i j ∧ Q (.int (i * j)) M) := rfl
theorem fdiv_ii : f_fdiv (.int i) (.int j) M Q = (DivOk j ∧ Q (.int (i / j)) M) := rfl
theorem mod_ii : f_mod (.int i) (.int j) M Q = (0 < j ∧ Q (.int (i % j)) M) := rfl
theorem pow_ii : f_pow (.int i) (.int j) M Q = (CPow i j ∧ Q (.int (i ^ j.toNat)) M) := rfl
theorem shl_ii : f_shl (.int i) (.int j) M Q = (CPow i j ∧ Q (.int (i * 2 ^ j.toNat)) M) := rfl
theorem neg_i : f_neg (.int i) M Q = Q (.int (-i)) M := rfl
theorem lt_ii : f_lt (.int i) (.int j) M Q = Q (.bl (decide (i < j))) M := rfl
theorem le_ii : f_le (.int i) (.int j) M Q = Q (.bl (decide (i ≤ j))) M := rfl
theorem gt_ii : f_gt (.int i) (.int j) M Q = Q (.bl (decide (j < i))) M := rfl
theorem ge_ii : f_ge (.int i) (.int j) M Q = Q (.bl (decide (j ≤ i))) M := rfl
theorem not_b : f_not (.bl a) M Q = Q (.bl (!a)) M := rfl
theorem abs_i : f_abs [.int i] M Q = Q (.int (if i < 0 then -i else i)) M := rfl
theorem max_ii : f_max2 [.int i, .int j] M Q = Q (.int (if j > i then j else i)) M := rfl
theorem min_ii : f_min2 [.int i, .int j] M Q = Q (.int (if j < i then j else i)) M := rfl
theorem int_i : f_int [.int i] M Q = Q (.int i) M := rfl
theorem int_b : f_int [.bl a] M Q = Q (.int (if a then 1 else 0)) M := rfl
theorem gcd_ii : f_gcd [.int i, .int j] M Q = Q (.int ((Nat.gcd i.natAbs j.natAbs : Nat) : Int)) M := rfl
theorem len_l : f_len [.lst l] M Q = Q (.int l.length) M := rfl
theorem len_r : f_len [.ro l] M Q = Q (.int l.length) M := rfl
theorem len_t : f_len [.tup l] M Q = Q (.int l.length) M := rfl
theorem len_s : f_len [.str x] M Q = (x.length ≤ sizeLine ∧ Q (.int x.length) M) := rfl
theorem len_o : f_len [.obj p] (Dl.st M p (.lst l)) Q = Q (.int l.length) (Dl.st M p (.lst l)) := by simp [f_len, seqD, listD, st_same]
theorem app_o {y : D} : f_append (.obj p) [y] (Dl.st M p (.lst l)) Q = (l.length < sizeLine ∧ Q .non (Dl.st M p (.lst (l ++ [y])))) := by simp [f_append, st_same, st_st]
theorem ty_o : TyOk "list" (.obj p) (Dl.st M p (.lst l)) = True := by simp [TyOk, listD, st_same]
theorem isi_i {n : String} : f_isi [.int i, .ty n] M Q = (n ∈ tys ∧ Q (.bl (isI "int" n)) M) := rfl
theorem isi_b {n : String} : f_isi [.bl a, .ty n] M Q = (n ∈ tys ∧ Q (.bl (isI "bool" n)) M) := rfl
theorem isi_s {n : String} : f_isi [.str x, .ty n] M Q = (n ∈ tys ∧ Q (.bl (isI "str" n)) M) := rfl
theorem isi_n {n : String} : f_isi [.non, .ty n] M Q = (n ∈ tys ∧ Q (.bl (isI "NoneType" n)) M) := rfl
theorem isi_t {n : String} : f_isi [.tup l, .ty n] M Q = (n ∈ tys ∧ Q (.bl (isI "tuple" n)) M) := rfl
theorem isi_l {n : String} : f_isi [.lst l, .ty n] M Q = (n ∈ tys ∧ Q (.bl (isI "list" n)) M) := rfl
theorem isi_r {n : String} {kvs : List (Key × D)} : f_isi [.dk kvs, .ty n] M Q = (n ∈ tys ∧ Q (.bl (isI "dict" n)) M) := rfl
theorem tr_b {Q : Bool → Mem → Prop} {ρ : Rho} : dTr (dC (.bl a)) ρ M Q = Q a M := rfl
theorem sl_l {lo hi : Option Int} : f_slice false (.lst l) lo hi M Q = Q (.lst (cutD l lo hi)) M := rfl
theorem sl_r {lo hi : Option Int} : f_slice false (.ro l) lo hi M Q = Q (.lst (cutD l lo hi)) M := rfl
theorem sl_fl {lo hi : Option Int} : f_slice true (.lst l) lo hi M Q = ∀ p, M p = none → Q (.obj p) (Dl.st M p (.lst (cutD l lo hi))) := rfl
theorem sl_fr {lo hi : Option Int} : f_slice true (.ro l) lo hi M Q = ∀ p, M p = none → Q (.obj p) (Dl.st M p (.lst (cutD l lo hi))) := rfl
theorem range_item {lo : Int} {n k : Nat} {d : D} (e : (rangeD lo n)[k]? = some d) : d = .int (lo + k) ∧ k < n := by
  unfold rangeD at e
  rw [List.getElem?_map] at e
  obtain ⟨z, e1, e2⟩ := Option.map_eq_some_iff.mp e
  have h := List.getElem?_eq_some_iff.mp e1
  obtain ⟨h1, h2⟩ := h
  rw [List.length_range] at h1
  rw [List.getElem_range] at h2
  subst h2
  exact ⟨e2.symm, h1⟩
theorem range_len {lo : Int} {n : Nat} : (rangeD lo n).length = n := by unfold rangeD; rw [List.length_map, List.length_range]
theorem map_item {α : Type} {f : α → D} {xs : List α} {k : Nat} {d : D} (e : (xs.map f)[k]? = some d) : ∃ x, x ∈ xs ∧ xs[k]? = some x ∧ d = f x := by
  rw [List.getElem?_map] at e
  obtain ⟨z, e1, e2⟩ := Option.map_eq_some_iff.mp e
  exact ⟨z, List.mem_of_getElem? e1, e1, e2.symm⟩
end

/-! ### sizes -/
def Sm (k : Nat) (i : Int) : Prop := i.natAbs < 2 ^ k
theorem Sm.up {k l : Nat} {i : Int} (h : Sm k i) (hl : k ≤ l) : Sm l i := Nat.lt_of_lt_of_le h (Nat.pow_le_pow_right (by decide) hl)
theorem Sm.mul {k l : Nat} {i j : Int} (h : Sm k i) (h' : Sm l j) : Sm (k + l) (i * j) := by
  unfold Sm at *
  rw [Int.natAbs_mul, Nat.pow_add]
  exact Nat.mul_lt_mul'' h h'
theorem Sm.add {k : Nat} {i j : Int} (h : Sm k i) (h' : Sm k j) : Sm (k + 1) (i + j) := by
  unfold Sm at *
  rw [Nat.pow_succ]
  have := Int.natAbs_add_le i j
  omega
theorem Sm.neg {k : Nat} {i : Int} (h : Sm k i) : Sm k (-i) := by unfold Sm at *; rw [Int.natAbs_neg]; exact h
theorem Sm.sub {k : Nat} {i j : Int} (h : Sm k i) (h' : Sm k j) : Sm (k + 1) (i - j) := by rw [Int.sub_eq_add_neg]; exact h.add h'.neg
theorem Sm.le {k : Nat} {i j : Int} (h : Sm k j) (e : i.natAbs ≤ j.natAbs) : Sm k i := Nat.lt_of_le_of_lt e h
theorem Sm.cmul {k l : Nat} {i j : Int} (h : Sm k i) (h' : Sm l j) (h0 : 0 < k := by decide) (h1 : 0 < l := by decide) (hs : k + l ≤ 1000000 := by decide) : CMulW i j := wide_mul h h' h0 h1 hs
theorem Sm.cdiv {k : Nat} {j : Int} (h : Sm k j) (p : 0 < j) (h0 : 0 < k := by decide) (h9 : k ≤ 9000 := by decide) : DivOk j := wide_div (i := 0) p h h0 h9
instance {k : Nat} {i : Int} : Decidable (Sm k i) := inferInstanceAs (Decidable (i.natAbs < 2 ^ k))
theorem Sm.lit {k : Nat} {i : Int} (h : decide (i.natAbs < 2 ^ k) = true) : Sm k i := of_decide_eq_true h
theorem Sm.ediv {k : Nat} {i j : Int} (h : Sm k i) (hj : 0 < j) : Sm k (i / j) := by
  have h1 : i < 2 ^ k := by have := h; unfold Sm at this; have e := Int.le_natAbs (a := i); have : ((i.natAbs : Int)) < 2 ^ k := by exact_mod_cast this
                            omega
  have h2 : -(2 ^ k : Int) < i := by
    have := h; unfold Sm at this
    have e := Int.le_natAbs (a := -i)
    rw [Int.natAbs_neg] at e
    have : ((i.natAbs : Int)) < 2 ^ k := by exact_mod_cast this
    omega
  have a1 : i / j < 2 ^ k := by
    rcases Int.lt_or_le i 0 with hi | hi
    · have := Int.ediv_neg_of_neg_of_pos hi hj
      have p : (0 : Int) < 2 ^ k := Int.pow_pos (by decide)
      omega
    · exact Int.lt_of_le_of_lt (Int.ediv_le_self j hi) h1
  have a2 : -(2 ^ k : Int) < i / j := by
    rcases Int.lt_or_le i 0 with hi | hi
    · have : i ≤ i / j := by
        rw [Int.le_ediv_iff_mul_le hj]
        have := Int.mul_le_mul_of_nonpos_left (a := i) (b := j) (c := 1) (by omega) (by omega)
        omega
      omega
    · have := Int.ediv_nonneg hi (Int.le_of_lt hj)
      have p : (0 : Int) < 2 ^ k := Int.pow_pos (by decide)
      omega
  unfold Sm
  have a3 : ((i / j).natAbs : Int) < ((2 ^ k : Nat) : Int) := by
    have e : ((2 ^ k : Nat) : Int) = 2 ^ k := by norm_cast
    rw [e]
    omega
  omega

/-! ### items -/
theorem atI_pos {α : Type} {xs : List α} {i : Int} (h : 0 ≤ i) (h' : i < xs.length) : ∃ x, atI xs i = some x ∧ x ∈ xs ∧ xs[i.toNat]? = some x := by
  unfold atI ixN
  rw [if_pos h, if_pos h']
  have hn : i.toNat < xs.length := by omega
  exact ⟨xs[i.toNat], List.getElem?_eq_getElem hn, List.getElem_mem _, List.getElem?_eq_getElem hn⟩
/-- xs[r], r within: whatever stands there -/
theorem ix_mem {ds : List D} {r : Int} {M : Mem} {Q : D → Mem → Prop} (h : 0 ≤ r) (h' : r < ds.length) (q : ∀ d ∈ ds, Q d M) : f_ix (.lst ds) (.int r) M Q := by
  obtain ⟨x, e, m, _⟩ := atI_pos h h'
  simp only [f_ix, seqD, listD, e]
  exact q x m
theorem ix_ints {ns : List Int} {r : Int} {M : Mem} {Q : D → Mem → Prop} (h : 0 ≤ r) (h' : r < ns.length) (q : ∀ n ∈ ns, Q (.int n) M) : f_ix (.lst (ns.map D.int)) (.int r) M Q :=
  ix_mem h (by rw [List.length_map]; exact h') fun d hd => by
    obtain ⟨n, hn, rfl⟩ := List.mem_map.mp hd
    exact q n hn

theorem ix_t0 {x : D} {l : List D} {M : Mem} {Q : D → Mem → Prop} : f_ix (.tup (x :: l)) (.int 0) M Q = Q x M := by
  have h : atI (x :: l) 0 = some x := by
    unfold atI ixN; rw [if_pos (by decide), if_pos (by rw [List.length_cons]; omega)]; rfl
  simp only [f_ix, seqD, h]
theorem ix_t1 {x y : D} {l : List D} {M : Mem} {Q : D → Mem → Prop} : f_ix (.tup (x :: y :: l)) (.int 1) M Q = Q y M := by
  have h : atI (x :: y :: l) 1 = some y := by
    unfold atI ixN; rw [if_pos (by decide), if_pos (by rw [List.length_cons, List.length_cons]; omega)]; rfl
  simp only [f_ix, seqD, h]

theorem cut_to {α : Type} (xs : List α) (k : Nat) : cutD xs none (some (k : Int)) = xs.take k := by
  unfold cutD
  have e0 : HT.sIx xs.length 0 none = 0 := by first | rfl | simp [HT.sIx]
  have e1 : HT.sIx xs.length xs.length (some (k : Int)) = min k xs.length := by
    unfold HT.sIx
    first | omega | (dsimp only; omega) | (dsimp only; split <;> omega) | (simp; omega)
  rw [e0, e1, List.drop_zero, Nat.sub_zero]
  rw [List.take_eq_take_iff]; omega
theorem cut_from {α : Type} (xs : List α) (k : Nat) : cutD xs (some (k : Int)) none = xs.drop k := by
  unfold cutD
  have e1 : HT.sIx xs.length xs.length none = xs.length := by first | rfl | simp [HT.sIx]
  have e0 : HT.sIx xs.length 0 (some (k : Int)) = min k xs.length := by
    unfold HT.sIx
    first | omega | (dsimp only; omega) | (dsimp only; split <;> omega) | (simp; omega)
  rw [e0, e1]
  rcases Nat.le_total k xs.length with h | h
  · rw [Nat.min_eq_left h, List.take_of_length_le (by rw [List.length_drop]; omega)]
  · rw [Nat.min_eq_right h, Nat.sub_self, List.take_zero, List.drop_eq_nil_of_le h]
/-! ### the draws' state -/
def stC (ns : List Int) (t : Int) : Cell := .dk [(.inr "numbers", .lst (ns.map D.int)), (.inr "at", .int t)]
structure NsOk (ns : List Int) : Prop where
  pos : 0 < ns.length
  hi : ns.length ≤ 10000
def So (M : Mem) (p : Addr) : Prop := ∃ ns t, M p = some (stC ns t) ∧ NsOk ns ∧ 0 ≤ t
def Adv (M M' : Mem) (p : Addr) : Prop := ∃ ns t, M' = Dl.st M p (stC ns t) ∧ NsOk ns ∧ 0 ≤ t
theorem Adv.so {M M' : Mem} {p : Addr} (h : Adv M M' p) : So M' p := by
  obtain ⟨ns, t, rfl, h1, h2⟩ := h
  exact ⟨ns, t, st_same, h1, h2⟩
theorem Adv.trans {M M' M'' : Mem} {p : Addr} (h : Adv M M' p) (h' : Adv M' M'' p) : Adv M M'' p := by
  obtain ⟨ns, t, rfl, _, _⟩ := h
  obtain ⟨ms, u, rfl, h1, h2⟩ := h'
  exact ⟨ms, u, st_st, h1, h2⟩
theorem So.refl {M : Mem} {p : Addr} (h : So M p) : Adv M M p := by
  obtain ⟨ns, t, e, h1, h2⟩ := h
  exact ⟨ns, t, (st_get e).symm, h1, h2⟩

theorem ix_num {ns : List Int} {t : Int} {p : Addr} {M : Mem} {Q : D → Mem → Prop} : f_ix (.obj p) (.str "numbers") (Dl.st M p (stC ns t)) Q = Q (.lst (ns.map D.int)) (Dl.st M p (stC ns t)) := by
  simp [f_ix, dlook, st_same, stC, keyD, dget]
theorem ix_at {ns : List Int} {t : Int} {p : Addr} {M : Mem} {Q : D → Mem → Prop} : f_ix (.obj p) (.str "at") (Dl.st M p (stC ns t)) Q = Q (.int t) (Dl.st M p (stC ns t)) := by
  simp [f_ix, dlook, st_same, stC, keyD, dget, so_inj]
theorem set_at {ns : List Int} {t u : Int} {p : Addr} {M : Mem} {Q : Mem → Prop} : f_set (.obj p) (.str "at") (.int u) (Dl.st M p (stC ns t)) Q = Q (Dl.st M p (stC ns u)) := by
  simp [f_set, st_same, stC, keyD, dput, dhas, dsub, so_inj, sizeLine, st_st]

/-! ### lowest terms -/
abbrev Am (n d : Int) : D := .tup [.int n, .int d]
def low (n d : Int) : Int × Int := if d < 0 then (-n / (Nat.gcd n.natAbs d.natAbs : Int), -d / (Nat.gcd n.natAbs d.natAbs : Int)) else (n / (Nat.gcd n.natAbs d.natAbs : Int), d / (Nat.gcd n.natAbs d.natAbs : Int))
structure Lo (n d : Int) : Prop where
  pos : 0 < d
  cop : Nat.gcd n.natAbs d.natAbs = 1
theorem gcd_pos {n d : Int} (h : d ≠ 0) : 0 < Nat.gcd n.natAbs d.natAbs := Nat.gcd_pos_of_pos_right _ (Int.natAbs_pos.mpr h)
/-- n = g * n', d = g * d' up to sign -/
theorem low_of {n d : Int} (h : d ≠ 0) : ∃ g : Int, 0 < g ∧ ((0 < d ∧ n = (low n d).1 * g ∧ d = (low n d).2 * g) ∨ (d < 0 ∧ -n = (low n d).1 * g ∧ -d = (low n d).2 * g)) ∧ Lo (low n d).1 (low n d).2 := by
  have hg := gcd_pos (n := n) h
  have d1 : (Nat.gcd n.natAbs d.natAbs : Int) ∣ n := Int.ofNat_dvd_left.mpr (Nat.gcd_dvd_left _ _)
  have d2 : (Nat.gcd n.natAbs d.natAbs : Int) ∣ d := Int.ofNat_dvd_left.mpr (Nat.gcd_dvd_right _ _)
  have hgi : (0 : Int) < (Nat.gcd n.natAbs d.natAbs : Int) := by exact_mod_cast hg
  have cop : ∀ m e : Int, m.natAbs = n.natAbs → e.natAbs = d.natAbs → Nat.gcd (m / (Nat.gcd n.natAbs d.natAbs : Int)).natAbs (e / (Nat.gcd n.natAbs d.natAbs : Int)).natAbs = 1 := by
    intro m e hm he
    have dm : (Nat.gcd n.natAbs d.natAbs : Int) ∣ m := Int.ofNat_dvd_left.mpr (by rw [hm]; exact Nat.gcd_dvd_left _ _)
    have de : (Nat.gcd n.natAbs d.natAbs : Int) ∣ e := Int.ofNat_dvd_left.mpr (by rw [he]; exact Nat.gcd_dvd_right _ _)
    rw [Int.natAbs_ediv_of_dvd dm, Int.natAbs_ediv_of_dvd de, hm, he, Int.natAbs_natCast]
    rw [Nat.gcd_div (Nat.gcd_dvd_left _ _) (Nat.gcd_dvd_right _ _), Nat.div_self hg]
  refine ⟨_, hgi, ?_, ?_⟩
  · unfold low
    by_cases hd : d < 0
    · rw [if_pos hd]
      exact .inr ⟨hd, (Int.ediv_mul_cancel (Int.dvd_neg.mpr d1)).symm, (Int.ediv_mul_cancel (Int.dvd_neg.mpr d2)).symm⟩
    · rw [if_neg hd]
      exact .inl ⟨by omega, (Int.ediv_mul_cancel d1).symm, (Int.ediv_mul_cancel d2).symm⟩
  · unfold low
    by_cases hd : d < 0
    · rw [if_pos hd]
      refine ⟨?_, cop _ _ (Int.natAbs_neg n) (Int.natAbs_neg d)⟩
      have := Int.ediv_mul_cancel (Int.dvd_neg.mpr d2)
      refine Int.pos_of_mul_pos_left (b := (Nat.gcd n.natAbs d.natAbs : Int)) ?_ hgi
      show 0 < -d / _ * _
      rw [this]; omega
    · rw [if_neg hd]
      refine ⟨?_, cop _ _ rfl rfl⟩
      have := Int.ediv_mul_cancel d2
      refine Int.pos_of_mul_pos_left (b := (Nat.gcd n.natAbs d.natAbs : Int)) ?_ hgi
      show 0 < d / _ * _
      rw [this]; omega
theorem low_dvd {n d : Int} (h : d ≠ 0) : (low n d).1.natAbs ≤ n.natAbs ∧ (low n d).2.natAbs ≤ d.natAbs := by
  obtain ⟨g, hg, h1, _⟩ := low_of (n := n) h
  have key : ∀ x y : Int, y = x * g → x.natAbs ≤ y.natAbs := fun x y e => by
    rw [e, Int.natAbs_mul]
    exact Nat.le_mul_of_pos_right _ (Int.natAbs_pos.mpr (by omega))
  rcases h1 with ⟨_, a, b⟩ | ⟨_, a, b⟩
  · exact ⟨key _ _ a, key _ _ b⟩
  · have x := key _ _ a
    have y := key _ _ b
    rw [Int.natAbs_neg] at x y
    exact ⟨x, y⟩
/-- equal as fractions, both in lowest terms -/
theorem Lo.uniq {n d m e : Int} (h : Lo n d) (h' : Lo m e) (q : n * e = m * d) : n = m ∧ d = e := by
  have q' : n.natAbs * e.natAbs = m.natAbs * d.natAbs := by rw [← Int.natAbs_mul, ← Int.natAbs_mul, q]
  have d1 : d.natAbs ∣ e.natAbs := (Nat.Coprime.symm h.cop : Nat.Coprime d.natAbs n.natAbs).dvd_of_dvd_mul_left ⟨m.natAbs, by rw [q', Nat.mul_comm]⟩
  have d2 : e.natAbs ∣ d.natAbs := (Nat.Coprime.symm h'.cop : Nat.Coprime e.natAbs m.natAbs).dvd_of_dvd_mul_left ⟨n.natAbs, by rw [← q', Nat.mul_comm]⟩
  have ed : d.natAbs = e.natAbs := Nat.dvd_antisymm d1 d2
  have p1 := h.pos
  have p2 := h'.pos
  have e1 : d = e := by omega
  subst e1
  exact ⟨Int.eq_of_mul_eq_mul_right (by omega) q, rfl⟩
theorem low_lo {n d : Int} (h : Lo n d) : low n d = (n, d) := by
  unfold low
  have p := h.pos
  rw [if_neg (by omega), h.cop]
  simp
/-- floor of the lowest terms -/
theorem low_floor {n d : Int} (h : 0 < d) : (low n d).1 / (low n d).2 = n / d := by
  obtain ⟨g, hg, h1, _⟩ := low_of (n := n) (d := d) (by omega)
  rcases h1 with ⟨_, a, b⟩ | ⟨z, _⟩
  · have : n / d = ((low n d).1 * g) / ((low n d).2 * g) := by rw [← a, ← b]
    rw [this, Int.mul_ediv_mul_of_pos_left _ _ hg]
  · omega
end Dl

/-! DlE: the law's own def, at the end. -/
namespace Dl
open L2 PySem PyProof.Rows PySem.Spec

/-- an exception that is let out was wished for -/
def CXw : CXT := fun _ _ _ E _ _ => ∃ c d H', E c d H'
theorem fn_cxw {P : Program} {w : World} {K : Fg} {mg : Str → Option Value} {base : Heap} {k : Nat} {f : Addr} {fd : FuncData} {ps : List Str} {sp : Sp} (F : FnOk P w K mg base (L2.CX P w) k f fd ps sp) : FnOk P w K mg base CXw k f fd ps sp :=
  ⟨F.len, fun A outer s H args us vs Q E hr he hb hv hs => codeAny_mono (F.run A outer s H args us vs Q E hr he hb hv hs) fun r s' h => by
    cases r with
    | ok c => cases c <;> exact h
    | error e =>
      obtain ⟨a, B, H', cls, d, _, _, _, _, _, _, _, hE⟩ := h
      exact ⟨cls, d, H', hE⟩⟩
/-- the law's promise at its script -/
theorem law_sp {K : Fg} {sp : DSp} {H : Hp} {a : Addr} {ns : List Int} (h : ∀ pox, sp [.ro (ns.map D.int)] (fun _ => none) (fun v _ => v = .bl true) pox) (hS : SqL K H a (ns.map V.int)) : LSp K sp [.ref a] H (fun v _ => v = .bl true) (fun _ _ _ => False) := by
  refine ⟨fun _ => none, H, [.ro (ns.map D.int)], fun _ => none, fun v _ => v = .bl true, fun _ _ => False, ⟨Same.refl _, Same.refl _, fun _ _ q => (by cases q), fun _ _ q => (by cases q), fun _ _ q => (by cases q)⟩, .cons (.ro hS Reps.ints) .nil, h _, ?_, fun _ _ _ _ _ _ _ _ _ z => z⟩
  intro G' H' M' x v _ _ r q
  subst q
  cases r
  rfl
end Dl

set_option maxHeartbeats 0
namespace K10
open Dl PySem PySem.Spec PyProof.Rows L2
local macro_rules | `(tactic| walk_at "dl") => `(tactic| simp only [dVar, dC, dBin, dUn, dTr, dIf, tAndD, tOrD, tNotD, dAnd, dOr, daNil, daCons, dTup, dLst, dLstC, add_ii, add_ss, add_ll, add_tt, sub_ii, sub_bb, mul_ii, fdiv_ii, mod_ii, pow_ii, shl_ii, neg_i, lt_ii, le_ii, gt_ii, ge_ii, not_b, abs_i, max_ii, min_ii, int_i, int_b, gcd_ii, len_l, len_r, len_t, len_s, len_o, app_o, ty_o, isi_i, isi_b, isi_s, isi_n, isi_t, isi_l, isi_r, sl_l, sl_r, sl_fl, sl_fr, f_is, isNon, ix_t0, ix_t1, ix_num, ix_at, set_at, eq_ii, ne_ii, eq_bb, ne_bb, eq_ss, ne_ss, eq_aa, ne_aa, dSl, doNone, doSome, dNewK, dNewT, dDisp, dPairs, pairsK, keyD, dCB, dMt, dMt0, dNext, dSeq, dBrk, dCnt, dDrop, dRet, dRetN, dIfS, dgName, dgTup, dgCons, dgNil, dAsg, dSet, dPar, dPar3, dgSub, dCall, dCall0, sp0_app, sp1_app, sp2_app, sp3_app, sp4_app, sp5_app, sp6_app, dRaise, dEndsN, dFrz, dFor, diList, diRng1, diRng2, diTup, dWhileI, List.set_cons_zero, List.set_cons_succ, List.getElem?_cons_zero, List.getElem?_cons_succ, List.length_cons, List.length_nil, st_same, decide_eq_true_eq, b2i, true_and, if_true, if_false, decide_true, decide_false, and_self, eq_self, Bool.not_true, Bool.not_false, Bool.false_eq_true, Bool.true_eq_false])
def top (i : Nat) : Stmt := PySem.Challenge.pw_fairlevy_k10_amounts.main.body.getD i (.Pass ⟨0, 0, 0, 0⟩)
abbrev s_amount : Stmt := top 6
abbrev s_plus : Stmt := top 7
abbrev s_negated : Stmt := top 8
abbrev s_minus : Stmt := top 9
abbrev s_times : Stmt := top 10
abbrev s_over : Stmt := top 11
abbrev s_sign : Stmt := top 12
abbrev s_below : Stmt := top 13
abbrev s_least : Stmt := top 14
abbrev s_most : Stmt := top 15
abbrev s_floor_of : Stmt := top 16
abbrev s_ceiling_of : Stmt := top 17
abbrev s_nearest : Stmt := top 18
abbrev s_law_draw : Stmt := top 20
abbrev s_law_draws : Stmt := top 21
abbrev s_law_next : Stmt := top 22
abbrev s_law_pick : Stmt := top 23
abbrev s_law_lowest : Stmt := top 24
abbrev s_law_whole : Stmt := top 25
abbrev s_law_some : Stmt := top 26
abbrev s_law_near : Stmt := top 27
abbrev s_law_made : Stmt := top 28
abbrev s_law_over : Stmt := top 29
abbrev s_law_is_whole : Stmt := top 30
abbrev s_law_rounded : Stmt := top 31
abbrev s_law_pair : Stmt := top 32
abbrev s_law : Stmt := top 33
structure Zx (K : Fg) : Prop where
  m_ZeroAmount_LevyError : PySem.W.exmOne K (.ref (cA K "ZeroAmount")) (.ref (cA K "LevyError")) = some true
  t_ZeroAmount_ZeroAmount : PySem.W.kitOne K (.ref (cA K "ZeroAmount")) (.ref (cA K "ZeroAmount")) = some true
  t_ZeroAmount_FormError : PySem.W.kitOne K (.ref (cA K "ZeroAmount")) (.ref (cA K "FormError")) = some false
  c_ZeroAmount : ExcC K (cA K "ZeroAmount")
  zz : True
/-- what the head tells -/
structure Tx (K : Fg) (mg : Str → Option Value) : Prop where
  b_abs : mg "abs" = none
  b_bool : mg "bool" = none
  b_int : mg "int" = none
  b_isinstance : mg "isinstance" = none
  b_len : mg "len" = none
  b_min : mg "min" = none
  b_range : mg "range" = none
  g_FormError : mg "FormError" = some (.ref (cA K "FormError"))
  g_LevyError : mg "LevyError" = some (.ref (cA K "LevyError"))
  g_ZeroAmount : mg "ZeroAmount" = some (.ref (cA K "ZeroAmount"))
  x_ZeroAmount : PySem.W.excIn K (cA K "ZeroAmount") He.veBase "ValueError.__new__" = true ∧ PySem.W.keepIn K (.ref (cA K "ZeroAmount")) = true ∧ PySem.W.subIn K (.ref (cA K "ZeroAmount")) (.type "BaseException") = some true ∧ PySem.W.typeIn K (.ref (cA K "ZeroAmount")) = some (.type "type")
  z : Zx K
  gcd : mg "gcd" = some (.builtin "math.gcd")
  f_amount : Df K mg "amount" s_amount
  f_plus : Df K mg "plus" s_plus
  f_negated : Df K mg "negated" s_negated
  f_minus : Df K mg "minus" s_minus
  f_times : Df K mg "times" s_times
  f_over : Df K mg "over" s_over
  f_sign : Df K mg "sign" s_sign
  f_below : Df K mg "below" s_below
  f_least : Df K mg "least" s_least
  f_most : Df K mg "most" s_most
  f_floor_of : Df K mg "floor_of" s_floor_of
  f_ceiling_of : Df K mg "ceiling_of" s_ceiling_of
  f_nearest : Df K mg "nearest" s_nearest
  f_law_draw : Df K mg "_law_draw" s_law_draw
  f_law_draws : Df K mg "_law_draws" s_law_draws
  f_law_next : Df K mg "_law_next" s_law_next
  f_law_pick : Df K mg "_law_pick" s_law_pick
  f_law_lowest : Df K mg "_law_lowest" s_law_lowest
  f_law_whole : Df K mg "_law_whole" s_law_whole
  f_law_some : Df K mg "_law_some" s_law_some
  f_law_near : Df K mg "_law_near" s_law_near
  f_law_made : Df K mg "_law_made" s_law_made
  f_law_over : Df K mg "_law_over" s_law_over
  f_law_is_whole : Df K mg "_law_is_whole" s_law_is_whole
  f_law_rounded : Df K mg "_law_rounded" s_law_rounded
  f_law_pair : Df K mg "_law_pair" s_law_pair
  f_law : Df K mg "law" s_law
/-! ### what each def promises -/
def big : Int := 10 ^ 18
abbrev zx (K : Fg) : DX := ⟨.ref (cA K "ZeroAmount"), []⟩
abbrev w_amount (K : Fg) : D → D → W0 := fun a b M Q E => ∃ n d : Int, a = .int n ∧ b = .int d ∧ Sm 4000 n ∧ Sm 4000 d ∧ (d = 0 → E (zx K) M) ∧ (d ≠ 0 → Q (Am (low n d).1 (low n d).2) M)
abbrev w_plus (K : Fg) : D → D → W0 := fun a b M Q E => ∃ n d m e : Int, a = Am n d ∧ b = Am m e ∧ Sm 1000 n ∧ Sm 1000 d ∧ Sm 1000 m ∧ Sm 1000 e ∧ 0 < d ∧ 0 < e ∧ Q (Am (low (n * e + m * d) (d * e)).1 (low (n * e + m * d) (d * e)).2) M
abbrev w_negated (K : Fg) : D → W0 := fun a M Q E => ∃ n d : Int, a = Am n d ∧ Q (Am (-n) d) M
abbrev w_minus (K : Fg) : D → D → W0 := fun a b M Q E => ∃ n d m e : Int, a = Am n d ∧ b = Am m e ∧ Sm 1000 n ∧ Sm 1000 d ∧ Sm 1000 m ∧ Sm 1000 e ∧ 0 < d ∧ 0 < e ∧ Q (Am (low (n * e - m * d) (d * e)).1 (low (n * e - m * d) (d * e)).2) M
abbrev w_times (K : Fg) : D → D → W0 := fun a b M Q E => ∃ n d m e : Int, a = Am n d ∧ b = Am m e ∧ Sm 1000 n ∧ Sm 1000 d ∧ Sm 1000 m ∧ Sm 1000 e ∧ 0 < d ∧ 0 < e ∧ Q (Am (low (n * m) (d * e)).1 (low (n * m) (d * e)).2) M
abbrev w_over (K : Fg) : D → D → W0 := fun a b M Q E => ∃ n d m e : Int, a = Am n d ∧ b = Am m e ∧ Sm 1000 n ∧ Sm 1000 d ∧ Sm 1000 m ∧ Sm 1000 e ∧ 0 < d ∧ 0 < e ∧ (m = 0 → E (zx K) M) ∧ (m ≠ 0 → Q (Am (low (n * e) (d * m)).1 (low (n * e) (d * m)).2) M)
abbrev w_sign (K : Fg) : D → W0 := fun a M Q E => ∃ n d : Int, a = Am n d ∧ Q (.int (if n = 0 then 0 else if 0 < n then 1 else -1)) M
abbrev w_below (K : Fg) : D → D → W0 := fun a b M Q E => ∃ n d m e : Int, a = Am n d ∧ b = Am m e ∧ Sm 1000 n ∧ Sm 1000 d ∧ Sm 1000 m ∧ Sm 1000 e ∧ Q (.bl (decide (n * e < m * d))) M
abbrev w_least (K : Fg) : D → D → W0 := fun a b M Q E => ∃ n d m e : Int, a = Am n d ∧ b = Am m e ∧ Sm 1000 n ∧ Sm 1000 d ∧ Sm 1000 m ∧ Sm 1000 e ∧ Q (if m * d < n * e then Am m e else Am n d) M
abbrev w_most (K : Fg) : D → D → W0 := fun a b M Q E => ∃ n d m e : Int, a = Am n d ∧ b = Am m e ∧ Sm 1000 n ∧ Sm 1000 d ∧ Sm 1000 m ∧ Sm 1000 e ∧ Q (if n * e < m * d then Am m e else Am n d) M
abbrev w_floor_of (K : Fg) : D → W0 := fun a M Q E => ∃ n d : Int, a = Am n d ∧ 0 < d ∧ Sm 8000 d ∧ Q (.int (n / d)) M
abbrev w_ceiling_of (K : Fg) : D → W0 := fun a M Q E => ∃ n d : Int, a = Am n d ∧ 0 < d ∧ Sm 8000 d ∧ Q (.int (-(-n / d))) M
abbrev w_nearest (K : Fg) : D → W0 := fun a M Q E => ∃ n d : Int, a = Am n d ∧ 0 < d ∧ Sm 1000 n ∧ Sm 1000 d ∧ Q (.int ((n * 2 + 1 * d) / (d * 2))) M
abbrev w_law_draw (K : Fg) : D → D → D → W0 := fun a b c M Q E => ∃ cell many bound : Int, a = .int cell ∧ b = .int many ∧ c = .int bound ∧ 0 ≤ many ∧ many ≤ 1000 ∧ 0 < bound ∧ Sm 100 bound ∧ ∀ ns : List Int, (ns.length : Int) = many → Q (.lst (ns.map D.int)) M
abbrev w_law_draws (K : Fg) : D → W0 := fun a M Q E => ∃ cells : List Int, a = .lst (cells.map D.int) ∧ cells.length ≤ 100 ∧ cells ≠ [] ∧ ∀ p ns, M p = none → NsOk ns → Q (.obj p) (st M p (stC ns 0))
abbrev w_law_next (K : Fg) : D → D → W0 := fun a b M Q E => ∃ (p : Addr) (m : Int), a = .obj p ∧ b = .int m ∧ So M p ∧ 0 < m ∧ ∀ M' r, Adv M M' p → 0 ≤ r → r < m → Q (.int r) M'
abbrev w_law_pick (K : Fg) : D → D → W0 := fun a b M Q E => ∃ (p : Addr) (ds : List D), a = .obj p ∧ b = .lst ds ∧ So M p ∧ ds ≠ [] ∧ ∀ M' d, Adv M M' p → d ∈ ds → Q d M'
abbrev w_law_lowest (K : Fg) : D → D → W0 := fun a b M Q E => ∃ n d : Int, a = .int n ∧ b = .int d ∧ d ≠ 0 ∧ Sm 4000 n ∧ Sm 4000 d ∧ Q (Am (low n d).1 (low n d).2) M
structure Wh (n : Int) : Prop where
  lo : -big < n
  hi : n < big
abbrev w_law_whole (K : Fg) : D → W0 := fun a M Q E => ∃ p : Addr, a = .obj p ∧ So M p ∧ ∀ M' n, Adv M M' p → Wh n → Q (.int n) M'
/-- a drawn amount -/
structure Gd (n d : Int) : Prop where
  w : Wh n
  l : Lo n d
  hi : d < big
abbrev w_law_some (K : Fg) : D → W0 := fun a M Q E => ∃ p : Addr, a = .obj p ∧ So M p ∧ ∀ M' n d, Adv M M' p → Gd n d → Q (Am n d) M'
abbrev w_law_near (K : Fg) : D → D → W0 := fun a b M Q E => ∃ (p : Addr) (n d : Int), a = .obj p ∧ b = Am n d ∧ Gd n d ∧ So M p ∧ ∀ M' n d, Adv M M' p → Gd n d → Q (Am n d) M'
abbrev w_law_made (K : Fg) : D → D → W0 := fun a b M Q E => ∃ n d : Int, a = .int n ∧ b = .int d ∧ Sm 4000 n ∧ Sm 4000 d ∧ (d = 0 → Q (.str "zero") M) ∧ (d ≠ 0 → Q (Am (low n d).1 (low n d).2) M)
abbrev w_law_over (K : Fg) : D → D → W0 := fun a b M Q E => ∃ n d m e : Int, a = Am n d ∧ b = Am m e ∧ Sm 1000 n ∧ Sm 1000 d ∧ Sm 1000 m ∧ Sm 1000 e ∧ 0 < d ∧ 0 < e ∧ (m = 0 → Q (.str "zero") M) ∧ (m ≠ 0 → Q (Am (low (n * e) (d * m)).1 (low (n * e) (d * m)).2) M)
abbrev w_law_is_whole (K : Fg) : D → D → W0 := fun a b M Q E => ∃ n m : Int, a = .int n ∧ b = .int m ∧ Q (.bl (decide (n = m))) M
abbrev w_law_rounded (K : Fg) : D → W0 := fun a M Q E => ∃ n d : Int, a = Am n d ∧ Gd n d ∧ Q (.bl true) M
abbrev w_law_pair (K : Fg) : D → D → W0 := fun a b M Q E => ∃ n d m e : Int, a = Am n d ∧ b = Am m e ∧ Gd n d ∧ Gd m e ∧ Q (.bl true) M
abbrev w_law (K : Fg) : D → W0 := fun a M Q E => ∃ ns : List Int, a = .ro (ns.map D.int) ∧ M = (fun _ => none) ∧ ∀ M', Q (.bl true) M'
abbrev sp_amount (K : Fg) : DSp := sp2 (w_amount K)
abbrev sp_plus (K : Fg) : DSp := sp2 (w_plus K)
abbrev sp_negated (K : Fg) : DSp := sp1 (w_negated K)
abbrev sp_minus (K : Fg) : DSp := sp2 (w_minus K)
abbrev sp_times (K : Fg) : DSp := sp2 (w_times K)
abbrev sp_over (K : Fg) : DSp := sp2 (w_over K)
abbrev sp_sign (K : Fg) : DSp := sp1 (w_sign K)
abbrev sp_below (K : Fg) : DSp := sp2 (w_below K)
abbrev sp_least (K : Fg) : DSp := sp2 (w_least K)
abbrev sp_most (K : Fg) : DSp := sp2 (w_most K)
abbrev sp_floor_of (K : Fg) : DSp := sp1 (w_floor_of K)
abbrev sp_ceiling_of (K : Fg) : DSp := sp1 (w_ceiling_of K)
abbrev sp_nearest (K : Fg) : DSp := sp1 (w_nearest K)
abbrev sp_law_draw (K : Fg) : DSp := sp3 (w_law_draw K)
abbrev sp_law_draws (K : Fg) : DSp := sp1 (w_law_draws K)
abbrev sp_law_next (K : Fg) : DSp := sp2 (w_law_next K)
abbrev sp_law_pick (K : Fg) : DSp := sp2 (w_law_pick K)
abbrev sp_law_lowest (K : Fg) : DSp := sp2 (w_law_lowest K)
abbrev sp_law_whole (K : Fg) : DSp := sp1 (w_law_whole K)
abbrev sp_law_some (K : Fg) : DSp := sp1 (w_law_some K)
abbrev sp_law_near (K : Fg) : DSp := sp2 (w_law_near K)
abbrev sp_law_made (K : Fg) : DSp := sp2 (w_law_made K)
abbrev sp_law_over (K : Fg) : DSp := sp2 (w_law_over K)
abbrev sp_law_is_whole (K : Fg) : DSp := sp2 (w_law_is_whole K)
abbrev sp_law_rounded (K : Fg) : DSp := sp1 (w_law_rounded K)
abbrev sp_law_pair (K : Fg) : DSp := sp2 (w_law_pair K)
abbrev sp_law (K : Fg) : DSp := sp1 (w_law K)
/-! ### amount -/
theorem sc_amount : FnScope ["n", "d", "common"] ["n", "d"] (defScope s_amount) := ⟨rfl, rfl, rfl, by decide +kernel, rfl, by decide +kernel, by decide +kernel⟩
def d_amount (K : Fg) : DW → DS := fun pw => (dSeq (dIfS (dTr (dBin f_eq (dVar 1) (dC (.int 0)))) (dRaise pw (cA K "ZeroAmount")) dNext) (dSeq (dIfS (dTr (dBin f_lt (dVar 1) (dC (.int 0)))) (dPar 0 1 (daCons (dUn f_neg (dVar 0)) (daCons (dUn f_neg (dVar 1)) daNil))) dNext) (dSeq (dSet 2 (dCB f_gcd (daCons (dVar 0) (daCons (dVar 1) daNil)))) (dRet (dTup (daCons (dBin f_fdiv (dVar 0) (dVar 2)) (daCons (dBin f_fdiv (dVar 1) (dVar 2)) daNil)))))))
theorem der_amount {P : Program} {w : World} {K : Fg} {mg : Str → Option Value} {base : Heap} (T : Tx K mg)  : Der P w K mg base ["n", "d", "common"] "amount" s_amount 0 (d_amount K) := fun f cdv A outer s H E F pw hr tk hp =>
  have hu := hr.units; have nd := sc_amount.nd
  (pds_cons (pds_if (pt_eq hu (pd_var 1) pd_int) (pds_one (pds_raise PySem.F.excBase_ValueError T.x_ZeroAmount.1 T.g_ZeroAmount T.x_ZeroAmount.2.1 T.x_ZeroAmount.2.2.1 T.x_ZeroAmount.2.2.2 rfl tk)) pds_nil) (pds_cons (pds_if (pt_lt (pd_var 1) pd_int) (pds_one (pds_par 0 1 rfl nd (pd_cons (pd_neg (pd_var 0)) (pd_cons (pd_neg (pd_var 1)) pd_nil)))) pds_nil) (pds_cons (pds_set 2 nd (pd_gcd T.gcd (pd_cons (pd_var 0) (pd_cons (pd_var 1) pd_nil)))) (pds_one (pds_ret (pd_tup (pd_cons (pd_fdiv (pd_var 0) (pd_var 2)) (pd_cons (pd_fdiv (pd_var 1) (pd_var 2)) pd_nil))))))))
/-! ### plus -/
theorem sc_plus : FnScope ["a", "b"] ["a", "b"] (defScope s_plus) := ⟨rfl, rfl, rfl, by decide +kernel, rfl, by decide +kernel, by decide +kernel⟩
def d_plus (K : Fg) : DW → DS := fun pw => (dRet (dCall (sp_amount K) pw (daCons (dBin f_add (dBin f_mul (dBin f_ix (dVar 0) (dC (.int 0))) (dBin f_ix (dVar 1) (dC (.int 1)))) (dBin f_mul (dBin f_ix (dVar 1) (dC (.int 0))) (dBin f_ix (dVar 0) (dC (.int 1))))) (daCons (dBin f_mul (dBin f_ix (dVar 0) (dC (.int 1))) (dBin f_ix (dVar 1) (dC (.int 1)))) daNil))))
theorem der_plus {P : Program} {w : World} {K : Fg} {mg : Str → Option Value} {base : Heap} (T : Tx K mg) (c_amount : Cal P w K mg base 1 "amount" (sp_amount K)) : Der P w K mg base ["a", "b"] "plus" s_plus 1 (d_plus K) := fun f cdv A outer s H E F pw hr tk hp =>
  have hu := hr.units; have nd := sc_plus.nd
  (pds_one (pds_ret (pd_call c_amount (hr.mono (by decide)) tk (pd_cons (pd_add (pd_mul (pd_ix hu (pd_var 0) pd_int) (pd_ix hu (pd_var 1) pd_int)) (pd_mul (pd_ix hu (pd_var 1) pd_int) (pd_ix hu (pd_var 0) pd_int))) (pd_cons (pd_mul (pd_ix hu (pd_var 0) pd_int) (pd_ix hu (pd_var 1) pd_int)) pd_nil)))))
/-! ### negated -/
theorem sc_negated : FnScope ["a"] ["a"] (defScope s_negated) := ⟨rfl, rfl, rfl, by decide +kernel, rfl, by decide +kernel, by decide +kernel⟩
def d_negated (K : Fg) : DW → DS := fun pw => (dRet (dTup (daCons (dUn f_neg (dBin f_ix (dVar 0) (dC (.int 0)))) (daCons (dBin f_ix (dVar 0) (dC (.int 1))) daNil))))
theorem der_negated {P : Program} {w : World} {K : Fg} {mg : Str → Option Value} {base : Heap} (T : Tx K mg)  : Der P w K mg base ["a"] "negated" s_negated 0 (d_negated K) := fun f cdv A outer s H E F pw hr tk hp =>
  have hu := hr.units; have nd := sc_negated.nd
  (pds_one (pds_ret (pd_tup (pd_cons (pd_neg (pd_ix hu (pd_var 0) pd_int)) (pd_cons (pd_ix hu (pd_var 0) pd_int) pd_nil)))))
/-! ### minus -/
theorem sc_minus : FnScope ["a", "b"] ["a", "b"] (defScope s_minus) := ⟨rfl, rfl, rfl, by decide +kernel, rfl, by decide +kernel, by decide +kernel⟩
def d_minus (K : Fg) : DW → DS := fun pw => (dRet (dCall (sp_plus K) pw (daCons (dVar 0) (daCons (dCall (sp_negated K) pw (daCons (dVar 1) daNil)) daNil))))
theorem der_minus {P : Program} {w : World} {K : Fg} {mg : Str → Option Value} {base : Heap} (T : Tx K mg) (c_plus : Cal P w K mg base 2 "plus" (sp_plus K)) (c_negated : Cal P w K mg base 1 "negated" (sp_negated K)) : Der P w K mg base ["a", "b"] "minus" s_minus 2 (d_minus K) := fun f cdv A outer s H E F pw hr tk hp =>
  have hu := hr.units; have nd := sc_minus.nd
  (pds_one (pds_ret (pd_call c_plus (hr.mono (by decide)) tk (pd_cons (pd_var 0) (pd_cons (pd_call c_negated (hr.mono (by decide)) tk (pd_cons (pd_var 1) pd_nil)) pd_nil)))))
/-! ### times -/
theorem sc_times : FnScope ["a", "b"] ["a", "b"] (defScope s_times) := ⟨rfl, rfl, rfl, by decide +kernel, rfl, by decide +kernel, by decide +kernel⟩
def d_times (K : Fg) : DW → DS := fun pw => (dRet (dCall (sp_amount K) pw (daCons (dBin f_mul (dBin f_ix (dVar 0) (dC (.int 0))) (dBin f_ix (dVar 1) (dC (.int 0)))) (daCons (dBin f_mul (dBin f_ix (dVar 0) (dC (.int 1))) (dBin f_ix (dVar 1) (dC (.int 1)))) daNil))))
theorem der_times {P : Program} {w : World} {K : Fg} {mg : Str → Option Value} {base : Heap} (T : Tx K mg) (c_amount : Cal P w K mg base 1 "amount" (sp_amount K)) : Der P w K mg base ["a", "b"] "times" s_times 1 (d_times K) := fun f cdv A outer s H E F pw hr tk hp =>
  have hu := hr.units; have nd := sc_times.nd
  (pds_one (pds_ret (pd_call c_amount (hr.mono (by decide)) tk (pd_cons (pd_mul (pd_ix hu (pd_var 0) pd_int) (pd_ix hu (pd_var 1) pd_int)) (pd_cons (pd_mul (pd_ix hu (pd_var 0) pd_int) (pd_ix hu (pd_var 1) pd_int)) pd_nil)))))
/-! ### over -/
theorem sc_over : FnScope ["a", "b"] ["a", "b"] (defScope s_over) := ⟨rfl, rfl, rfl, by decide +kernel, rfl, by decide +kernel, by decide +kernel⟩
def d_over (K : Fg) : DW → DS := fun pw => (dRet (dCall (sp_amount K) pw (daCons (dBin f_mul (dBin f_ix (dVar 0) (dC (.int 0))) (dBin f_ix (dVar 1) (dC (.int 1)))) (daCons (dBin f_mul (dBin f_ix (dVar 0) (dC (.int 1))) (dBin f_ix (dVar 1) (dC (.int 0)))) daNil))))
theorem der_over {P : Program} {w : World} {K : Fg} {mg : Str → Option Value} {base : Heap} (T : Tx K mg) (c_amount : Cal P w K mg base 1 "amount" (sp_amount K)) : Der P w K mg base ["a", "b"] "over" s_over 1 (d_over K) := fun f cdv A outer s H E F pw hr tk hp =>
  have hu := hr.units; have nd := sc_over.nd
  (pds_one (pds_ret (pd_call c_amount (hr.mono (by decide)) tk (pd_cons (pd_mul (pd_ix hu (pd_var 0) pd_int) (pd_ix hu (pd_var 1) pd_int)) (pd_cons (pd_mul (pd_ix hu (pd_var 0) pd_int) (pd_ix hu (pd_var 1) pd_int)) pd_nil)))))
/-! ### sign -/
theorem sc_sign : FnScope ["a"] ["a"] (defScope s_sign) := ⟨rfl, rfl, rfl, by decide +kernel, rfl, by decide +kernel, by decide +kernel⟩
def d_sign (K : Fg) : DW → DS := fun pw => (dRet (dBin f_sub (dBin f_gt (dBin f_ix (dVar 0) (dC (.int 0))) (dC (.int 0))) (dBin f_lt (dBin f_ix (dVar 0) (dC (.int 0))) (dC (.int 0)))))
theorem der_sign {P : Program} {w : World} {K : Fg} {mg : Str → Option Value} {base : Heap} (T : Tx K mg)  : Der P w K mg base ["a"] "sign" s_sign 0 (d_sign K) := fun f cdv A outer s H E F pw hr tk hp =>
  have hu := hr.units; have nd := sc_sign.nd
  (pds_one (pds_ret (pd_sub (pd_gt (pd_ix hu (pd_var 0) pd_int) pd_int) (pd_lt (pd_ix hu (pd_var 0) pd_int) pd_int))))
/-! ### below -/
theorem sc_below : FnScope ["a", "b"] ["a", "b"] (defScope s_below) := ⟨rfl, rfl, rfl, by decide +kernel, rfl, by decide +kernel, by decide +kernel⟩
def d_below (K : Fg) : DW → DS := fun pw => (dRet (dBin f_lt (dBin f_mul (dBin f_ix (dVar 0) (dC (.int 0))) (dBin f_ix (dVar 1) (dC (.int 1)))) (dBin f_mul (dBin f_ix (dVar 1) (dC (.int 0))) (dBin f_ix (dVar 0) (dC (.int 1))))))
theorem der_below {P : Program} {w : World} {K : Fg} {mg : Str → Option Value} {base : Heap} (T : Tx K mg)  : Der P w K mg base ["a", "b"] "below" s_below 0 (d_below K) := fun f cdv A outer s H E F pw hr tk hp =>
  have hu := hr.units; have nd := sc_below.nd
  (pds_one (pds_ret (pd_lt (pd_mul (pd_ix hu (pd_var 0) pd_int) (pd_ix hu (pd_var 1) pd_int)) (pd_mul (pd_ix hu (pd_var 1) pd_int) (pd_ix hu (pd_var 0) pd_int)))))
/-! ### least -/
theorem sc_least : FnScope ["a", "b"] ["a", "b"] (defScope s_least) := ⟨rfl, rfl, rfl, by decide +kernel, rfl, by decide +kernel, by decide +kernel⟩
def d_least (K : Fg) : DW → DS := fun pw => (dRet (dIf (dTr (dCall (sp_below K) pw (daCons (dVar 1) (daCons (dVar 0) daNil)))) (dVar 1) (dVar 0)))
theorem der_least {P : Program} {w : World} {K : Fg} {mg : Str → Option Value} {base : Heap} (T : Tx K mg) (c_below : Cal P w K mg base 1 "below" (sp_below K)) : Der P w K mg base ["a", "b"] "least" s_least 1 (d_least K) := fun f cdv A outer s H E F pw hr tk hp =>
  have hu := hr.units; have nd := sc_least.nd
  (pds_one (pds_ret (pd_if (pt_vald (pd_call c_below (hr.mono (by decide)) tk (pd_cons (pd_var 1) (pd_cons (pd_var 0) pd_nil)))) (pd_var 1) (pd_var 0))))
/-! ### most -/
theorem sc_most : FnScope ["a", "b"] ["a", "b"] (defScope s_most) := ⟨rfl, rfl, rfl, by decide +kernel, rfl, by decide +kernel, by decide +kernel⟩
def d_most (K : Fg) : DW → DS := fun pw => (dRet (dIf (dTr (dCall (sp_below K) pw (daCons (dVar 0) (daCons (dVar 1) daNil)))) (dVar 1) (dVar 0)))
theorem der_most {P : Program} {w : World} {K : Fg} {mg : Str → Option Value} {base : Heap} (T : Tx K mg) (c_below : Cal P w K mg base 1 "below" (sp_below K)) : Der P w K mg base ["a", "b"] "most" s_most 1 (d_most K) := fun f cdv A outer s H E F pw hr tk hp =>
  have hu := hr.units; have nd := sc_most.nd
  (pds_one (pds_ret (pd_if (pt_vald (pd_call c_below (hr.mono (by decide)) tk (pd_cons (pd_var 0) (pd_cons (pd_var 1) pd_nil)))) (pd_var 1) (pd_var 0))))
/-! ### floor_of -/
theorem sc_floor_of : FnScope ["a"] ["a"] (defScope s_floor_of) := ⟨rfl, rfl, rfl, by decide +kernel, rfl, by decide +kernel, by decide +kernel⟩
def d_floor_of (K : Fg) : DW → DS := fun pw => (dRet (dBin f_fdiv (dBin f_ix (dVar 0) (dC (.int 0))) (dBin f_ix (dVar 0) (dC (.int 1)))))
theorem der_floor_of {P : Program} {w : World} {K : Fg} {mg : Str → Option Value} {base : Heap} (T : Tx K mg)  : Der P w K mg base ["a"] "floor_of" s_floor_of 0 (d_floor_of K) := fun f cdv A outer s H E F pw hr tk hp =>
  have hu := hr.units; have nd := sc_floor_of.nd
  (pds_one (pds_ret (pd_fdiv (pd_ix hu (pd_var 0) pd_int) (pd_ix hu (pd_var 0) pd_int))))
/-! ### ceiling_of -/
theorem sc_ceiling_of : FnScope ["a"] ["a"] (defScope s_ceiling_of) := ⟨rfl, rfl, rfl, by decide +kernel, rfl, by decide +kernel, by decide +kernel⟩
def d_ceiling_of (K : Fg) : DW → DS := fun pw => (dRet (dUn f_neg (dBin f_fdiv (dUn f_neg (dBin f_ix (dVar 0) (dC (.int 0)))) (dBin f_ix (dVar 0) (dC (.int 1))))))
theorem der_ceiling_of {P : Program} {w : World} {K : Fg} {mg : Str → Option Value} {base : Heap} (T : Tx K mg)  : Der P w K mg base ["a"] "ceiling_of" s_ceiling_of 0 (d_ceiling_of K) := fun f cdv A outer s H E F pw hr tk hp =>
  have hu := hr.units; have nd := sc_ceiling_of.nd
  (pds_one (pds_ret (pd_neg (pd_fdiv (pd_neg (pd_ix hu (pd_var 0) pd_int)) (pd_ix hu (pd_var 0) pd_int)))))
/-! ### nearest -/
theorem sc_nearest : FnScope ["a"] ["a"] (defScope s_nearest) := ⟨rfl, rfl, rfl, by decide +kernel, rfl, by decide +kernel, by decide +kernel⟩
def d_nearest (K : Fg) : DW → DS := fun pw => (dRet (dCall (sp_floor_of K) pw (daCons (dCall (sp_plus K) pw (daCons (dVar 0) (daCons (dTup (daCons (dC (.int 1)) (daCons (dC (.int 2)) daNil))) daNil))) daNil)))
theorem der_nearest {P : Program} {w : World} {K : Fg} {mg : Str → Option Value} {base : Heap} (T : Tx K mg) (c_floor_of : Cal P w K mg base 1 "floor_of" (sp_floor_of K)) (c_plus : Cal P w K mg base 2 "plus" (sp_plus K)) : Der P w K mg base ["a"] "nearest" s_nearest 2 (d_nearest K) := fun f cdv A outer s H E F pw hr tk hp =>
  have hu := hr.units; have nd := sc_nearest.nd
  (pds_one (pds_ret (pd_call c_floor_of (hr.mono (by decide)) tk (pd_cons (pd_call c_plus (hr.mono (by decide)) tk (pd_cons (pd_var 0) (pd_cons (pd_tup (pd_cons pd_int (pd_cons pd_int pd_nil))) pd_nil))) pd_nil))))
/-! ### _law_draw -/
theorem sc_law_draw : FnScope ["cell", "many", "bound", "numbers", "seed", "k", "mixed"] ["cell", "many", "bound"] (defScope s_law_draw) := ⟨rfl, rfl, rfl, by decide +kernel, rfl, by decide +kernel, by decide +kernel⟩
def d_law_draw (K : Fg) : DW → DS := fun pw => (dSeq (dSet 3 (dLstC daNil)) (dSeq (dIfS (dTr (dBin f_ge (dVar 0) (dBin f_pow (dC (.int 10)) (dC (.int 18))))) (dSeq (dFor (diRng1 (daCons (dVar 1) daNil)) (dgName 5) (dSeq (dDrop (dMt "list" f_append (dVar 3) (daCons (dBin f_mod (dCB f_int (daCons (dVar 0) daNil)) (dVar 2)) daNil))) (dSet 0 (dBin f_fdiv (dVar 0) (dVar 2))))) (dRet (dFrz (dVar 3)))) dNext) (dSeq (dSet 4 (dBin f_mod (dCB f_int (daCons (dVar 0) daNil)) (dC (.int 2147483647)))) (dSeq (dFor (diRng1 (daCons (dVar 1) daNil)) (dgName 5) (dSeq (dSet 4 (dBin f_mod (dCB f_int (daCons (dBin f_add (dBin f_add (dBin f_mul (dVar 4) (dC (.int 48271))) (dC (.int 12345))) (dVar 5)) daNil)) (dC (.int 2147483647)))) (dSeq (dSet 6 (dBin f_mod (dCB f_int (daCons (dBin f_add (dBin f_mul (dVar 4) (dC (.int 69621))) (dBin f_mul (dC (.int 977)) (dVar 5))) daNil)) (dC (.int 2147483629)))) (dDrop (dMt "list" f_append (dVar 3) (daCons (dBin f_mod (dCB f_int (daCons (dBin f_fdiv (dVar 6) (dC (.int 3))) daNil)) (dVar 2)) daNil)))))) (dRet (dFrz (dVar 3)))))))
theorem der_law_draw {P : Program} {w : World} {K : Fg} {mg : Str → Option Value} {base : Heap} (T : Tx K mg)  : Der P w K mg base ["cell", "many", "bound", "numbers", "seed", "k", "mixed"] "_law_draw" s_law_draw 0 (d_law_draw K) := fun f cdv A outer s H E F pw hr tk hp =>
  have hu := hr.units; have nd := sc_law_draw.nd
  (pds_cons (pds_set 3 nd (pd_lstC pd_nil)) (pds_cons (pds_if (pt_ge (pd_var 0) (pd_pow pd_int pd_int)) (pds_cons (pds_for hp rfl (pdi_range1 T.b_range (pd_cons (pd_var 1) pd_nil)) (pdg_name 5 nd) (pds_cons (pds_expr (pd_append (pd_var 3) ((pd_cons (pd_mod (pd_intc T.b_int (pd_cons (pd_var 0) pd_nil)) (pd_var 2)) pd_nil)))) (pds_one (pds_set 0 nd (pd_fdiv (pd_var 0) (pd_var 2)))))) (pds_one (pds_ret (pd_frz (pd_var 3))))) pds_nil) (pds_cons (pds_set 4 nd (pd_mod (pd_intc T.b_int (pd_cons (pd_var 0) pd_nil)) pd_int)) (pds_cons (pds_for hp rfl (pdi_range1 T.b_range (pd_cons (pd_var 1) pd_nil)) (pdg_name 5 nd) (pds_cons (pds_set 4 nd (pd_mod (pd_intc T.b_int (pd_cons (pd_add (pd_add (pd_mul (pd_var 4) pd_int) pd_int) (pd_var 5)) pd_nil)) pd_int)) (pds_cons (pds_set 6 nd (pd_mod (pd_intc T.b_int (pd_cons (pd_add (pd_mul (pd_var 4) pd_int) (pd_mul pd_int (pd_var 5))) pd_nil)) pd_int)) (pds_one (pds_expr (pd_append (pd_var 3) ((pd_cons (pd_mod (pd_intc T.b_int (pd_cons (pd_fdiv (pd_var 6) pd_int) pd_nil)) (pd_var 2)) pd_nil)))))))) (pds_one (pds_ret (pd_frz (pd_var 3))))))))
/-! ### _law_draws -/
theorem sc_law_draws : FnScope ["cells", "numbers", "cell"] ["cells"] (defScope s_law_draws) := ⟨rfl, rfl, rfl, by decide +kernel, rfl, by decide +kernel, by decide +kernel⟩
def d_law_draws (K : Fg) : DW → DS := fun pw => (dSeq (dSet 1 (dLst daNil)) (dSeq (dFor (diList (dVar 0)) (dgName 2) (dSet 1 (dBin f_add (dVar 1) (dCall (sp_law_draw K) pw (daCons (dVar 2) (daCons (dC (.int 40)) (daCons (dBin f_shl (dC (.int 1)) (dC (.int 20))) daNil))))))) (dRet (dDisp true [((dC (.str "numbers")), (dVar 1)), ((dC (.str "at")), (dC (.int 0)))]))))
theorem der_law_draws {P : Program} {w : World} {K : Fg} {mg : Str → Option Value} {base : Heap} (T : Tx K mg) (c_law_draw : Cal P w K mg base 1 "_law_draw" (sp_law_draw K)) : Der P w K mg base ["cells", "numbers", "cell"] "_law_draws" s_law_draws 1 (d_law_draws K) := fun f cdv A outer s H E F pw hr tk hp =>
  have hu := hr.units; have nd := sc_law_draws.nd
  (pds_cons (pds_set 1 nd (pd_lst pd_nil)) (pds_cons (pds_for hp rfl (pdi_list (pd_var 0)) (pdg_name 2 nd) (pds_one (pds_set 1 nd (pd_add (pd_var 1) (pd_call c_law_draw (hr.mono (by decide)) tk (pd_cons (pd_var 2) (pd_cons pd_int (pd_cons (pd_shl pd_int pd_int) pd_nil)))))))) (pds_one (pds_ret (pd_disp true (pdp_cons (fun F1 l1 => pd_str) (fun F1 l1 => (pd_var 1)) (pdp_cons (fun F1 l1 => pd_str) (fun F1 l1 => pd_int) pdp_nil)))))))
/-! ### _law_next -/
theorem sc_law_next : FnScope ["state", "bound", "number"] ["state", "bound"] (defScope s_law_next) := ⟨rfl, rfl, rfl, by decide +kernel, rfl, by decide +kernel, by decide +kernel⟩
def d_law_next (K : Fg) : DW → DS := fun pw => (dSeq (dSet 2 (dBin f_add (dBin f_ix (dBin f_ix (dVar 0) (dC (.str "numbers"))) (dBin f_mod (dCB f_int (daCons (dBin f_ix (dVar 0) (dC (.str "at"))) daNil)) (dCB f_len (daCons (dBin f_ix (dVar 0) (dC (.str "numbers"))) daNil)))) (dBin f_fdiv (dCB f_int (daCons (dBin f_ix (dVar 0) (dC (.str "at"))) daNil)) (dCB f_len (daCons (dBin f_ix (dVar 0) (dC (.str "numbers"))) daNil))))) (dSeq (dAsg (dBin f_add (dBin f_ix (dVar 0) (dC (.str "at"))) (dC (.int 1))) (dgSub (dVar 0) (dC (.str "at")))) (dRet (dBin f_mod (dCB f_int (daCons (dVar 2) daNil)) (dVar 1)))))
theorem der_law_next {P : Program} {w : World} {K : Fg} {mg : Str → Option Value} {base : Heap} (T : Tx K mg)  : Der P w K mg base ["state", "bound", "number"] "_law_next" s_law_next 0 (d_law_next K) := fun f cdv A outer s H E F pw hr tk hp =>
  have hu := hr.units; have nd := sc_law_next.nd
  (pds_cons (pds_set 2 nd (pd_add (pd_ix hu (pd_ix hu (pd_var 0) pd_str) (pd_mod (pd_intc T.b_int (pd_cons (pd_ix hu (pd_var 0) pd_str) pd_nil)) (pd_len T.b_len (pd_cons (pd_ix hu (pd_var 0) pd_str) pd_nil)))) (pd_fdiv (pd_intc T.b_int (pd_cons (pd_ix hu (pd_var 0) pd_str) pd_nil)) (pd_len T.b_len (pd_cons (pd_ix hu (pd_var 0) pd_str) pd_nil))))) (pds_cons (pds_setitem hu (pd_var 0) pd_str (pd_add (pd_ix hu (pd_var 0) pd_str) pd_int)) (pds_one (pds_ret (pd_mod (pd_intc T.b_int (pd_cons (pd_var 2) pd_nil)) (pd_var 1))))))
/-! ### _law_pick -/
theorem sc_law_pick : FnScope ["state", "things"] ["state", "things"] (defScope s_law_pick) := ⟨rfl, rfl, rfl, by decide +kernel, rfl, by decide +kernel, by decide +kernel⟩
def d_law_pick (K : Fg) : DW → DS := fun pw => (dRet (dBin f_ix (dVar 1) (dCall (sp_law_next K) pw (daCons (dVar 0) (daCons (dCB f_len (daCons (dVar 1) daNil)) daNil)))))
theorem der_law_pick {P : Program} {w : World} {K : Fg} {mg : Str → Option Value} {base : Heap} (T : Tx K mg) (c_law_next : Cal P w K mg base 1 "_law_next" (sp_law_next K)) : Der P w K mg base ["state", "things"] "_law_pick" s_law_pick 1 (d_law_pick K) := fun f cdv A outer s H E F pw hr tk hp =>
  have hu := hr.units; have nd := sc_law_pick.nd
  (pds_one (pds_ret (pd_ix hu (pd_var 1) (pd_call c_law_next (hr.mono (by decide)) tk (pd_cons (pd_var 0) (pd_cons (pd_len T.b_len (pd_cons (pd_var 1) pd_nil)) pd_nil))))))
/-! ### _law_lowest -/
theorem sc_law_lowest : FnScope ["n", "d", "a", "b"] ["n", "d"] (defScope s_law_lowest) := ⟨rfl, rfl, rfl, by decide +kernel, rfl, by decide +kernel, by decide +kernel⟩
def d_law_lowest (K : Fg) : DW → DS := fun pw => (dSeq (dIfS (dTr (dBin f_lt (dVar 1) (dC (.int 0)))) (dPar 0 1 (daCons (dBin f_sub (dC (.int 0)) (dVar 0)) (daCons (dBin f_sub (dC (.int 0)) (dVar 1)) daNil))) dNext) (dSeq (dPar 2 3 (daCons (dCB f_abs (daCons (dVar 0) daNil)) (daCons (dVar 1) daNil))) (dSeq (dWhileI (dTr (dBin f_gt (dVar 3) (dC (.int 0)))) (dPar 2 3 (daCons (dVar 3) (daCons (dBin f_mod (dCB f_int (daCons (dVar 2) daNil)) (dVar 3)) daNil)))) (dRet (dTup (daCons (dBin f_fdiv (dVar 0) (dVar 2)) (daCons (dBin f_fdiv (dVar 1) (dVar 2)) daNil)))))))
theorem der_law_lowest {P : Program} {w : World} {K : Fg} {mg : Str → Option Value} {base : Heap} (T : Tx K mg)  : Der P w K mg base ["n", "d", "a", "b"] "_law_lowest" s_law_lowest 0 (d_law_lowest K) := fun f cdv A outer s H E F pw hr tk hp =>
  have hu := hr.units; have nd := sc_law_lowest.nd
  (pds_cons (pds_if (pt_lt (pd_var 1) pd_int) (pds_one (pds_par 0 1 rfl nd (pd_cons (pd_sub pd_int (pd_var 0)) (pd_cons (pd_sub pd_int (pd_var 1)) pd_nil)))) pds_nil) (pds_cons (pds_par 2 3 rfl nd (pd_cons (pd_abs T.b_abs (pd_cons (pd_var 0) pd_nil)) (pd_cons (pd_var 1) pd_nil))) (pds_cons (pds_whileI hp (pt_gt (pd_var 3) pd_int) (pds_one (pds_par 2 3 rfl nd (pd_cons (pd_var 3) (pd_cons (pd_mod (pd_intc T.b_int (pd_cons (pd_var 2) pd_nil)) (pd_var 3)) pd_nil))))) (pds_one (pds_ret (pd_tup (pd_cons (pd_fdiv (pd_var 0) (pd_var 2)) (pd_cons (pd_fdiv (pd_var 1) (pd_var 2)) pd_nil))))))))
/-! ### _law_whole -/
theorem sc_law_whole : FnScope ["state", "kind", "size", "number"] ["state"] (defScope s_law_whole) := ⟨rfl, rfl, rfl, by decide +kernel, rfl, by decide +kernel, by decide +kernel⟩
def d_law_whole (K : Fg) : DW → DS := fun pw => (dSeq (dSet 1 (dCall (sp_law_next K) pw (daCons (dVar 0) (daCons (dC (.int 5)) daNil)))) (dSeq (dSet 2 (dBin f_ix (dLst (daCons (dC (.int 10)) (daCons (dC (.int 100)) (daCons (dC (.int 100000)) (daCons (dBin f_pow (dC (.int 10)) (dC (.int 9))) (daCons (dBin f_pow (dC (.int 10)) (dC (.int 18))) daNil)))))) (dVar 1))) (dSeq (dSet 3 (dBin f_mod (dBin f_add (dBin f_add (dBin f_mul (dCall (sp_law_next K) pw (daCons (dVar 0) (daCons (dBin f_shl (dC (.int 1)) (dC (.int 20))) daNil))) (dBin f_shl (dC (.int 1)) (dC (.int 40)))) (dBin f_mul (dCall (sp_law_next K) pw (daCons (dVar 0) (daCons (dBin f_shl (dC (.int 1)) (dC (.int 20))) daNil))) (dBin f_shl (dC (.int 1)) (dC (.int 20))))) (dCall (sp_law_next K) pw (daCons (dVar 0) (daCons (dBin f_shl (dC (.int 1)) (dC (.int 20))) daNil)))) (dVar 2))) (dRet (dBin f_ix (dLst (daCons (dVar 3) (daCons (dBin f_sub (dC (.int 0)) (dVar 3)) (daCons (dBin f_mul (dBin f_fdiv (dVar 3) (dC (.int 10))) (dC (.int 10))) (daCons (dBin f_mul (dBin f_fdiv (dVar 3) (dC (.int 2))) (dC (.int 2))) daNil))))) (dCall (sp_law_next K) pw (daCons (dVar 0) (daCons (dC (.int 4)) daNil))))))))
theorem der_law_whole {P : Program} {w : World} {K : Fg} {mg : Str → Option Value} {base : Heap} (T : Tx K mg) (c_law_next : Cal P w K mg base 1 "_law_next" (sp_law_next K)) : Der P w K mg base ["state", "kind", "size", "number"] "_law_whole" s_law_whole 1 (d_law_whole K) := fun f cdv A outer s H E F pw hr tk hp =>
  have hu := hr.units; have nd := sc_law_whole.nd
  (pds_cons (pds_set 1 nd (pd_call c_law_next (hr.mono (by decide)) tk (pd_cons (pd_var 0) (pd_cons pd_int pd_nil)))) (pds_cons (pds_set 2 nd (pd_ix hu (pd_lst (pd_cons pd_int (pd_cons pd_int (pd_cons pd_int (pd_cons (pd_pow pd_int pd_int) (pd_cons (pd_pow pd_int pd_int) pd_nil)))))) (pd_var 1))) (pds_cons (pds_set 3 nd (pd_mod (pd_add (pd_add (pd_mul (pd_call c_law_next (hr.mono (by decide)) tk (pd_cons (pd_var 0) (pd_cons (pd_shl pd_int pd_int) pd_nil))) (pd_shl pd_int pd_int)) (pd_mul (pd_call c_law_next (hr.mono (by decide)) tk (pd_cons (pd_var 0) (pd_cons (pd_shl pd_int pd_int) pd_nil))) (pd_shl pd_int pd_int))) (pd_call c_law_next (hr.mono (by decide)) tk (pd_cons (pd_var 0) (pd_cons (pd_shl pd_int pd_int) pd_nil)))) (pd_var 2))) (pds_one (pds_ret (pd_ix hu (pd_lst (pd_cons (pd_var 3) (pd_cons (pd_sub pd_int (pd_var 3)) (pd_cons (pd_mul (pd_fdiv (pd_var 3) pd_int) pd_int) (pd_cons (pd_mul (pd_fdiv (pd_var 3) pd_int) pd_int) pd_nil))))) (pd_call c_law_next (hr.mono (by decide)) tk (pd_cons (pd_var 0) (pd_cons pd_int pd_nil)))))))))
/-! ### _law_some -/
theorem sc_law_some : FnScope ["state", "n", "d"] ["state"] (defScope s_law_some) := ⟨rfl, rfl, rfl, by decide +kernel, rfl, by decide +kernel, by decide +kernel⟩
def d_law_some (K : Fg) : DW → DS := fun pw => (dSeq (dSet 1 (dCall (sp_law_whole K) pw (daCons (dVar 0) daNil))) (dSeq (dSet 2 (dBin f_ix (dLst (daCons (dC (.int 1)) (daCons (dC (.int 2)) (daCons (dC (.int 10)) (daCons (dBin f_add (dCB f_abs (daCons (dCall (sp_law_whole K) pw (daCons (dVar 0) daNil)) daNil)) (dC (.int 1))) daNil))))) (dCall (sp_law_next K) pw (daCons (dVar 0) (daCons (dC (.int 4)) daNil))))) (dRet (dCall (sp_law_lowest K) pw (daCons (dVar 1) (daCons (dCB f_min2 (daCons (dVar 2) (daCons (dBin f_sub (dBin f_pow (dC (.int 10)) (dC (.int 18))) (dC (.int 1))) daNil))) daNil))))))
theorem der_law_some {P : Program} {w : World} {K : Fg} {mg : Str → Option Value} {base : Heap} (T : Tx K mg) (c_law_whole : Cal P w K mg base 2 "_law_whole" (sp_law_whole K)) (c_law_next : Cal P w K mg base 1 "_law_next" (sp_law_next K)) (c_law_lowest : Cal P w K mg base 1 "_law_lowest" (sp_law_lowest K)) : Der P w K mg base ["state", "n", "d"] "_law_some" s_law_some 2 (d_law_some K) := fun f cdv A outer s H E F pw hr tk hp =>
  have hu := hr.units; have nd := sc_law_some.nd
  (pds_cons (pds_set 1 nd (pd_call c_law_whole (hr.mono (by decide)) tk (pd_cons (pd_var 0) pd_nil))) (pds_cons (pds_set 2 nd (pd_ix hu (pd_lst (pd_cons pd_int (pd_cons pd_int (pd_cons pd_int (pd_cons (pd_add (pd_abs T.b_abs (pd_cons (pd_call c_law_whole (hr.mono (by decide)) tk (pd_cons (pd_var 0) pd_nil)) pd_nil)) pd_int) pd_nil))))) (pd_call c_law_next (hr.mono (by decide)) tk (pd_cons (pd_var 0) (pd_cons pd_int pd_nil))))) (pds_one (pds_ret (pd_call c_law_lowest (hr.mono (by decide)) tk (pd_cons (pd_var 1) (pd_cons (pd_min2 rfl T.b_min (pd_cons (pd_var 2) (pd_cons (pd_sub (pd_pow pd_int pd_int) pd_int) pd_nil))) pd_nil)))))))
/-! ### _law_near -/
theorem sc_law_near : FnScope ["state", "a", "other"] ["state", "a"] (defScope s_law_near) := ⟨rfl, rfl, rfl, by decide +kernel, rfl, by decide +kernel, by decide +kernel⟩
def d_law_near (K : Fg) : DW → DS := fun pw => (dSeq (dSet 2 (dBin f_ix (dLst (daCons (dVar 1) (daCons (dCall (sp_law_lowest K) pw (daCons (dBin f_add (dBin f_ix (dVar 1) (dC (.int 0))) (dC (.int 1))) (daCons (dBin f_ix (dVar 1) (dC (.int 1))) daNil))) (daCons (dCall (sp_law_lowest K) pw (daCons (dBin f_sub (dC (.int 0)) (dBin f_ix (dVar 1) (dC (.int 0)))) (daCons (dBin f_ix (dVar 1) (dC (.int 1))) daNil))) (daCons (dCall (sp_law_some K) pw (daCons (dVar 0) daNil)) daNil))))) (dCall (sp_law_next K) pw (daCons (dVar 0) (daCons (dC (.int 4)) daNil))))) (dRet (dIf (dTr (dBin f_lt (dCB f_abs (daCons (dBin f_ix (dVar 2) (dC (.int 0))) daNil)) (dBin f_pow (dC (.int 10)) (dC (.int 18))))) (dVar 2) (dVar 1))))
theorem der_law_near {P : Program} {w : World} {K : Fg} {mg : Str → Option Value} {base : Heap} (T : Tx K mg) (c_law_some : Cal P w K mg base 3 "_law_some" (sp_law_some K)) (c_law_lowest : Cal P w K mg base 1 "_law_lowest" (sp_law_lowest K)) (c_law_next : Cal P w K mg base 1 "_law_next" (sp_law_next K)) : Der P w K mg base ["state", "a", "other"] "_law_near" s_law_near 3 (d_law_near K) := fun f cdv A outer s H E F pw hr tk hp =>
  have hu := hr.units; have nd := sc_law_near.nd
  (pds_cons (pds_set 2 nd (pd_ix hu (pd_lst (pd_cons (pd_var 1) (pd_cons (pd_call c_law_lowest (hr.mono (by decide)) tk (pd_cons (pd_add (pd_ix hu (pd_var 1) pd_int) pd_int) (pd_cons (pd_ix hu (pd_var 1) pd_int) pd_nil))) (pd_cons (pd_call c_law_lowest (hr.mono (by decide)) tk (pd_cons (pd_sub pd_int (pd_ix hu (pd_var 1) pd_int)) (pd_cons (pd_ix hu (pd_var 1) pd_int) pd_nil))) (pd_cons (pd_call c_law_some (hr.mono (by decide)) tk (pd_cons (pd_var 0) pd_nil)) pd_nil))))) (pd_call c_law_next (hr.mono (by decide)) tk (pd_cons (pd_var 0) (pd_cons pd_int pd_nil))))) (pds_one (pds_ret (pd_if (pt_lt (pd_abs T.b_abs (pd_cons (pd_ix hu (pd_var 2) pd_int) pd_nil)) (pd_pow pd_int pd_int)) (pd_var 2) (pd_var 1)))))
/-! ### _law_made -/
theorem sc_law_made : FnScope ["n", "d", "error"] ["n", "d"] (defScope s_law_made) := ⟨rfl, rfl, rfl, by decide +kernel, rfl, by decide +kernel, by decide +kernel⟩
def d_law_made (K : Fg) : DW → DS := fun pw => (dTryAs K (.ref (cA K "LevyError")) 2 (fun pw1 => (dRet (dCall (sp_amount K) pw1 (daCons (dVar 0) (daCons (dVar 1) daNil))))) (fun xa1 xx1 => (dRet (dIf (tAndD (dTr (dCB (f_isE K xa1 xx1) (daCons (dVar 2) (daCons (dC (.obj (cA K "ZeroAmount"))) daNil)))) (tNotD (dTr (dCB (f_isE K xa1 xx1) (daCons (dVar 2) (daCons (dC (.obj (cA K "FormError"))) daNil)))))) (dC (.str "zero")) (dC (.str "other"))))) pw)
theorem der_law_made {P : Program} {w : World} {K : Fg} {mg : Str → Option Value} {base : Heap} (T : Tx K mg) (c_amount : Cal P w K mg base 1 "amount" (sp_amount K)) : Der P w K mg base ["n", "d", "error"] "_law_made" s_law_made 1 (d_law_made K) := fun f cdv A outer s H E F pw hr tk hp =>
  have hu := hr.units; have nd := sc_law_made.nd
  (pds_one (pds_tryas 2 rfl rfl nd (Dl.names_own T.g_LevyError rfl) tk (fun F1 pw1 pn1 xe1 tk1 hp => (pds_one (pds_ret (pd_call c_amount (hr.mono (by decide)) tk1 (pd_cons (pd_var 0) (pd_cons (pd_var 1) pd_nil)))))) (fun FS1 xa1 oe1 cl1 xo1 fs1 pn1 hz1 hv1 xf1 => (pds_one (pds_ret (pd_if (ptw (pw_andd (pt_vald (pd_isE hz1 hv1 xf1 T.b_isinstance (pd_cons (pd_var 2) (pd_cons (pd_glob (v := .ref _) T.g_ZeroAmount rfl (fun _ => .obj)) pd_nil)))) (pw_and1d (pt_notd (pt_vald (pd_isE hz1 hv1 xf1 T.b_isinstance (pd_cons (pd_var 2) (pd_cons (pd_glob (v := .ref _) T.g_FormError rfl (fun _ => .obj)) pd_nil)))))))) pd_str pd_str))))))
/-! ### _law_over -/
theorem sc_law_over : FnScope ["a", "b", "error"] ["a", "b"] (defScope s_law_over) := ⟨rfl, rfl, rfl, by decide +kernel, rfl, by decide +kernel, by decide +kernel⟩
def d_law_over (K : Fg) : DW → DS := fun pw => (dTryAs K (.ref (cA K "LevyError")) 2 (fun pw1 => (dRet (dCall (sp_over K) pw1 (daCons (dVar 0) (daCons (dVar 1) daNil))))) (fun xa1 xx1 => (dRet (dIf (tAndD (dTr (dCB (f_isE K xa1 xx1) (daCons (dVar 2) (daCons (dC (.obj (cA K "ZeroAmount"))) daNil)))) (tNotD (dTr (dCB (f_isE K xa1 xx1) (daCons (dVar 2) (daCons (dC (.obj (cA K "FormError"))) daNil)))))) (dC (.str "zero")) (dC (.str "other"))))) pw)
theorem der_law_over {P : Program} {w : World} {K : Fg} {mg : Str → Option Value} {base : Heap} (T : Tx K mg) (c_over : Cal P w K mg base 2 "over" (sp_over K)) : Der P w K mg base ["a", "b", "error"] "_law_over" s_law_over 2 (d_law_over K) := fun f cdv A outer s H E F pw hr tk hp =>
  have hu := hr.units; have nd := sc_law_over.nd
  (pds_one (pds_tryas 2 rfl rfl nd (Dl.names_own T.g_LevyError rfl) tk (fun F1 pw1 pn1 xe1 tk1 hp => (pds_one (pds_ret (pd_call c_over (hr.mono (by decide)) tk1 (pd_cons (pd_var 0) (pd_cons (pd_var 1) pd_nil)))))) (fun FS1 xa1 oe1 cl1 xo1 fs1 pn1 hz1 hv1 xf1 => (pds_one (pds_ret (pd_if (ptw (pw_andd (pt_vald (pd_isE hz1 hv1 xf1 T.b_isinstance (pd_cons (pd_var 2) (pd_cons (pd_glob (v := .ref _) T.g_ZeroAmount rfl (fun _ => .obj)) pd_nil)))) (pw_and1d (pt_notd (pt_vald (pd_isE hz1 hv1 xf1 T.b_isinstance (pd_cons (pd_var 2) (pd_cons (pd_glob (v := .ref _) T.g_FormError rfl (fun _ => .obj)) pd_nil)))))))) pd_str pd_str))))))
/-! ### _law_is_whole -/
theorem sc_law_is_whole : FnScope ["told", "due"] ["told", "due"] (defScope s_law_is_whole) := ⟨rfl, rfl, rfl, by decide +kernel, rfl, by decide +kernel, by decide +kernel⟩
def d_law_is_whole (K : Fg) : DW → DS := fun pw => (dRet (dAnd (dCB f_isi (daCons (dVar 0) (daCons (dC (.ty "int")) daNil))) (dAnd (dUn f_not (dCB f_isi (daCons (dVar 0) (daCons (dC (.ty "bool")) daNil)))) (dBin f_eq (dVar 0) (dVar 1)))))
theorem der_law_is_whole {P : Program} {w : World} {K : Fg} {mg : Str → Option Value} {base : Heap} (T : Tx K mg)  : Der P w K mg base ["told", "due"] "_law_is_whole" s_law_is_whole 0 (d_law_is_whole K) := fun f cdv A outer s H E F pw hr tk hp =>
  have hu := hr.units; have nd := sc_law_is_whole.nd
  (pds_one (pds_ret (pd_and (pd_isi T.b_isinstance (pd_cons (pd_var 0) (pd_cons (pd_ty T.b_int) pd_nil))) (pd_and (pd_not (pd_isi T.b_isinstance (pd_cons (pd_var 0) (pd_cons (pd_ty T.b_bool) pd_nil)))) (pd_one (pd_eq hu (pd_var 0) (pd_var 1)))))))
/-! ### _law_rounded -/
theorem sc_law_rounded : FnScope ["a", "low", "high", "near", "side"] ["a"] (defScope s_law_rounded) := ⟨rfl, rfl, rfl, by decide +kernel, rfl, by decide +kernel, by decide +kernel⟩
def d_law_rounded (K : Fg) : DW → DS := fun pw => (dSeq (dSet 1 (dBin f_fdiv (dBin f_ix (dVar 0) (dC (.int 0))) (dBin f_ix (dVar 0) (dC (.int 1))))) (dSeq (dSet 2 (dIf (dTr (dBin f_eq (dBin f_mul (dVar 1) (dBin f_ix (dVar 0) (dC (.int 1)))) (dBin f_ix (dVar 0) (dC (.int 0))))) (dVar 1) (dBin f_add (dVar 1) (dC (.int 1))))) (dSeq (dSet 3 (dIf (dTr (dBin f_ge (dBin f_mul (dC (.int 2)) (dBin f_ix (dVar 0) (dC (.int 0)))) (dBin f_mul (dBin f_add (dBin f_mul (dC (.int 2)) (dVar 1)) (dC (.int 1))) (dBin f_ix (dVar 0) (dC (.int 1)))))) (dVar 2) (dVar 1))) (dSeq (dSet 4 (dIf (dTr (dBin f_eq (dBin f_ix (dVar 0) (dC (.int 0))) (dC (.int 0)))) (dC (.int 0)) (dIf (dTr (dBin f_gt (dBin f_ix (dVar 0) (dC (.int 0))) (dC (.int 0)))) (dC (.int 1)) (dUn f_neg (dC (.int 1)))))) (dSeq (dIfS (tOrD (tNotD (dTr (dCall (sp_law_is_whole K) pw (daCons (dCall (sp_floor_of K) pw (daCons (dVar 0) daNil)) (daCons (dVar 1) daNil))))) (tNotD (dTr (dCall (sp_law_is_whole K) pw (daCons (dCall (sp_ceiling_of K) pw (daCons (dVar 0) daNil)) (daCons (dVar 2) daNil)))))) (dRet (dC (.bl false))) dNext) (dRet (dAnd (dCall (sp_law_is_whole K) pw (daCons (dCall (sp_nearest K) pw (daCons (dVar 0) daNil)) (daCons (dVar 3) daNil))) (dAnd (dCall (sp_law_is_whole K) pw (daCons (dCall (sp_sign K) pw (daCons (dVar 0) daNil)) (daCons (dVar 4) daNil))) (dBin f_eq (dCall (sp_negated K) pw (daCons (dVar 0) daNil)) (dTup (daCons (dBin f_sub (dC (.int 0)) (dBin f_ix (dVar 0) (dC (.int 0)))) (daCons (dBin f_ix (dVar 0) (dC (.int 1))) daNil))))))))))))
theorem der_law_rounded {P : Program} {w : World} {K : Fg} {mg : Str → Option Value} {base : Heap} (T : Tx K mg) (c_law_is_whole : Cal P w K mg base 1 "_law_is_whole" (sp_law_is_whole K)) (c_floor_of : Cal P w K mg base 1 "floor_of" (sp_floor_of K)) (c_ceiling_of : Cal P w K mg base 1 "ceiling_of" (sp_ceiling_of K)) (c_nearest : Cal P w K mg base 3 "nearest" (sp_nearest K)) (c_sign : Cal P w K mg base 1 "sign" (sp_sign K)) (c_negated : Cal P w K mg base 1 "negated" (sp_negated K)) : Der P w K mg base ["a", "low", "high", "near", "side"] "_law_rounded" s_law_rounded 3 (d_law_rounded K) := fun f cdv A outer s H E F pw hr tk hp =>
  have hu := hr.units; have nd := sc_law_rounded.nd
  (pds_cons (pds_set 1 nd (pd_fdiv (pd_ix hu (pd_var 0) pd_int) (pd_ix hu (pd_var 0) pd_int))) (pds_cons (pds_set 2 nd (pd_if (pt_eq hu (pd_mul (pd_var 1) (pd_ix hu (pd_var 0) pd_int)) (pd_ix hu (pd_var 0) pd_int)) (pd_var 1) (pd_add (pd_var 1) pd_int))) (pds_cons (pds_set 3 nd (pd_if (pt_ge (pd_mul pd_int (pd_ix hu (pd_var 0) pd_int)) (pd_mul (pd_add (pd_mul pd_int (pd_var 1)) pd_int) (pd_ix hu (pd_var 0) pd_int))) (pd_var 2) (pd_var 1))) (pds_cons (pds_set 4 nd (pd_if (pt_eq hu (pd_ix hu (pd_var 0) pd_int) pd_int) pd_int (pd_if (pt_gt (pd_ix hu (pd_var 0) pd_int) pd_int) pd_int (pd_neg pd_int)))) (pds_cons (pds_if (ptw (pw_ord (pt_notd (pt_vald (pd_call c_law_is_whole (hr.mono (by decide)) tk (pd_cons (pd_call c_floor_of (hr.mono (by decide)) tk (pd_cons (pd_var 0) pd_nil)) (pd_cons (pd_var 1) pd_nil))))) (pw_or1d (pt_notd (pt_vald (pd_call c_law_is_whole (hr.mono (by decide)) tk (pd_cons (pd_call c_ceiling_of (hr.mono (by decide)) tk (pd_cons (pd_var 0) pd_nil)) (pd_cons (pd_var 2) pd_nil)))))))) (pds_one (pds_ret pd_bl)) pds_nil) (pds_one (pds_ret (pd_and (pd_call c_law_is_whole (hr.mono (by decide)) tk (pd_cons (pd_call c_nearest (hr.mono (by decide)) tk (pd_cons (pd_var 0) pd_nil)) (pd_cons (pd_var 3) pd_nil))) (pd_and (pd_call c_law_is_whole (hr.mono (by decide)) tk (pd_cons (pd_call c_sign (hr.mono (by decide)) tk (pd_cons (pd_var 0) pd_nil)) (pd_cons (pd_var 4) pd_nil))) (pd_one (pd_eq hu (pd_call c_negated (hr.mono (by decide)) tk (pd_cons (pd_var 0) pd_nil)) (pd_tup (pd_cons (pd_sub pd_int (pd_ix hu (pd_var 0) pd_int)) (pd_cons (pd_ix hu (pd_var 0) pd_int) pd_nil))))))))))))))
/-! ### _law_pair -/
theorem sc_law_pair : FnScope ["a", "b", "told", "left", "right", "both"] ["a", "b"] (defScope s_law_pair) := ⟨rfl, rfl, rfl, by decide +kernel, rfl, by decide +kernel, by decide +kernel⟩
def d_law_pair (K : Fg) : DW → DS := fun pw => (dSeq (dPar3 3 4 5 (daCons (dBin f_mul (dBin f_ix (dVar 0) (dC (.int 0))) (dBin f_ix (dVar 1) (dC (.int 1)))) (daCons (dBin f_mul (dBin f_ix (dVar 1) (dC (.int 0))) (dBin f_ix (dVar 0) (dC (.int 1)))) (daCons (dBin f_mul (dBin f_ix (dVar 0) (dC (.int 1))) (dBin f_ix (dVar 1) (dC (.int 1)))) daNil)))) (dSeq (dIfS (tOrD (dTr (dBin f_ne (dCall (sp_plus K) pw (daCons (dVar 0) (daCons (dVar 1) daNil))) (dCall (sp_law_lowest K) pw (daCons (dBin f_add (dVar 3) (dVar 4)) (daCons (dVar 5) daNil))))) (dTr (dBin f_ne (dCall (sp_minus K) pw (daCons (dVar 0) (daCons (dVar 1) daNil))) (dCall (sp_law_lowest K) pw (daCons (dBin f_sub (dVar 3) (dVar 4)) (daCons (dVar 5) daNil)))))) (dRet (dC (.bl false))) dNext) (dSeq (dIfS (dTr (dBin f_ne (dCall (sp_times K) pw (daCons (dVar 0) (daCons (dVar 1) daNil))) (dCall (sp_law_lowest K) pw (daCons (dBin f_mul (dBin f_ix (dVar 0) (dC (.int 0))) (dBin f_ix (dVar 1) (dC (.int 0)))) (daCons (dVar 5) daNil))))) (dRet (dC (.bl false))) dNext) (dSeq (dIfS (dTr (dBin f_ne (dCall (sp_law_over K) pw (daCons (dVar 0) (daCons (dVar 1) daNil))) (dIf (dTr (dBin f_eq (dBin f_ix (dVar 1) (dC (.int 0))) (dC (.int 0)))) (dC (.str "zero")) (dCall (sp_law_lowest K) pw (daCons (dVar 3) (daCons (dVar 4) daNil)))))) (dRet (dC (.bl false))) dNext) (dSeq (dSet 2 (dCall (sp_below K) pw (daCons (dVar 0) (daCons (dVar 1) daNil)))) (dSeq (dIfS (tOrD (tNotD (dTr (dCB f_isi (daCons (dVar 2) (daCons (dC (.ty "bool")) daNil))))) (dTr (dBin f_ne (dVar 2) (dBin f_lt (dVar 3) (dVar 4))))) (dRet (dC (.bl false))) dNext) (dRet (dAnd (dBin f_eq (dCall (sp_least K) pw (daCons (dVar 0) (daCons (dVar 1) daNil))) (dIf (dTr (dBin f_lt (dVar 3) (dVar 4))) (dVar 0) (dVar 1))) (dBin f_eq (dCall (sp_most K) pw (daCons (dVar 0) (daCons (dVar 1) daNil))) (dIf (dTr (dBin f_lt (dVar 3) (dVar 4))) (dVar 1) (dVar 0)))))))))))
theorem der_law_pair {P : Program} {w : World} {K : Fg} {mg : Str → Option Value} {base : Heap} (T : Tx K mg) (c_plus : Cal P w K mg base 2 "plus" (sp_plus K)) (c_law_lowest : Cal P w K mg base 1 "_law_lowest" (sp_law_lowest K)) (c_minus : Cal P w K mg base 3 "minus" (sp_minus K)) (c_times : Cal P w K mg base 2 "times" (sp_times K)) (c_law_over : Cal P w K mg base 3 "_law_over" (sp_law_over K)) (c_below : Cal P w K mg base 1 "below" (sp_below K)) (c_least : Cal P w K mg base 2 "least" (sp_least K)) (c_most : Cal P w K mg base 2 "most" (sp_most K)) : Der P w K mg base ["a", "b", "told", "left", "right", "both"] "_law_pair" s_law_pair 3 (d_law_pair K) := fun f cdv A outer s H E F pw hr tk hp =>
  have hu := hr.units; have nd := sc_law_pair.nd
  (pds_cons (pds_par3 3 4 5 rfl nd (pd_cons (pd_mul (pd_ix hu (pd_var 0) pd_int) (pd_ix hu (pd_var 1) pd_int)) (pd_cons (pd_mul (pd_ix hu (pd_var 1) pd_int) (pd_ix hu (pd_var 0) pd_int)) (pd_cons (pd_mul (pd_ix hu (pd_var 0) pd_int) (pd_ix hu (pd_var 1) pd_int)) pd_nil)))) (pds_cons (pds_if (ptw (pw_ord (pt_ne hu (pd_call c_plus (hr.mono (by decide)) tk (pd_cons (pd_var 0) (pd_cons (pd_var 1) pd_nil))) (pd_call c_law_lowest (hr.mono (by decide)) tk (pd_cons (pd_add (pd_var 3) (pd_var 4)) (pd_cons (pd_var 5) pd_nil)))) (pw_or1d (pt_ne hu (pd_call c_minus (hr.mono (by decide)) tk (pd_cons (pd_var 0) (pd_cons (pd_var 1) pd_nil))) (pd_call c_law_lowest (hr.mono (by decide)) tk (pd_cons (pd_sub (pd_var 3) (pd_var 4)) (pd_cons (pd_var 5) pd_nil))))))) (pds_one (pds_ret pd_bl)) pds_nil) (pds_cons (pds_if (pt_ne hu (pd_call c_times (hr.mono (by decide)) tk (pd_cons (pd_var 0) (pd_cons (pd_var 1) pd_nil))) (pd_call c_law_lowest (hr.mono (by decide)) tk (pd_cons (pd_mul (pd_ix hu (pd_var 0) pd_int) (pd_ix hu (pd_var 1) pd_int)) (pd_cons (pd_var 5) pd_nil)))) (pds_one (pds_ret pd_bl)) pds_nil) (pds_cons (pds_if (pt_ne hu (pd_call c_law_over (hr.mono (by decide)) tk (pd_cons (pd_var 0) (pd_cons (pd_var 1) pd_nil))) (pd_if (pt_eq hu (pd_ix hu (pd_var 1) pd_int) pd_int) pd_str (pd_call c_law_lowest (hr.mono (by decide)) tk (pd_cons (pd_var 3) (pd_cons (pd_var 4) pd_nil))))) (pds_one (pds_ret pd_bl)) pds_nil) (pds_cons (pds_set 2 nd (pd_call c_below (hr.mono (by decide)) tk (pd_cons (pd_var 0) (pd_cons (pd_var 1) pd_nil)))) (pds_cons (pds_if (ptw (pw_ord (pt_notd (pt_vald (pd_isi T.b_isinstance (pd_cons (pd_var 2) (pd_cons (pd_ty T.b_bool) pd_nil))))) (pw_or1d (pt_ne hu (pd_var 2) (pd_lt (pd_var 3) (pd_var 4)))))) (pds_one (pds_ret pd_bl)) pds_nil) (pds_one (pds_ret (pd_and (pd_eq hu (pd_call c_least (hr.mono (by decide)) tk (pd_cons (pd_var 0) (pd_cons (pd_var 1) pd_nil))) (pd_if (pt_lt (pd_var 3) (pd_var 4)) (pd_var 0) (pd_var 1))) (pd_one (pd_eq hu (pd_call c_most (hr.mono (by decide)) tk (pd_cons (pd_var 0) (pd_cons (pd_var 1) pd_nil))) (pd_if (pt_lt (pd_var 3) (pd_var 4)) (pd_var 1) (pd_var 0)))))))))))))
/-! ### law -/
theorem sc_law : FnScope ["script", "state", "turn", "a", "b", "n", "d"] ["script"] (defScope s_law) := ⟨rfl, rfl, rfl, by decide +kernel, rfl, by decide +kernel, by decide +kernel⟩
def d_law (K : Fg) : DW → DS := fun pw => (dSeq (dSet 1 (dCall (sp_law_draws K) pw (daCons (dBin f_add (dSl false (dVar 0) doNone (doSome (dC (.int 8)))) (dLst (daCons (dC (.int 10)) daNil))) daNil))) (dSeq (dFor (diRng1 (daCons (dC (.int 20)) daNil)) (dgName 2) (dSeq (dSet 3 (dCall (sp_law_some K) pw (daCons (dVar 1) daNil))) (dSeq (dSet 4 (dCall (sp_law_near K) pw (daCons (dVar 1) (daCons (dVar 3) daNil)))) (dSeq (dIfS (tOrD (tNotD (dTr (dCall (sp_law_rounded K) pw (daCons (dVar 3) daNil)))) (tOrD (tNotD (dTr (dCall (sp_law_pair K) pw (daCons (dVar 3) (daCons (dVar 4) daNil))))) (tNotD (dTr (dCall (sp_law_pair K) pw (daCons (dVar 4) (daCons (dVar 3) daNil))))))) (dRet (dC (.bl false))) dNext) (dSeq (dPar 5 6 (daCons (dCall (sp_law_whole K) pw (daCons (dVar 1) daNil)) (daCons (dCall (sp_law_pick K) pw (daCons (dVar 1) (daCons (dLst (daCons (dC (.int 0)) (daCons (dC (.int 1)) (daCons (dUn f_neg (dC (.int 1))) (daCons (dCall (sp_law_whole K) pw (daCons (dVar 1) daNil)) (daCons (dCall (sp_law_whole K) pw (daCons (dVar 1) daNil)) daNil)))))) daNil))) daNil))) (dIfS (dTr (dBin f_ne (dCall (sp_law_made K) pw (daCons (dVar 5) (daCons (dVar 6) daNil))) (dIf (dTr (dBin f_eq (dVar 6) (dC (.int 0)))) (dC (.str "zero")) (dCall (sp_law_lowest K) pw (daCons (dVar 5) (daCons (dVar 6) daNil)))))) (dRet (dC (.bl false))) dNext)))))) (dRet (dC (.bl true)))))
theorem der_law {P : Program} {w : World} {K : Fg} {mg : Str → Option Value} {base : Heap} (T : Tx K mg) (c_law_draws : Cal P w K mg base 2 "_law_draws" (sp_law_draws K)) (c_law_some : Cal P w K mg base 3 "_law_some" (sp_law_some K)) (c_law_near : Cal P w K mg base 4 "_law_near" (sp_law_near K)) (c_law_rounded : Cal P w K mg base 4 "_law_rounded" (sp_law_rounded K)) (c_law_pair : Cal P w K mg base 4 "_law_pair" (sp_law_pair K)) (c_law_pick : Cal P w K mg base 2 "_law_pick" (sp_law_pick K)) (c_law_whole : Cal P w K mg base 2 "_law_whole" (sp_law_whole K)) (c_law_made : Cal P w K mg base 2 "_law_made" (sp_law_made K)) (c_law_lowest : Cal P w K mg base 1 "_law_lowest" (sp_law_lowest K)) : Der P w K mg base ["script", "state", "turn", "a", "b", "n", "d"] "law" s_law 4 (d_law K) := fun f cdv A outer s H E F pw hr tk hp =>
  have hu := hr.units; have nd := sc_law.nd
  (pds_cons (pds_set 1 nd (pd_call c_law_draws (hr.mono (by decide)) tk (pd_cons (pd_add (pd_slice false (pd_var 0) pd_none (pd_some pd_int)) (pd_lst (pd_cons pd_int pd_nil))) pd_nil))) (pds_cons (pds_for hp rfl (pdi_range1 T.b_range (pd_cons pd_int pd_nil)) (pdg_name 2 nd) (pds_cons (pds_set 3 nd (pd_call c_law_some (hr.mono (by decide)) tk (pd_cons (pd_var 1) pd_nil))) (pds_cons (pds_set 4 nd (pd_call c_law_near (hr.mono (by decide)) tk (pd_cons (pd_var 1) (pd_cons (pd_var 3) pd_nil)))) (pds_cons (pds_if (ptw (pw_ord (pt_notd (pt_vald (pd_call c_law_rounded (hr.mono (by decide)) tk (pd_cons (pd_var 3) pd_nil)))) (pw_ord (pt_notd (pt_vald (pd_call c_law_pair (hr.mono (by decide)) tk (pd_cons (pd_var 3) (pd_cons (pd_var 4) pd_nil))))) (pw_or1d (pt_notd (pt_vald (pd_call c_law_pair (hr.mono (by decide)) tk (pd_cons (pd_var 4) (pd_cons (pd_var 3) pd_nil))))))))) (pds_one (pds_ret pd_bl)) pds_nil) (pds_cons (pds_par 5 6 rfl nd (pd_cons (pd_call c_law_whole (hr.mono (by decide)) tk (pd_cons (pd_var 1) pd_nil)) (pd_cons (pd_call c_law_pick (hr.mono (by decide)) tk (pd_cons (pd_var 1) (pd_cons (pd_lst (pd_cons pd_int (pd_cons pd_int (pd_cons (pd_neg pd_int) (pd_cons (pd_call c_law_whole (hr.mono (by decide)) tk (pd_cons (pd_var 1) pd_nil)) (pd_cons (pd_call c_law_whole (hr.mono (by decide)) tk (pd_cons (pd_var 1) pd_nil)) pd_nil)))))) pd_nil))) pd_nil))) (pds_one (pds_if (pt_ne hu (pd_call c_law_made (hr.mono (by decide)) tk (pd_cons (pd_var 5) (pd_cons (pd_var 6) pd_nil))) (pd_if (pt_eq hu (pd_var 6) pd_int) pd_str (pd_call c_law_lowest (hr.mono (by decide)) tk (pd_cons (pd_var 5) (pd_cons (pd_var 6) pd_nil))))) (pds_one (pds_ret pd_bl)) pds_nil))))))) (pds_one (pds_ret pd_bl))))
end K10

namespace K10
open Dl PySem PySem.Spec PyProof.Rows L2
local macro_rules | `(tactic| walk_at "dl") => `(tactic| simp only [dVar, dC, dBin, dUn, dTr, dIf, tAndD, tOrD, tNotD, dAnd, dOr, daNil, daCons, dTup, dLst, dLstC, add_ii, add_ss, add_ll, add_tt, sub_ii, sub_bb, mul_ii, fdiv_ii, mod_ii, pow_ii, shl_ii, neg_i, lt_ii, le_ii, gt_ii, ge_ii, not_b, abs_i, max_ii, min_ii, int_i, int_b, gcd_ii, len_l, len_r, len_t, len_s, len_o, app_o, ty_o, isi_i, isi_b, isi_s, isi_n, isi_t, isi_l, isi_r, sl_l, sl_r, sl_fl, sl_fr, f_is, Dl.isNon, ix_t0, ix_t1, ix_num, ix_at, set_at, eq_ii, ne_ii, eq_bb, ne_bb, eq_ss, ne_ss, eq_aa, ne_aa, dSl, doNone, doSome, dNewK, dNewT, dDisp, dPairs, pairsK, keyD, dCB, dMt, dMt0, dNext, dSeq, dBrk, dCnt, dDrop, dRet, dRetN, dIfS, dgName, dgTup, dgCons, dgNil, dAsg, dSet, dPar, dPar3, dgSub, dCall, dCall0, sp0_app, sp1_app, sp2_app, sp3_app, sp4_app, sp5_app, sp6_app, dRaise, dEndsN, dFrz, dFor, diList, diRng1, diRng2, diTup, dWhileI, List.set_cons_zero, List.set_cons_succ, List.getElem?_cons_zero, List.getElem?_cons_succ, List.length_cons, List.length_nil, st_same, decide_eq_true_eq, b2i, true_and, if_true, if_false, decide_true, decide_false, and_self, eq_self, Bool.not_true, Bool.not_false, Bool.false_eq_true, Bool.true_eq_false])
theorem gcd_div {n d : Int} (h : d ≠ 0) (hd : Sm 4000 d) : DivOk (Nat.gcd n.natAbs d.natAbs : Int) :=
  Sm.cdiv (k := 4000) (hd.le (by rw [Int.natAbs_natCast]; exact Nat.gcd_le_right _ (Int.natAbs_pos.mpr h))) (by exact_mod_cast gcd_pos h)

theorem hs_amount {K : Fg} (Z : Zx K) (a0 a1 : D) (M : Mem) (post : D → Mem → Prop) (pox : DX → Mem → Prop) (h : w_amount K a0 a1 M post pox) : d_amount K (fun x _ M => pox x M) { nx := fun _ M => post .non M, rt := post } [some a0, some a1, none] M := by
  unfold d_amount
  obtain ⟨n, d, rfl, rfl, hn, hd, h0, h1⟩ := h
  walk_at "dl"
  by_cases e0 : d = 0
  · simp only [e0, decide_true, if_true]; exact h0 e0
  · have p1 := h1 e0
    simp only [e0, decide_false, Int.natAbs_neg]
    rw [if_neg (fun z => z)]
    unfold low at p1
    by_cases hs : d < 0
    · rw [if_pos hs]
      rw [if_pos hs] at p1
      exact ⟨gcd_div e0 hd, gcd_div e0 hd, by decide, p1⟩
    · rw [if_neg hs]
      rw [if_neg hs] at p1
      exact ⟨gcd_div e0 hd, gcd_div e0 hd, by decide, p1⟩
theorem hs_plus {K : Fg} (Z : Zx K) (a0 a1 : D) (M : Mem) (post : D → Mem → Prop) (pox : DX → Mem → Prop) (h : w_plus K a0 a1 M post pox) : d_plus K (fun x _ M => pox x M) { nx := fun _ M => post .non M, rt := post } [some a0, some a1] M := by
  unfold d_plus
  obtain ⟨n, d, m, e, rfl, rfl, hn, hd, hm, he, pd, pe, h⟩ := h
  walk_at "dl"
  have p := Int.mul_pos pd pe
  exact ⟨hn.cmul he, hm.cmul hd, hd.cmul he, _, _, rfl, rfl, ((hn.mul he).add (hm.mul hd)).up (by decide), (hd.mul he).up (by decide), fun z => by omega, fun _ => h⟩
theorem hs_negated {K : Fg} (Z : Zx K) (a0 : D) (M : Mem) (post : D → Mem → Prop) (pox : DX → Mem → Prop) (h : w_negated K a0 M post pox) : d_negated K (fun x _ M => pox x M) { nx := fun _ M => post .non M, rt := post } [some a0] M := by
  unfold d_negated
  obtain ⟨n, d, rfl, h⟩ := h
  walk_at "dl"
  exact ⟨by decide, h⟩
theorem hs_minus {K : Fg} (Z : Zx K) (a0 a1 : D) (M : Mem) (post : D → Mem → Prop) (pox : DX → Mem → Prop) (h : w_minus K a0 a1 M post pox) : d_minus K (fun x _ M => pox x M) { nx := fun _ M => post .non M, rt := post } [some a0, some a1] M := by
  unfold d_minus
  obtain ⟨n, d, m, e, rfl, rfl, hn, hd, hm, he, pd, pe, h⟩ := h
  walk_at "dl"
  refine ⟨m, e, rfl, n, d, -m, e, rfl, rfl, hn, hd, hm.neg, he, pd, pe, ?_⟩
  rw [Int.neg_mul, ← Int.sub_eq_add_neg]
  exact h
theorem hs_times {K : Fg} (Z : Zx K) (a0 a1 : D) (M : Mem) (post : D → Mem → Prop) (pox : DX → Mem → Prop) (h : w_times K a0 a1 M post pox) : d_times K (fun x _ M => pox x M) { nx := fun _ M => post .non M, rt := post } [some a0, some a1] M := by
  unfold d_times
  obtain ⟨n, d, m, e, rfl, rfl, hn, hd, hm, he, pd, pe, h⟩ := h
  walk_at "dl"
  have p := Int.mul_pos pd pe
  exact ⟨hn.cmul hm, hd.cmul he, _, _, rfl, rfl, (hn.mul hm).up (by decide), (hd.mul he).up (by decide), fun z => by omega, fun _ => h⟩
theorem hs_over {K : Fg} (Z : Zx K) (a0 a1 : D) (M : Mem) (post : D → Mem → Prop) (pox : DX → Mem → Prop) (h : w_over K a0 a1 M post pox) : d_over K (fun x _ M => pox x M) { nx := fun _ M => post .non M, rt := post } [some a0, some a1] M := by
  unfold d_over
  obtain ⟨n, d, m, e, rfl, rfl, hn, hd, hm, he, pd, pe, h0, h1⟩ := h
  walk_at "dl"
  refine ⟨hn.cmul he, hd.cmul hm, _, _, rfl, rfl, (hn.mul he).up (by decide), (hd.mul hm).up (by decide), fun z => h0 ?_, fun z => h1 fun e => z (by rw [e, Int.mul_zero])⟩
  rcases Int.mul_eq_zero.mp z with z | z
  · omega
  · exact z
theorem hs_sign {K : Fg} (Z : Zx K) (a0 : D) (M : Mem) (post : D → Mem → Prop) (pox : DX → Mem → Prop) (h : w_sign K a0 M post pox) : d_sign K (fun x _ M => pox x M) { nx := fun _ M => post .non M, rt := post } [some a0] M := by
  unfold d_sign
  obtain ⟨n, d, rfl, h⟩ := h
  walk_at "dl"
  have e : ((if 0 < n then 1 else 0) - if n < 0 then 1 else 0 : Int) = if n = 0 then 0 else if 0 < n then 1 else -1 := by
    split <;> split <;> split <;> omega
  rw [e]
  exact h
theorem hs_below {K : Fg} (Z : Zx K) (a0 a1 : D) (M : Mem) (post : D → Mem → Prop) (pox : DX → Mem → Prop) (h : w_below K a0 a1 M post pox) : d_below K (fun x _ M => pox x M) { nx := fun _ M => post .non M, rt := post } [some a0, some a1] M := by
  unfold d_below
  obtain ⟨n, d, m, e, rfl, rfl, hn, hd, hm, he, h⟩ := h
  walk_at "dl"
  exact ⟨hn.cmul he, hm.cmul hd, h⟩
theorem hs_least {K : Fg} (Z : Zx K) (a0 a1 : D) (M : Mem) (post : D → Mem → Prop) (pox : DX → Mem → Prop) (h : w_least K a0 a1 M post pox) : d_least K (fun x _ M => pox x M) { nx := fun _ M => post .non M, rt := post } [some a0, some a1] M := by
  unfold d_least
  obtain ⟨n, d, m, e, rfl, rfl, hn, hd, hm, he, h⟩ := h
  walk_at "dl"
  refine ⟨m, e, n, d, rfl, rfl, hm, he, hn, hd, ?_⟩
  by_cases q : m * d < n * e
  · simp only [q, decide_true, if_true] at h ⊢; exact h
  · simp only [q, decide_false, if_false] at h ⊢; exact h
theorem hs_most {K : Fg} (Z : Zx K) (a0 a1 : D) (M : Mem) (post : D → Mem → Prop) (pox : DX → Mem → Prop) (h : w_most K a0 a1 M post pox) : d_most K (fun x _ M => pox x M) { nx := fun _ M => post .non M, rt := post } [some a0, some a1] M := by
  unfold d_most
  obtain ⟨n, d, m, e, rfl, rfl, hn, hd, hm, he, h⟩ := h
  walk_at "dl"
  refine ⟨n, d, m, e, rfl, rfl, hn, hd, hm, he, ?_⟩
  by_cases q : n * e < m * d
  · simp only [q, decide_true, if_true] at h ⊢; exact h
  · simp only [q, decide_false, if_false] at h ⊢; exact h
theorem hs_floor_of {K : Fg} (Z : Zx K) (a0 : D) (M : Mem) (post : D → Mem → Prop) (pox : DX → Mem → Prop) (h : w_floor_of K a0 M post pox) : d_floor_of K (fun x _ M => pox x M) { nx := fun _ M => post .non M, rt := post } [some a0] M := by
  unfold d_floor_of
  obtain ⟨n, d, rfl, p, hd, h⟩ := h
  walk_at "dl"
  exact ⟨hd.cdiv p, h⟩
theorem hs_ceiling_of {K : Fg} (Z : Zx K) (a0 : D) (M : Mem) (post : D → Mem → Prop) (pox : DX → Mem → Prop) (h : w_ceiling_of K a0 M post pox) : d_ceiling_of K (fun x _ M => pox x M) { nx := fun _ M => post .non M, rt := post } [some a0] M := by
  unfold d_ceiling_of
  obtain ⟨n, d, rfl, p, hd, h⟩ := h
  walk_at "dl"
  exact ⟨hd.cdiv p, h⟩
theorem hs_nearest {K : Fg} (Z : Zx K) (a0 : D) (M : Mem) (post : D → Mem → Prop) (pox : DX → Mem → Prop) (h : w_nearest K a0 M post pox) : d_nearest K (fun x _ M => pox x M) { nx := fun _ M => post .non M, rt := post } [some a0] M := by
  unfold d_nearest
  obtain ⟨n, d, rfl, p, hn, hd, h⟩ := h
  walk_at "dl"
  have h2 : Sm 1000 (d * 2) ∨ True := .inr trivial
  have ps : 0 < d * 2 := by omega
  obtain ⟨g, _, _, L⟩ := low_of (n := n * 2 + 1 * d) (d := d * 2) (by omega)
  refine ⟨by decide, n, d, 1, 2, rfl, rfl, hn, hd, .lit (by decide), .lit (by decide), p, by decide, _, _, rfl, L.pos, ?_, ?_⟩
  · exact Sm.le ((hd.mul (.lit (k := 2) (by decide) : Sm 2 2)).up (by decide)) (low_dvd (by omega)).2
  · rw [low_floor ps]
    exact h
theorem hs_law_draw {K : Fg} (Z : Zx K) (a0 a1 a2 : D) (M : Mem) (post : D → Mem → Prop) (pox : DX → Mem → Prop) (h : w_law_draw K a0 a1 a2 M post pox) : d_law_draw K (fun x _ M => pox x M) { nx := fun _ M => post .non M, rt := post } [some a0, some a1, some a2, none, none, none, none] M := by
  unfold d_law_draw
  obtain ⟨cell, many, bound, rfl, rfl, rfl, h0, h1, pb, sb, h⟩ := h
  walk_at "dl"
  have hsz : (1000 : Nat) < sizeLine := by decide
  refine ⟨by decide, fun p hp => ⟨⟨by decide, by decide, by decide⟩, ?_⟩⟩
  split
  · refine ⟨⟨by omega, by omega⟩, dForL_inv (fun i ρ M' => ∃ (c : Int) (ns : List Int) (v4 v5 v6 : Option D), ρ = [some (.int c), some (.int many), some (.int bound), some (.obj p), v4, v5, v6] ∧ M' = Dl.st M p (.lst (ns.map D.int)) ∧ ns.length = i) (fun _ _ _ _ => trivial) ?_ ?_ ⟨cell, [], none, none, none, rfl, rfl, rfl⟩⟩
    · rintro i d ρ M' e ⟨c, ns, v4, v5, v6, rfl, rfl, hl⟩ nx k
      obtain ⟨rfl, hi⟩ := range_item e
      walk_at "dl"
      refine ⟨pb, by rw [List.length_map]; omega, sb.cdiv pb, k _ _ ⟨_, ns ++ [c % bound], _, _, _, rfl, ?_, by rw [List.length_append, hl]; rfl⟩⟩
      rw [List.map_append]; rfl
    · rintro ρ M' ⟨c, ns, v4, v5, v6, rfl, rfl, hl⟩
      walk_at "dl"
      rw [rm_st hp]
      exact h ns (by rw [hl, range_len]; omega)
  · refine ⟨by decide, ⟨by omega, by omega⟩, dForL_inv (fun i ρ M' => ∃ (c s : Int) (ns : List Int) (v5 v6 : Option D), ρ = [some (.int c), some (.int many), some (.int bound), some (.obj p), some (.int s), v5, v6] ∧ M' = Dl.st M p (.lst (ns.map D.int)) ∧ ns.length = i ∧ Sm 40 s) (fun _ _ _ _ => trivial) ?_ ?_ ⟨cell, _, [], none, none, rfl, rfl, rfl, ?_⟩⟩
    · rintro i d ρ M' e ⟨c, s, ns, v5, v6, rfl, rfl, hl, hs⟩ nx k
      obtain ⟨rfl, hi⟩ := range_item e
      walk_at "dl"
      have hi2 : Sm 40 (0 + (i : Int)) := by unfold Sm; omega
      refine ⟨hs.cmul (.lit (k := 20) (by decide)), by decide, ?_, ?_, by decide, ⟨by decide, by decide⟩, pb, by rw [List.length_map]; omega, k _ _ ⟨_, _, ns ++ [((s * 48271 + 12345 + (0 + (i : Int))) % 2147483647 * 69621 + 977 * (0 + (i : Int))) % 2147483629 / 3 % bound], _, _, rfl, ?_, by rw [List.length_append, hl]; rfl, ?_⟩⟩
      · exact Sm.cmul (k := 40) (l := 20) (by unfold Sm; omega) (.lit (by decide))
      · exact Sm.cmul (k := 10) (l := 40) (.lit (by decide)) hi2
      · rw [List.map_append]; rfl
      · unfold Sm; omega
    · rintro ρ M' ⟨c, s, ns, v5, v6, rfl, rfl, hl, hs⟩
      walk_at "dl"
      rw [rm_st hp]
      exact h ns (by rw [hl, range_len]; omega)
    · unfold Sm; omega
theorem hs_law_draws {K : Fg} (Z : Zx K) (a0 : D) (M : Mem) (post : D → Mem → Prop) (pox : DX → Mem → Prop) (h : w_law_draws K a0 M post pox) : d_law_draws K (fun x _ M => pox x M) { nx := fun _ M => post .non M, rt := post } [some a0, none, none] M := by
  unfold d_law_draws
  obtain ⟨cells, rfl, hl, hn, h⟩ := h
  walk_at "dl"
  refine ⟨by decide, dForL_inv (fun i ρ M' => ∃ (ns : List Int) (v2 : Option D), ρ = [some (.lst (cells.map D.int)), some (.lst (ns.map D.int)), v2] ∧ M' = M ∧ ns.length = 40 * i) (fun _ _ _ _ => trivial) ?_ ?_ ⟨[], none, rfl, rfl, rfl⟩⟩
  · rintro i d ρ M' e ⟨ns, v2, rfl, rfl, hl2⟩ nx k
    obtain ⟨c, hc, e2, rfl⟩ := map_item e
    have hi := (List.getElem?_eq_some_iff.mp e2).1
    walk_at "dl"
    refine ⟨⟨by decide, by decide, by decide⟩, c, 40, _, rfl, rfl, rfl, by decide, by decide, by decide, .lit (by decide), fun ms hm => ?_⟩
    walk_at "dl"
    have hm2 : ms.length = 40 := by omega
    refine ⟨?_, k _ _ ⟨ns ++ ms, _, by rw [List.map_append], rfl, by rw [List.length_append]; omega⟩⟩
    have hsz : (8000 : Nat) < sizeLine := by decide
    rw [List.length_map, List.length_map]
    omega
  · rintro ρ M' ⟨ns, v2, rfl, rfl, hl2⟩
    walk_at "dl"
    rw [List.length_map] at hl2
    have hne : NsOk ns := by
      have := List.length_pos_iff.mpr hn
      exact ⟨by omega, by omega⟩
    refine ⟨by decide, ?_⟩
    exact fun p hp => h p ns hp hne
theorem hs_law_next {K : Fg} (Z : Zx K) (a0 a1 : D) (M : Mem) (post : D → Mem → Prop) (pox : DX → Mem → Prop) (h : w_law_next K a0 a1 M post pox) : d_law_next K (fun x _ M => pox x M) { nx := fun _ M => post .non M, rt := post } [some a0, some a1, none] M := by
  unfold d_law_next
  obtain ⟨p, m, rfl, rfl, ⟨ns, t, e, hn, ht⟩, pm, h⟩ := h
  rw [← st_get e]
  walk_at "dl"
  have hl := hn.pos
  have hl2 := hn.hi
  rw [List.length_map]
  have p0 : (0 : Int) < ns.length := by omega
  refine ⟨p0, ix_ints (Int.emod_nonneg _ (by omega)) (Int.emod_lt_of_pos _ p0) fun n _ => ?_⟩
  walk_at "dl"
  rw [List.length_map]
  refine ⟨Sm.cdiv (k := 20) (by unfold Sm; omega) p0, pm, h _ _ ⟨ns, _, rfl, hn, by omega⟩ (Int.emod_nonneg _ (by omega)) (Int.emod_lt_of_pos _ pm)⟩
theorem hs_law_pick {K : Fg} (Z : Zx K) (a0 a1 : D) (M : Mem) (post : D → Mem → Prop) (pox : DX → Mem → Prop) (h : w_law_pick K a0 a1 M post pox) : d_law_pick K (fun x _ M => pox x M) { nx := fun _ M => post .non M, rt := post } [some a0, some a1] M := by
  unfold d_law_pick
  obtain ⟨p, ds, rfl, rfl, so, hn, h⟩ := h
  walk_at "dl"
  have hl := List.length_pos_iff.mpr hn
  refine ⟨p, _, rfl, rfl, so, by omega, fun M' r ha h0 h1 => ix_mem h0 h1 fun d hd => h M' d ha hd⟩
theorem low_walk {n d : Int} (h0 : d ≠ 0) (g : Int) (hg : g = (Nat.gcd n.natAbs d.natAbs : Int)) : (if d < 0 then (0 - n) / g else n / g) = (low n d).1 ∧ (if d < 0 then (0 - d) / g else d / g) = (low n d).2 := by
  unfold low
  subst hg
  by_cases hd : d < 0
  · simp only [hd, if_true, Int.zero_sub, and_self]
  · simp only [hd, if_false, and_self]

theorem hs_law_lowest {K : Fg} (Z : Zx K) (a0 a1 : D) (M : Mem) (post : D → Mem → Prop) (pox : DX → Mem → Prop) (h : w_law_lowest K a0 a1 M post pox) : d_law_lowest K (fun x _ M => pox x M) { nx := fun _ M => post .non M, rt := post } [some a0, some a1, none, none] M := by
  unfold d_law_lowest
  obtain ⟨n, d, rfl, rfl, h0, hn, hd, h⟩ := h
  walk_at "dl"
  obtain ⟨e1, e2⟩ := low_walk (n := n) h0 _ rfl
  have hgp := gcd_pos (n := n) h0
  have hgl : Nat.gcd n.natAbs d.natAbs ≤ d.natAbs := Nat.gcd_le_right _ (Int.natAbs_pos.mpr h0)
  have core : ∀ n' d' : Int, n'.natAbs = n.natAbs → d'.natAbs = d.natAbs → 0 < d' → post (Am (n' / (Nat.gcd n.natAbs d.natAbs : Int)) (d' / (Nat.gcd n.natAbs d.natAbs : Int))) M →
      ∃ I : Nat → Rho → Mem → Prop, (∃ k, I k [some (.int n'), some (.int d'), some (.int (if n' < 0 then -n' else n')), some (.int d')] M) ∧ ∀ k ρ M', I k ρ M' → ∀ nx : Rho → Mem → Prop, (∀ m ρ' M'', m < k → I m ρ' M'' → nx ρ' M'') →
        (dTr (dBin f_gt (dVar 3) (dC (.int 0)))) ρ M' fun b M1 => if b = true then dPar 2 3 (daCons (dVar 3) (daCons (dBin f_mod (dCB f_int (daCons (dVar 2) daNil)) (dVar 3)) daNil)) { nx := nx, rt := post, ct := nx, bk := dRet (dTup (daCons (dBin f_fdiv (dVar 0) (dVar 2)) (daCons (dBin f_fdiv (dVar 1) (dVar 2)) daNil))) { nx := fun _ M => post .non M, rt := post } } ρ M1
          else dRet (dTup (daCons (dBin f_fdiv (dVar 0) (dVar 2)) (daCons (dBin f_fdiv (dVar 1) (dVar 2)) daNil))) { nx := fun _ M => post .non M, rt := post } ρ M1 := by
    intro n' d' en ed pd hq
    refine ⟨fun k ρ M' => ∃ a b : Int, ρ = [some (.int n'), some (.int d'), some (.int a), some (.int b)] ∧ M' = M ∧ 0 ≤ a ∧ 0 ≤ b ∧ b.toNat = k ∧ Nat.gcd a.toNat b.toNat = Nat.gcd n.natAbs d.natAbs, ⟨d'.toNat, _, d', rfl, rfl, by split <;> omega, by omega, rfl, ?_⟩, ?_⟩
    · have x1 : (if n' < 0 then -n' else n').toNat = n.natAbs := by split <;> omega
      have x2 : d'.toNat = d.natAbs := by omega
      rw [x1, x2]
    · rintro k ρ M' ⟨a, b, rfl, rfl, ha, hb, hk, hg⟩ nx ih
      walk_at "dl"
      by_cases q : 0 < b
      · simp only [q, decide_true, if_true]
        refine ⟨trivial, ih (a % b).toNat _ _ ?_ ⟨b, a % b, rfl, rfl, hb, Int.emod_nonneg _ (by omega), rfl, ?_⟩⟩
        · have := Int.emod_lt_of_pos a q
          have := Int.emod_nonneg a (b := b) (by omega)
          omega
        · rw [← hg, Int.toNat_emod ha hb, Nat.gcd_comm a.toNat, Nat.gcd_rec b.toNat a.toNat, Nat.gcd_comm]
      · simp only [q, decide_false]
        have b0 : b = 0 := by omega
        subst b0
        have ea : a = (Nat.gcd n.natAbs d.natAbs : Int) := by
          rw [← hg]
          show a = (Nat.gcd a.toNat 0 : Int)
          rw [Nat.gcd_zero_right]
          omega
        subst ea
        have dv : DivOk (Nat.gcd n.natAbs d.natAbs : Int) := Sm.cdiv (k := 4000) (hd.le (by rw [Int.natAbs_natCast]; exact hgl)) (by omega)
        exact ⟨dv, dv, by decide, hq⟩
  by_cases hs : d < 0
  · simp only [hs, if_true] at e1 e2 ⊢
    exact core _ _ (by omega) (by omega) (by omega) (by rw [e1, e2]; exact h)
  · simp only [hs, if_false] at e1 e2 ⊢
    exact core _ _ rfl rfl (by omega) (by rw [e1, e2]; exact h)
theorem sm20 {r : Int} (l : 0 ≤ r) (u : r < 1 * 2 ^ Int.toNat 20) : Sm 20 r := by
  have e : (1 * 2 ^ Int.toNat 20 : Int) = 1048576 := by decide
  rw [e] at u
  unfold Sm; omega
theorem big_eq : big = 1000000000000000000 := by decide
theorem Wh.sm {n : Int} (h : Wh n) : Sm 60 n := by
  have h1 := h.lo; have h2 := h.hi
  rw [big_eq] at h1 h2
  unfold Sm; omega

theorem hs_law_whole {K : Fg} (Z : Zx K) (a0 : D) (M : Mem) (post : D → Mem → Prop) (pox : DX → Mem → Prop) (h : w_law_whole K a0 M post pox) : d_law_whole K (fun x _ M => pox x M) { nx := fun _ M => post .non M, rt := post } [some a0, none, none, none] M := by
  unfold d_law_whole
  obtain ⟨p, rfl, so, h⟩ := h
  walk_at "dl"
  refine ⟨p, 5, rfl, rfl, so, by decide, fun M1 r1 a1 l1 u1 => ⟨⟨by decide, by decide, by decide⟩, ⟨by decide, by decide, by decide⟩, by decide, ix_mem l1 u1 fun d hd => ?_⟩⟩
  have hs : ∃ s : Int, d = .int s ∧ 0 < s ∧ s ≤ big := by
    simp only [List.mem_cons, List.not_mem_nil, or_false] at hd
    rcases hd with rfl | rfl | rfl | rfl | rfl <;> exact ⟨_, rfl, by decide, by decide⟩
  obtain ⟨s, rfl, s0, s1⟩ := hs
  refine ⟨⟨by decide, by decide, by decide⟩, p, _, rfl, rfl, a1.so, by decide, fun M2 r2 a2 l2 u2 => ?_⟩
  walk_at "dl"
  refine ⟨⟨by decide, by decide, by decide⟩, (sm20 l2 u2).cmul (.lit (k := 42) (by decide)), ⟨by decide, by decide, by decide⟩, p, _, rfl, rfl, a2.so, by decide, fun M3 r3 a3 l3 u3 => ?_⟩
  walk_at "dl"
  refine ⟨⟨by decide, by decide, by decide⟩, (sm20 l3 u3).cmul (.lit (k := 22) (by decide)), ⟨by decide, by decide, by decide⟩, p, _, rfl, rfl, a3.so, by decide, fun M4 r4 a4 l4 u4 => ?_⟩
  walk_at "dl"
  generalize (r2 * (1 * 2 ^ Int.toNat 40) + r3 * (1 * 2 ^ Int.toNat 20) + r4) = z
  have n0 := Int.emod_nonneg z (b := s) (by omega)
  have n1 := Int.emod_lt_of_pos z s0
  rw [big_eq] at s1
  generalize z % s = n at n0 n1 ⊢
  have w : ∀ m : Int, -1000000000000000000 < m → m < 1000000000000000000 → Wh m := fun m h1 h2 => ⟨by rw [big_eq]; exact h1, by rw [big_eq]; exact h2⟩
  refine ⟨s0, ⟨by decide, by decide⟩, Sm.cmul (k := 60) (l := 20) (by unfold Sm; omega) (.lit (by decide)), ⟨by decide, by decide⟩, Sm.cmul (k := 60) (l := 20) (by unfold Sm; omega) (.lit (by decide)), by decide, p, 4, rfl, rfl, a4.so, by decide, fun M5 r5 a5 l5 u5 => ix_mem l5 u5 fun d hd => ?_⟩
  have aa := (((a1.trans a2).trans a3).trans a4).trans a5
  simp only [List.mem_cons, List.not_mem_nil, or_false] at hd
  rcases hd with rfl | rfl | rfl | rfl
  · exact h _ _ aa (w _ (by omega) (by omega))
  · exact h _ _ aa (w _ (by omega) (by omega))
  · exact h _ _ aa (w _ (by omega) (by omega))
  · exact h _ _ aa (w _ (by omega) (by omega))
theorem gd_low {n d : Int} (h0 : d ≠ 0) (w : Wh n) (l : -big < d) (u : d < big) : Gd (low n d).1 (low n d).2 := by
  obtain ⟨g, _, _, L⟩ := low_of (n := n) h0
  obtain ⟨x, y⟩ := low_dvd (n := n) h0
  have h1 := w.lo; have h2 := w.hi; have h3 := L.pos
  rw [big_eq] at h1 h2 l u
  exact ⟨⟨by rw [big_eq]; omega, by rw [big_eq]; omega⟩, L, by rw [big_eq]; omega⟩

theorem hs_law_some {K : Fg} (Z : Zx K) (a0 : D) (M : Mem) (post : D → Mem → Prop) (pox : DX → Mem → Prop) (h : w_law_some K a0 M post pox) : d_law_some K (fun x _ M => pox x M) { nx := fun _ M => post .non M, rt := post } [some a0, none, none] M := by
  unfold d_law_some
  obtain ⟨p, rfl, so, h⟩ := h
  walk_at "dl"
  refine ⟨p, rfl, so, fun M1 n a1 w1 => ⟨p, rfl, a1.so, fun M2 m a2 w2 => ?_⟩⟩
  walk_at "dl"
  refine ⟨by decide, p, 4, rfl, rfl, a2.so, by decide, fun M3 r3 a3 l3 u3 => ix_mem l3 u3 fun d hd => ?_⟩
  have hs : ∃ s : Int, d = .int s ∧ 0 < s := by
    simp only [List.mem_cons, List.not_mem_nil, or_false] at hd
    rcases hd with rfl | rfl | rfl | rfl
    · exact ⟨_, rfl, by decide⟩
    · exact ⟨_, rfl, by decide⟩
    · exact ⟨_, rfl, by decide⟩
    · exact ⟨_, rfl, by split <;> omega⟩
  obtain ⟨s, rfl, s0⟩ := hs
  walk_at "dl"
  have e18 : (10 ^ Int.toNat 18 - 1 : Int) = 999999999999999999 := by decide
  rw [e18]
  have hk : 0 < (if (999999999999999999 : Int) < s then 999999999999999999 else s) ∧ (if (999999999999999999 : Int) < s then 999999999999999999 else s) ≤ 999999999999999999 := by split <;> omega
  generalize (if (999999999999999999 : Int) < s then 999999999999999999 else s) = k at hk ⊢
  exact ⟨⟨by decide, by decide, by decide⟩, n, k, rfl, rfl, by omega, w1.sm.up (by decide), Sm.up (k := 60) (by unfold Sm; omega) (by decide), h _ _ _ ((a1.trans a2).trans a3) (gd_low (by omega) w1 (by rw [big_eq]; omega) (by rw [big_eq]; omega))⟩
theorem hs_law_near {K : Fg} (Z : Zx K) (a0 a1 : D) (M : Mem) (post : D → Mem → Prop) (pox : DX → Mem → Prop) (h : w_law_near K a0 a1 M post pox) : d_law_near K (fun x _ M => pox x M) { nx := fun _ M => post .non M, rt := post } [some a0, some a1, none] M := by
  unfold d_law_near
  obtain ⟨p, n, d, rfl, rfl, g, so, h⟩ := h
  walk_at "dl"
  have hw := g.w; have hp := g.l.pos; have hh := g.hi
  have w0 := hw.lo; have w1 := hw.hi
  rw [big_eq] at w0 w1 hh
  have sd : Sm 4000 d := Sm.up (k := 60) (by unfold Sm; omega) (by decide)
  obtain ⟨x1, y1⟩ := low_dvd (n := n + 1) (d := d) (by omega)
  obtain ⟨g1, _, _, L1⟩ := low_of (n := n + 1) (d := d) (by omega)
  have p1 := L1.pos
  have G2 : Gd (low (0 - n) d).1 (low (0 - n) d).2 := gd_low (by omega) ⟨by rw [big_eq]; omega, by rw [big_eq]; omega⟩ (by rw [big_eq]; omega) (by rw [big_eq]; omega)
  refine ⟨n + 1, d, rfl, rfl, by omega, Sm.up (k := 60) (by unfold Sm; omega) (by decide), sd, 0 - n, d, rfl, rfl, by omega, Sm.up (k := 60) (by unfold Sm; omega) (by decide), sd, p, rfl, so, fun M1 m e a1 g3 => ⟨by decide, p, 4, rfl, rfl, a1.so, by decide, fun M2 r a2 l u => ix_mem l u fun v hv => ?_⟩⟩
  have aa := a1.trans a2
  have key : ∀ m e : Int, (m.natAbs < 1000000000000000000 → Gd m e) → v = Am m e → f_ix v (.int 0) M2 fun x M1 => f_abs [x] M1 fun x M1 => CPow 10 18 ∧ f_lt x (D.int (10 ^ Int.toNat 18)) M1 fun x M1 => match x with
      | D.bl k => if k = true then post v M1 else post (Am n d) M1
      | x => False := by
    rintro m e gd rfl
    walk_at "dl"
    have e18 : (10 ^ Int.toNat 18 : Int) = 1000000000000000000 := by decide
    rw [e18]
    refine ⟨⟨by decide, by decide, by decide⟩, ?_⟩
    by_cases q : (if m < 0 then -m else m) < 1000000000000000000
    · simp only [q, decide_true, if_true]
      exact h _ _ _ aa (gd (by split at q <;> omega))
    · simp only [q, decide_false]
      exact h _ _ _ aa g
  simp only [List.mem_cons, List.not_mem_nil, or_false] at hv
  rcases hv with rfl | rfl | rfl | rfl
  · exact key _ _ (fun _ => g) rfl
  · exact key _ _ (fun z => ⟨⟨by rw [big_eq]; omega, by rw [big_eq]; omega⟩, L1, by rw [big_eq]; omega⟩) rfl
  · exact key _ _ (fun _ => G2) rfl
  · exact key _ _ (fun _ => g3) rfl
theorem hs_law_made {K : Fg} (Z : Zx K) (a0 a1 : D) (M : Mem) (post : D → Mem → Prop) (pox : DX → Mem → Prop) (h : w_law_made K a0 a1 M post pox) : d_law_made K (fun x _ M => pox x M) { nx := fun _ M => post .non M, rt := post } [some a0, some a1, none] M := by
  unfold d_law_made
  obtain ⟨n, d, rfl, rfl, hn, hd, h0, h1⟩ := h
  unfold dTryAs
  walk_at "dl"
  refine ⟨n, d, rfl, rfl, hn, hd, fun e0 => ⟨true, Z.m_ZeroAmount_LevyError, fun _ a => ?_, fun z => by cases z⟩, h1⟩
  refine ⟨rfl, rfl, _, true, rfl, Z.c_ZeroAmount, Z.t_ZeroAmount_ZeroAmount, ?_⟩
  walk_at "dl"
  refine ⟨rfl, rfl, _, false, rfl, Z.c_ZeroAmount, Z.t_ZeroAmount_FormError, ?_⟩
  walk_at "dl"
  exact h0 e0
theorem hs_law_over {K : Fg} (Z : Zx K) (a0 a1 : D) (M : Mem) (post : D → Mem → Prop) (pox : DX → Mem → Prop) (h : w_law_over K a0 a1 M post pox) : d_law_over K (fun x _ M => pox x M) { nx := fun _ M => post .non M, rt := post } [some a0, some a1, none] M := by
  unfold d_law_over
  obtain ⟨n, d, m, e, rfl, rfl, hn, hd, hm, he, pd, pe, h0, h1⟩ := h
  unfold dTryAs
  walk_at "dl"
  refine ⟨n, d, m, e, rfl, rfl, hn, hd, hm, he, pd, pe, fun e0 => ⟨true, Z.m_ZeroAmount_LevyError, fun _ a => ?_, fun z => by cases z⟩, h1⟩
  refine ⟨rfl, rfl, _, true, rfl, Z.c_ZeroAmount, Z.t_ZeroAmount_ZeroAmount, ?_⟩
  walk_at "dl"
  refine ⟨rfl, rfl, _, false, rfl, Z.c_ZeroAmount, Z.t_ZeroAmount_FormError, ?_⟩
  walk_at "dl"
  exact h0 e0
theorem hs_law_is_whole {K : Fg} (Z : Zx K) (a0 a1 : D) (M : Mem) (post : D → Mem → Prop) (pox : DX → Mem → Prop) (h : w_law_is_whole K a0 a1 M post pox) : d_law_is_whole K (fun x _ M => pox x M) { nx := fun _ M => post .non M, rt := post } [some a0, some a1] M := by
  unfold d_law_is_whole
  obtain ⟨n, m, rfl, rfl, h⟩ := h
  walk_at "dl"
  have e1 : isI "int" "int" = true := by decide
  have e2 : isI "int" "bool" = false := by decide
  rw [e1, e2]
  exact ⟨by decide, by decide, h⟩
theorem ediv_uniq {a d k : Int} (hd : 0 < d) (h1 : k * d ≤ a) (h2 : a < k * d + d) : a / d = k := by
  refine Int.le_antisymm ?_ ((Int.le_ediv_iff_mul_le hd).mpr h1)
  exact Int.lt_add_one_iff.mp (Int.ediv_lt_of_lt_mul hd (by rw [Int.add_mul]; omega))
theorem ediv_two {n d : Int} (hd : 0 < d) : n / d * d ≤ n ∧ n < n / d * d + d := ⟨Int.ediv_mul_le n (by omega), by have := Int.lt_ediv_add_one_mul_self n hd; rw [Int.add_mul] at this; omega⟩
theorem ceil_eq {n d : Int} (hd : 0 < d) : -(-n / d) = if n / d * d = n then n / d else n / d + 1 := by
  obtain ⟨h1, h2⟩ := ediv_two (n := n) hd
  split
  · rename_i e
    rw [ediv_uniq (k := -(n / d)) hd (by rw [Int.neg_mul]; omega) (by rw [Int.neg_mul]; omega)]; omega
  · rename_i e
    rw [ediv_uniq (k := -(n / d) - 1) hd (by rw [Int.sub_mul, Int.neg_mul]; omega) (by rw [Int.sub_mul, Int.neg_mul]; omega)]; omega
theorem near_eq {n d : Int} (hd : 0 < d) : (n * 2 + 1 * d) / (d * 2) = if (2 * (n / d) + 1) * d ≤ 2 * n then (if n / d * d = n then n / d else n / d + 1) else n / d := by
  obtain ⟨h1, h2⟩ := ediv_two (n := n) hd
  have e1 : (2 * (n / d) + 1) * d = 2 * (n / d * d) + d := by rw [Int.add_mul, Int.mul_assoc, Int.one_mul]
  have e2 : n / d * (d * 2) = 2 * (n / d * d) := by rw [← Int.mul_assoc, Int.mul_comm _ 2]
  have e3 : (n / d + 1) * (d * 2) = 2 * (n / d * d) + 2 * d := by rw [Int.add_mul, e2]; omega
  rw [e1]
  by_cases c : 2 * (n / d * d) + d ≤ 2 * n
  · rw [if_pos c, if_neg (by omega)]
    exact ediv_uniq (by omega) (by rw [e3]; omega) (by rw [e3]; omega)
  · rw [if_neg c]
    exact ediv_uniq (by omega) (by rw [e2]; omega) (by rw [e2]; omega)
theorem Gd.sn {n d : Int} (g : Gd n d) : Sm 60 n := g.w.sm
theorem Gd.sd {n d : Int} (g : Gd n d) : Sm 60 d := by
  have h1 := g.hi; have h2 := g.l.pos
  rw [big_eq] at h1
  unfold Sm; omega

theorem hs_law_rounded {K : Fg} (Z : Zx K) (a0 : D) (M : Mem) (post : D → Mem → Prop) (pox : DX → Mem → Prop) (h : w_law_rounded K a0 M post pox) : d_law_rounded K (fun x _ M => pox x M) { nx := fun _ M => post .non M, rt := post } [some a0, none, none, none, none] M := by
  unfold d_law_rounded
  obtain ⟨n, d, rfl, g, h⟩ := h
  walk_at "dl"
  have p := g.l.pos
  have sn := g.sn
  have sd := g.sd
  have sq : Sm 60 (n / d) := sn.ediv p
  have ce := ceil_eq (n := n) p
  have ne := near_eq (n := n) p
  refine ⟨sd.cdiv p, sq.cmul sd, ?_⟩
  have c1 : CMulW 2 n := Sm.cmul (k := 2) (.lit (by decide)) sn
  have c2 : CMulW 2 (n / d) := Sm.cmul (k := 2) (.lit (by decide)) sq
  have c3 : CMulW (2 * (n / d) + 1) d := Sm.cmul (k := 63) (((Sm.mul (k := 2) (.lit (by decide)) sq).add (.lit (by decide)))) sd
  have tail : ∀ hi ne si : Int, hi = -(-n / d) → ne = (n * 2 + 1 * d) / (d * 2) → si = (if n = 0 then 0 else if 0 < n then 1 else -1) → w_floor_of K (Am n d) M (fun x M1 => w_law_is_whole K x (D.int (n / d)) M1 (fun x M1 => match x with
      | D.bl k => if (!k) = true then post (D.bl false) M1 else w_ceiling_of K (Am n d) M1 (fun x M1 => w_law_is_whole K x (D.int hi) M1 (fun x M1 => match x with
        | D.bl k => if (!k) = true then post (D.bl false) M1 else w_nearest K (Am n d) M1 (fun x M1 => w_law_is_whole K x (D.int ne) M1 (fun x M1 => match x with
          | D.bl c => if c = true then w_sign K (Am n d) M1 (fun x M1 => w_law_is_whole K x (D.int si) M1 (fun x M1 => match x with
            | D.bl c => if c = true then w_negated K (Am n d) M1 (fun x M1 => 0 + 1 + 1 ≤ sizeLine ∧ f_eq x (D.tup [D.int (0 - n), D.int d]) M1 post) fun x M2 => pox x M2 else post (D.bl false) M1
            | x => False) fun x M2 => pox x M2) fun x M2 => pox x M2 else post (D.bl false) M1
          | x => False) fun x M2 => pox x M2) fun x M2 => pox x M2
        | x => False) fun x M2 => pox x M2) fun x M2 => pox x M2
      | x => False) fun x M2 => pox x M2) fun x M2 => pox x M2 := by
    rintro hi nr si rfl rfl rfl
    refine ⟨n, d, rfl, p, sd.up (by decide), _, _, rfl, rfl, ?_⟩
    walk_at "dl"
    refine ⟨n, d, rfl, p, sd.up (by decide), _, _, rfl, rfl, ?_⟩
    walk_at "dl"
    refine ⟨n, d, rfl, p, sn.up (by decide), sd.up (by decide), _, _, rfl, rfl, ?_⟩
    walk_at "dl"
    refine ⟨n, d, rfl, _, _, rfl, rfl, ?_⟩
    walk_at "dl"
    refine ⟨n, d, rfl, by decide, ?_⟩
    walk_at "dl"
    simp only [Int.zero_sub, and_self, decide_true]
    exact h
  by_cases b1 : n / d * d = n <;> by_cases b2 : (2 * (n / d) + 1) * d ≤ 2 * n <;> by_cases b3 : n = 0 <;> by_cases b4 : 0 < n <;> (first | rw [if_pos b1] | rw [if_neg b1]) <;> refine ⟨c1, c2, c3, ?_⟩ <;> (first | rw [if_pos b2] | rw [if_neg b2]) <;> (first | rw [if_pos b3] | (rw [if_neg b3]; first | rw [if_pos b4] | rw [if_neg b4])) <;>
    exact tail _ _ _ (by rw [ce]; first | rw [if_pos b1] | rw [if_neg b1]) (by rw [ne]; first | rw [if_pos b2, if_pos b1] | rw [if_pos b2, if_neg b1] | rw [if_neg b2]) (by first | rw [if_pos b3] | (rw [if_neg b3]; first | rw [if_pos b4] | rw [if_neg b4]))
theorem hs_law_pair {K : Fg} (Z : Zx K) (a0 a1 : D) (M : Mem) (post : D → Mem → Prop) (pox : DX → Mem → Prop) (h : w_law_pair K a0 a1 M post pox) : d_law_pair K (fun x _ M => pox x M) { nx := fun _ M => post .non M, rt := post } [some a0, some a1, none, none, none, none] M := by
  unfold d_law_pair
  obtain ⟨n, d, m, e, rfl, rfl, g1, g2, h⟩ := h
  walk_at "dl"
  have p := g1.l.pos
  have p' := g2.l.pos
  have pp := Int.mul_pos p p'
  have z1 : Sm 1000 n := g1.sn.up (by decide)
  have z2 : Sm 1000 d := g1.sd.up (by decide)
  have z3 : Sm 1000 m := g2.sn.up (by decide)
  have z4 : Sm 1000 e := g2.sd.up (by decide)
  have q1 : Sm 2000 (n * e) := z1.mul z4
  have q2 : Sm 2000 (m * d) := z3.mul z2
  have q3 : Sm 2000 (d * e) := z2.mul z4
  have q4 : Sm 2000 (n * m) := z1.mul z3
  refine ⟨z1.cmul z4, z3.cmul z2, z2.cmul z4, n, d, m, e, rfl, rfl, z1, z2, z3, z4, p, p', _, _, rfl, rfl, by omega, (q1.add q2).up (by decide), q3.up (by decide), ?_⟩
  walk_at "dl"
  refine ⟨n, d, m, e, rfl, rfl, z1, z2, z3, z4, p, p', _, _, rfl, rfl, by omega, (q1.sub q2).up (by decide), q3.up (by decide), ?_⟩
  walk_at "dl"
  refine ⟨n, d, m, e, rfl, rfl, z1, z2, z3, z4, p, p', z1.cmul z3, _, _, rfl, rfl, by omega, q4.up (by decide), q3.up (by decide), ?_⟩
  walk_at "dl"
  have last : ∀ hb : Str, True → w_below K (Am n d) (Am m e) M (fun v M1 => f_isi [v, D.ty "bool"] M1 fun x M1 => match x with
      | D.bl k => if (!k) = true then post (D.bl false) M1 else f_ne v (D.bl (decide (n * e < m * d))) M1 fun x M1 => match x with
        | D.bl k => if k = true then post (D.bl false) M1 else w_least K (Am n d) (Am m e) M1 (fun x M1 => if n * e < m * d then f_eq x (Am n d) M1 fun x M1 => match x with
            | D.bl c => if c = true then w_most K (Am n d) (Am m e) M1 (fun x M1 => if n * e < m * d then f_eq x (Am m e) M1 post else f_eq x (Am n d) M1 post) fun x M2 => pox x M2 else post (D.bl false) M1
            | x => False
          else f_eq x (Am m e) M1 fun x M1 => match x with
            | D.bl c => if c = true then w_most K (Am n d) (Am m e) M1 (fun x M1 => if n * e < m * d then f_eq x (Am m e) M1 post else f_eq x (Am n d) M1 post) fun x M2 => pox x M2 else post (D.bl false) M1
            | x => False) fun x M2 => pox x M2
        | x => False
      | x => False) fun x M2 => pox x M2 := by
    intro _ _
    refine ⟨n, d, m, e, rfl, rfl, z1, z2, z3, z4, ?_⟩
    walk_at "dl"
    have e1 : isI "bool" "bool" = true := by decide
    rw [e1]
    have e2 : ∀ b : Bool, (b == b) = true := by decide
    simp only [e2, Bool.not_true, Bool.false_eq_true, if_false]
    refine ⟨by decide, n, d, m, e, rfl, rfl, z1, z2, z3, z4, ?_⟩
    have ee : ¬ n * e < m * d → ¬ m * d < n * e → n = m ∧ d = e := fun a b => g1.l.uniq g2.l (by omega)
    by_cases c : n * e < m * d
    · have c' : ¬ m * d < n * e := by omega
      simp only [c, c', if_true, if_false]
      walk_at "dl"
      refine ⟨n, d, m, e, rfl, rfl, z1, z2, z3, z4, ?_⟩
      simp only [c, if_true]
      walk_at "dl"
      exact h
    · simp only [c, if_false]
      by_cases c' : m * d < n * e
      · simp only [c', if_true]
        walk_at "dl"
        refine ⟨n, d, m, e, rfl, rfl, z1, z2, z3, z4, ?_⟩
        simp only [c, if_false]
        walk_at "dl"
        exact h
      · obtain ⟨rfl, rfl⟩ := ee c c'
        simp only [c', if_false]
        walk_at "dl"
        refine ⟨n, d, n, d, rfl, rfl, z1, z2, z1, z2, ?_⟩
        simp only [c, if_false]
        walk_at "dl"
        exact h
  refine ⟨n, d, m, e, rfl, rfl, z1, z2, z3, z4, p, p', fun m0 => ?_, fun m0 => ?_⟩
  · walk_at "dl"
    rw [if_pos m0]
    refine ⟨by decide +kernel, by decide +kernel, last "" trivial⟩
  · dsimp only
    rw [if_neg m0]
    refine ⟨n * e, m * d, rfl, rfl, ?_, q1.up (by decide), q2.up (by decide), ?_⟩
    · intro z
      rcases Int.mul_eq_zero.mp z with z | z
      · exact m0 z
      · omega
    · rw [Int.mul_comm d m]
      walk_at "dl"
      exact last "" trivial
theorem hs_law {K : Fg} (Z : Zx K) (a0 : D) (M : Mem) (post : D → Mem → Prop) (pox : DX → Mem → Prop) (h : w_law K a0 M post pox) : d_law K (fun x _ M => pox x M) { nx := fun _ M => post .non M, rt := post } [some a0, none, none, none, none, none, none] M := by
  unfold d_law
  obtain ⟨ns, rfl, rfl, h⟩ := h
  walk_at "dl"
  have hc : Dl.cutD (ns.map D.int) none (some 8) ++ [D.int 10] = (Dl.cutD ns none (some 8) ++ [10]).map D.int := by
    unfold Dl.cutD
    simp only [List.length_map, List.map_append, List.map_take, List.map_drop]; rfl
  have hl : (Dl.cutD ns none (some 8)).length ≤ 8 := by
    have := cut_to ns 8
    rw [show (some (8 : Int)) = some ((8 : Nat) : Int) from rfl, this, List.length_take]
    omega
  rw [hc]
  refine ⟨by decide, ?_, _, rfl, by rw [List.length_append]; show _ + 1 ≤ 100; omega, by simp, fun p ms hp ho => ⟨by decide, ?_⟩⟩
  · have : (100 : Nat) < sizeLine := by decide
    have e : (Dl.cutD (ns.map D.int) none (some 8)).length = (Dl.cutD ns none (some 8)).length := by
      unfold Dl.cutD
      simp only [List.length_map, List.length_take, List.length_drop]
    rw [e]; omega
  refine dForL_inv (fun i ρ M' => So M' p ∧ ∃ v2 v3 v4 v5 v6 : Option D, ρ = [some (.ro (ns.map D.int)), some (.obj p), v2, v3, v4, v5, v6]) (fun _ _ _ _ => trivial) ?_ ?_ ⟨⟨ms, 0, st_same, ho, by decide⟩, _, _, _, _, _, rfl⟩
  · rintro i d ρ M' e ⟨so, v2, v3, v4, v5, v6, rfl⟩ nx k
    walk_at "dl"
    refine ⟨p, rfl, so, fun M1 n d a1 g1 => ?_⟩
    walk_at "dl"
    refine ⟨p, n, d, rfl, rfl, g1, a1.so, fun M2 m e a2 g2 => ?_⟩
    walk_at "dl"
    refine ⟨n, d, rfl, g1, ?_⟩
    walk_at "dl"
    refine ⟨n, d, m, e, rfl, rfl, g1, g2, ?_⟩
    walk_at "dl"
    refine ⟨m, e, n, d, rfl, rfl, g2, g1, ?_⟩
    walk_at "dl"
    refine ⟨p, rfl, a2.so, fun M3 n3 a3 w3 => ?_⟩
    walk_at "dl"
    refine ⟨p, rfl, a3.so, fun M4 n4 a4 w4 => ⟨p, rfl, a4.so, fun M5 n5 a5 w5 => ?_⟩⟩
    walk_at "dl"
    refine ⟨by decide, p, _, rfl, rfl, a5.so, by simp, fun M6 v a6 hv => ?_⟩
    walk_at "dl"
    have hs : ∃ s : Int, v = .int s ∧ Sm 4000 s := by
      simp only [List.mem_cons, List.not_mem_nil, or_false] at hv
      rcases hv with rfl | rfl | rfl | rfl | rfl
      · exact ⟨_, rfl, .lit (by decide)⟩
      · exact ⟨_, rfl, .lit (by decide)⟩
      · exact ⟨_, rfl, .lit (by decide)⟩
      · exact ⟨_, rfl, w4.sm.up (by decide)⟩
      · exact ⟨_, rfl, w5.sm.up (by decide)⟩
    obtain ⟨s, rfl, hs⟩ := hs
    refine ⟨n3, s, rfl, rfl, w3.sm.up (by decide), hs, fun s0 => ?_, fun s0 => ?_⟩
    · walk_at "dl"
      rw [if_pos s0]
      exact ⟨by decide +kernel, by decide +kernel, k _ _ ⟨a6.so, _, _, _, _, _, rfl⟩⟩
    · walk_at "dl"
      rw [if_neg s0]
      refine ⟨n3, s, rfl, rfl, s0, w3.sm.up (by decide), hs, ?_⟩
      walk_at "dl"
      exact k _ _ ⟨a6.so, _, _, _, _, _, rfl⟩
  · rintro ρ M' ⟨so, v2, v3, v4, v5, v6, rfl⟩
    walk_at "dl"
    exact h M'
section
variable {P : Program} {w : World} {K : Fg} {mg : Str → Option Value} {base : Heap}
theorem cal_amount (T : Tx K mg) : Cal P w K mg base 1 "amount" (sp_amount K) := cal_d T.f_amount sc_amount (fun _ _ _ _ _ _ us hl => match us, hl with | [_, _], _ => rfl) (fun ds M Q E h => len2 h) (d_amount K) (der_amount T ) (fun ds M post pox h => by
  obtain ⟨a0, a1, rfl, h⟩ := h
  exact hs_amount T.z a0 a1 M post pox h)
theorem cal_plus (T : Tx K mg) : Cal P w K mg base 2 "plus" (sp_plus K) := cal_d T.f_plus sc_plus (fun _ _ _ _ _ _ us hl => match us, hl with | [_, _], _ => rfl) (fun ds M Q E h => len2 h) (d_plus K) (der_plus T (cal_amount T)) (fun ds M post pox h => by
  obtain ⟨a0, a1, rfl, h⟩ := h
  exact hs_plus T.z a0 a1 M post pox h)
theorem cal_negated (T : Tx K mg) : Cal P w K mg base 1 "negated" (sp_negated K) := cal_d T.f_negated sc_negated (fun _ _ _ _ _ _ us hl => match us, hl with | [_], _ => rfl) (fun ds M Q E h => len1 h) (d_negated K) (der_negated T ) (fun ds M post pox h => by
  obtain ⟨a0, rfl, h⟩ := h
  exact hs_negated T.z a0 M post pox h)
theorem cal_minus (T : Tx K mg) : Cal P w K mg base 3 "minus" (sp_minus K) := cal_d T.f_minus sc_minus (fun _ _ _ _ _ _ us hl => match us, hl with | [_, _], _ => rfl) (fun ds M Q E h => len2 h) (d_minus K) (der_minus T (cal_plus T) (cal_negated T)) (fun ds M post pox h => by
  obtain ⟨a0, a1, rfl, h⟩ := h
  exact hs_minus T.z a0 a1 M post pox h)
theorem cal_times (T : Tx K mg) : Cal P w K mg base 2 "times" (sp_times K) := cal_d T.f_times sc_times (fun _ _ _ _ _ _ us hl => match us, hl with | [_, _], _ => rfl) (fun ds M Q E h => len2 h) (d_times K) (der_times T (cal_amount T)) (fun ds M post pox h => by
  obtain ⟨a0, a1, rfl, h⟩ := h
  exact hs_times T.z a0 a1 M post pox h)
theorem cal_over (T : Tx K mg) : Cal P w K mg base 2 "over" (sp_over K) := cal_d T.f_over sc_over (fun _ _ _ _ _ _ us hl => match us, hl with | [_, _], _ => rfl) (fun ds M Q E h => len2 h) (d_over K) (der_over T (cal_amount T)) (fun ds M post pox h => by
  obtain ⟨a0, a1, rfl, h⟩ := h
  exact hs_over T.z a0 a1 M post pox h)
theorem cal_sign (T : Tx K mg) : Cal P w K mg base 1 "sign" (sp_sign K) := cal_d T.f_sign sc_sign (fun _ _ _ _ _ _ us hl => match us, hl with | [_], _ => rfl) (fun ds M Q E h => len1 h) (d_sign K) (der_sign T ) (fun ds M post pox h => by
  obtain ⟨a0, rfl, h⟩ := h
  exact hs_sign T.z a0 M post pox h)
theorem cal_below (T : Tx K mg) : Cal P w K mg base 1 "below" (sp_below K) := cal_d T.f_below sc_below (fun _ _ _ _ _ _ us hl => match us, hl with | [_, _], _ => rfl) (fun ds M Q E h => len2 h) (d_below K) (der_below T ) (fun ds M post pox h => by
  obtain ⟨a0, a1, rfl, h⟩ := h
  exact hs_below T.z a0 a1 M post pox h)
theorem cal_least (T : Tx K mg) : Cal P w K mg base 2 "least" (sp_least K) := cal_d T.f_least sc_least (fun _ _ _ _ _ _ us hl => match us, hl with | [_, _], _ => rfl) (fun ds M Q E h => len2 h) (d_least K) (der_least T (cal_below T)) (fun ds M post pox h => by
  obtain ⟨a0, a1, rfl, h⟩ := h
  exact hs_least T.z a0 a1 M post pox h)
theorem cal_most (T : Tx K mg) : Cal P w K mg base 2 "most" (sp_most K) := cal_d T.f_most sc_most (fun _ _ _ _ _ _ us hl => match us, hl with | [_, _], _ => rfl) (fun ds M Q E h => len2 h) (d_most K) (der_most T (cal_below T)) (fun ds M post pox h => by
  obtain ⟨a0, a1, rfl, h⟩ := h
  exact hs_most T.z a0 a1 M post pox h)
theorem cal_floor_of (T : Tx K mg) : Cal P w K mg base 1 "floor_of" (sp_floor_of K) := cal_d T.f_floor_of sc_floor_of (fun _ _ _ _ _ _ us hl => match us, hl with | [_], _ => rfl) (fun ds M Q E h => len1 h) (d_floor_of K) (der_floor_of T ) (fun ds M post pox h => by
  obtain ⟨a0, rfl, h⟩ := h
  exact hs_floor_of T.z a0 M post pox h)
theorem cal_ceiling_of (T : Tx K mg) : Cal P w K mg base 1 "ceiling_of" (sp_ceiling_of K) := cal_d T.f_ceiling_of sc_ceiling_of (fun _ _ _ _ _ _ us hl => match us, hl with | [_], _ => rfl) (fun ds M Q E h => len1 h) (d_ceiling_of K) (der_ceiling_of T ) (fun ds M post pox h => by
  obtain ⟨a0, rfl, h⟩ := h
  exact hs_ceiling_of T.z a0 M post pox h)
theorem cal_nearest (T : Tx K mg) : Cal P w K mg base 3 "nearest" (sp_nearest K) := cal_d T.f_nearest sc_nearest (fun _ _ _ _ _ _ us hl => match us, hl with | [_], _ => rfl) (fun ds M Q E h => len1 h) (d_nearest K) (der_nearest T (cal_floor_of T) (cal_plus T)) (fun ds M post pox h => by
  obtain ⟨a0, rfl, h⟩ := h
  exact hs_nearest T.z a0 M post pox h)
theorem cal_law_draw (T : Tx K mg) : Cal P w K mg base 1 "_law_draw" (sp_law_draw K) := cal_d T.f_law_draw sc_law_draw (fun _ _ _ _ _ _ us hl => match us, hl with | [_, _, _], _ => rfl) (fun ds M Q E h => len3 h) (d_law_draw K) (der_law_draw T ) (fun ds M post pox h => by
  obtain ⟨a0, a1, a2, rfl, h⟩ := h
  exact hs_law_draw T.z a0 a1 a2 M post pox h)
theorem cal_law_draws (T : Tx K mg) : Cal P w K mg base 2 "_law_draws" (sp_law_draws K) := cal_d T.f_law_draws sc_law_draws (fun _ _ _ _ _ _ us hl => match us, hl with | [_], _ => rfl) (fun ds M Q E h => len1 h) (d_law_draws K) (der_law_draws T (cal_law_draw T)) (fun ds M post pox h => by
  obtain ⟨a0, rfl, h⟩ := h
  exact hs_law_draws T.z a0 M post pox h)
theorem cal_law_next (T : Tx K mg) : Cal P w K mg base 1 "_law_next" (sp_law_next K) := cal_d T.f_law_next sc_law_next (fun _ _ _ _ _ _ us hl => match us, hl with | [_, _], _ => rfl) (fun ds M Q E h => len2 h) (d_law_next K) (der_law_next T ) (fun ds M post pox h => by
  obtain ⟨a0, a1, rfl, h⟩ := h
  exact hs_law_next T.z a0 a1 M post pox h)
theorem cal_law_pick (T : Tx K mg) : Cal P w K mg base 2 "_law_pick" (sp_law_pick K) := cal_d T.f_law_pick sc_law_pick (fun _ _ _ _ _ _ us hl => match us, hl with | [_, _], _ => rfl) (fun ds M Q E h => len2 h) (d_law_pick K) (der_law_pick T (cal_law_next T)) (fun ds M post pox h => by
  obtain ⟨a0, a1, rfl, h⟩ := h
  exact hs_law_pick T.z a0 a1 M post pox h)
theorem cal_law_lowest (T : Tx K mg) : Cal P w K mg base 1 "_law_lowest" (sp_law_lowest K) := cal_d T.f_law_lowest sc_law_lowest (fun _ _ _ _ _ _ us hl => match us, hl with | [_, _], _ => rfl) (fun ds M Q E h => len2 h) (d_law_lowest K) (der_law_lowest T ) (fun ds M post pox h => by
  obtain ⟨a0, a1, rfl, h⟩ := h
  exact hs_law_lowest T.z a0 a1 M post pox h)
theorem cal_law_whole (T : Tx K mg) : Cal P w K mg base 2 "_law_whole" (sp_law_whole K) := cal_d T.f_law_whole sc_law_whole (fun _ _ _ _ _ _ us hl => match us, hl with | [_], _ => rfl) (fun ds M Q E h => len1 h) (d_law_whole K) (der_law_whole T (cal_law_next T)) (fun ds M post pox h => by
  obtain ⟨a0, rfl, h⟩ := h
  exact hs_law_whole T.z a0 M post pox h)
theorem cal_law_some (T : Tx K mg) : Cal P w K mg base 3 "_law_some" (sp_law_some K) := cal_d T.f_law_some sc_law_some (fun _ _ _ _ _ _ us hl => match us, hl with | [_], _ => rfl) (fun ds M Q E h => len1 h) (d_law_some K) (der_law_some T (cal_law_whole T) (cal_law_next T) (cal_law_lowest T)) (fun ds M post pox h => by
  obtain ⟨a0, rfl, h⟩ := h
  exact hs_law_some T.z a0 M post pox h)
theorem cal_law_near (T : Tx K mg) : Cal P w K mg base 4 "_law_near" (sp_law_near K) := cal_d T.f_law_near sc_law_near (fun _ _ _ _ _ _ us hl => match us, hl with | [_, _], _ => rfl) (fun ds M Q E h => len2 h) (d_law_near K) (der_law_near T (cal_law_some T) (cal_law_lowest T) (cal_law_next T)) (fun ds M post pox h => by
  obtain ⟨a0, a1, rfl, h⟩ := h
  exact hs_law_near T.z a0 a1 M post pox h)
theorem cal_law_made (T : Tx K mg) : Cal P w K mg base 2 "_law_made" (sp_law_made K) := cal_d T.f_law_made sc_law_made (fun _ _ _ _ _ _ us hl => match us, hl with | [_, _], _ => rfl) (fun ds M Q E h => len2 h) (d_law_made K) (der_law_made T (cal_amount T)) (fun ds M post pox h => by
  obtain ⟨a0, a1, rfl, h⟩ := h
  exact hs_law_made T.z a0 a1 M post pox h)
theorem cal_law_over (T : Tx K mg) : Cal P w K mg base 3 "_law_over" (sp_law_over K) := cal_d T.f_law_over sc_law_over (fun _ _ _ _ _ _ us hl => match us, hl with | [_, _], _ => rfl) (fun ds M Q E h => len2 h) (d_law_over K) (der_law_over T (cal_over T)) (fun ds M post pox h => by
  obtain ⟨a0, a1, rfl, h⟩ := h
  exact hs_law_over T.z a0 a1 M post pox h)
theorem cal_law_is_whole (T : Tx K mg) : Cal P w K mg base 1 "_law_is_whole" (sp_law_is_whole K) := cal_d T.f_law_is_whole sc_law_is_whole (fun _ _ _ _ _ _ us hl => match us, hl with | [_, _], _ => rfl) (fun ds M Q E h => len2 h) (d_law_is_whole K) (der_law_is_whole T ) (fun ds M post pox h => by
  obtain ⟨a0, a1, rfl, h⟩ := h
  exact hs_law_is_whole T.z a0 a1 M post pox h)
theorem cal_law_rounded (T : Tx K mg) : Cal P w K mg base 4 "_law_rounded" (sp_law_rounded K) := cal_d T.f_law_rounded sc_law_rounded (fun _ _ _ _ _ _ us hl => match us, hl with | [_], _ => rfl) (fun ds M Q E h => len1 h) (d_law_rounded K) (der_law_rounded T (cal_law_is_whole T) (cal_floor_of T) (cal_ceiling_of T) (cal_nearest T) (cal_sign T) (cal_negated T)) (fun ds M post pox h => by
  obtain ⟨a0, rfl, h⟩ := h
  exact hs_law_rounded T.z a0 M post pox h)
theorem cal_law_pair (T : Tx K mg) : Cal P w K mg base 4 "_law_pair" (sp_law_pair K) := cal_d T.f_law_pair sc_law_pair (fun _ _ _ _ _ _ us hl => match us, hl with | [_, _], _ => rfl) (fun ds M Q E h => len2 h) (d_law_pair K) (der_law_pair T (cal_plus T) (cal_law_lowest T) (cal_minus T) (cal_times T) (cal_law_over T) (cal_below T) (cal_least T) (cal_most T)) (fun ds M post pox h => by
  obtain ⟨a0, a1, rfl, h⟩ := h
  exact hs_law_pair T.z a0 a1 M post pox h)
theorem fn_law (T : Tx K mg) {fd : FuncData} (F : FunD K "law" "law" (defArgs s_law) (defBody s_law) (defScope s_law) [] [] (cA K "law") fd) : FnOk P w K mg base CXw 5 (cA K "law") fd ["script"] (LSp K (sp_law K)) := fn_cxw (fn_dD F sc_law (fun ds M Q E h => len1 h) (d_law K) (der_law T (cal_law_draws T) (cal_law_some T) (cal_law_near T) (cal_law_rounded T) (cal_law_pair T) (cal_law_pick T) (cal_law_whole T) (cal_law_made T) (cal_law_lowest T)) (fun ds M post pox h => by
  obtain ⟨a0, rfl, h⟩ := h
  exact hs_law T.z a0 M post pox h))
theorem bnd_law {fd : FuncData} (F : FunD K "law" "law" (defArgs s_law) (defBody s_law) (defScope s_law) [] [] (cA K "law") fd) (s : Shared) (u : Value) : BindsTo s fd ⟨[u], []⟩ [("script", u)] := F.bindsA (ps := ["script"]) (fun _ _ _ _ _ _ us hl => match us, hl with | [_], _ => rfl) s [u] rfl
end
def dd (x : Str) (i : Nat) : He.DefD := ⟨(x, none), x, x, defArgs (top i), defBody (top i), defScope (top i), [], []⟩
def fn : List He.DefD := [dd "amount" 6, dd "plus" 7, dd "negated" 8, dd "minus" 9, dd "times" 10, dd "over" 11, dd "sign" 12, dd "below" 13, dd "least" 14, dd "most" 15, dd "floor_of" 16, dd "ceiling_of" 17, dd "nearest" 18, dd "_law_draw" 20, dd "_law_draws" 21, dd "_law_next" 22, dd "_law_pick" 23, dd "_law_lowest" 24, dd "_law_whole" 25, dd "_law_some" 26, dd "_law_near" 27, dd "_law_made" 28, dd "_law_over" 29, dd "_law_is_whole" 30, dd "_law_rounded" 31, dd "_law_pair" 32, dd "law" 33]
def fa : List He.Fa := [.glo "amount", .glo "plus", .glo "negated", .glo "minus", .glo "times", .glo "over", .glo "sign", .glo "below", .glo "least", .glo "most", .glo "floor_of", .glo "ceiling_of", .glo "nearest", .glo "_law_draw", .glo "_law_draws", .glo "_law_next", .glo "_law_pick", .glo "_law_lowest", .glo "_law_whole", .glo "_law_some", .glo "_law_near", .glo "_law_made", .glo "_law_over", .glo "_law_is_whole", .glo "_law_rounded", .glo "_law_pair", .glo "law", .free "abs", .free "bool", .free "int"] ++ [.free "isinstance", .free "len", .free "min", .free "range", .glo "FormError", .glo "LevyError", .glo "ZeroAmount", .exc "ZeroAmount", .exm "ZeroAmount" "LevyError" true]
def excCB (K : Fg) (D : Addr) : Bool := He.eqO (PySem.W.findIn K (.ref D) "__getattribute__") (some (some (.builtin "BaseException.__getattribute__"))) && (He.eqO (PySem.W.findIn K (.ref D) "__getattr__") (some none) && (decide (PySem.W.subIn K (.ref D) (.type "BaseException") = some true) && (PySem.W.hasDictIn K D && (He.eqO (PySem.W.findIn K (.ref D) "__class__") (some (some (.builtin "object.__class__"))) && (He.eqO (PySem.W.specialIn K (.builtin "object.__class__") "__get__") (some (some (.builtin "getset_descriptor.__get__"))) && (decide (PySem.W.takesIn K (.builtin "object.__class__") = some true) && decide (PySem.W.mroIn K D (.type "object") = some true)))))))
theorem excCB_ok {K : Fg} {D : Addr} (h : excCB K D = true) : ExcC K D := by
  obtain ⟨h1, h⟩ := He.ba h
  obtain ⟨h2, h⟩ := He.ba h
  obtain ⟨h3, h⟩ := He.ba h
  obtain ⟨h4, h⟩ := He.ba h
  obtain ⟨h5, h⟩ := He.ba h
  obtain ⟨h6, h⟩ := He.ba h
  obtain ⟨h7, h8⟩ := He.ba h
  exact ⟨He.eqO_ok h1, He.eqO_ok h2, of_decide_eq_true h3, h4, He.eqO_ok h5, He.eqO_ok h6, of_decide_eq_true h7, of_decide_eq_true h8⟩
def ex (K : Fg) : Bool := (He.eqO (PySem.W.nsIn K mainGlobals "gcd") (some (some (.builtin "math.gcd"))) && (decide (PySem.W.kitOne K (.ref (cA K "ZeroAmount")) (.ref (cA K "ZeroAmount")) = some true) && (decide (PySem.W.kitOne K (.ref (cA K "ZeroAmount")) (.ref (cA K "FormError")) = some false) && (excCB K (cA K "ZeroAmount") && true))))
abbrev R : PySem.W.OpenRow := PySem.W.OpenLaw.row PySem.Challenge.rw_fairlevy_k10_amounts
abbrev hk : PySem.W.Hook := He.hookX 4 fa fn [] [] ex
def names : List Str := ["__name__", "LevyError", "FormError", "ZeroAmount", "amount", "plus", "negated", "minus", "times", "over", "sign", "below", "least", "most", "floor_of", "ceiling_of", "nearest", "_law_draw", "_law_draws", "_law_next", "_law_pick", "_law_lowest", "_law_whole", "_law_some", "_law_near", "_law_made", "_law_over", "_law_is_whole", "_law_rounded", "_law_pair"]
def ob (s : PySem.W.SharedT) : He.AlX := He.obsX 4 fa fn [] [] ex (HeadRun.getT s)
theorem ob_eq (s : PySem.W.SharedT) : ob s = hk.obs s.abs := He.obsX_eq (HeadRun.getT_eq s)
theorem run (w : World) : HeadRun.RunEqI R (PySem.W.view R.prog [0, 33]) hk ob 6000 names w := by
  unfold HeadRun.RunEqI
  kernel_rfl
theorem facts {w : World} {K : Fg} {h : Heap} {mg : Str → Option Value} (X : K.In h) (G : h.Ns mainGlobals mg) (c : He.SaysX fa fn [] [] ex w h K) : Tx K mg := by
  have D := c.t.d
  have e0 : ex K = true := c.more
  obtain ⟨m0, e1⟩ := He.ba e0
  obtain ⟨m1, e2⟩ := He.ba e1
  obtain ⟨m2, e3⟩ := He.ba e2
  obtain ⟨m3, e4⟩ := He.ba e3
  exact {
    b_abs := He.free_ok X G (D.fact 27 (f := .free "abs") rfl),
    b_bool := He.free_ok X G (D.fact 28 (f := .free "bool") rfl),
    b_int := He.free_ok X G (D.fact 29 (f := .free "int") rfl),
    b_isinstance := He.free_ok X G (D.fact 30 (f := .free "isinstance") rfl),
    b_len := He.free_ok X G (D.fact 31 (f := .free "len") rfl),
    b_min := He.free_ok X G (D.fact 32 (f := .free "min") rfl),
    b_range := He.free_ok X G (D.fact 33 (f := .free "range") rfl),
    g_FormError := He.glo_ok X G (D.fact 34 (f := .glo "FormError") rfl),
    g_LevyError := He.glo_ok X G (D.fact 35 (f := .glo "LevyError") rfl),
    g_ZeroAmount := He.glo_ok X G (D.fact 36 (f := .glo "ZeroAmount") rfl),
    x_ZeroAmount := He.exc_ok (D.fact 37 (f := .exc "ZeroAmount") rfl),
    z := ⟨He.exm_ok (D.fact 38 (f := .exm "ZeroAmount" "LevyError" true) rfl), of_decide_eq_true m1, of_decide_eq_true m2, excCB_ok m3, trivial⟩,
    gcd := PySem.W.mg_of X G (He.eqO_ok m0),
    f_amount := ⟨D.def_ 0 (d := dd "amount" 6) rfl, He.glo_ok X G (D.fact 0 (f := .glo "amount") rfl)⟩,
    f_plus := ⟨D.def_ 1 (d := dd "plus" 7) rfl, He.glo_ok X G (D.fact 1 (f := .glo "plus") rfl)⟩,
    f_negated := ⟨D.def_ 2 (d := dd "negated" 8) rfl, He.glo_ok X G (D.fact 2 (f := .glo "negated") rfl)⟩,
    f_minus := ⟨D.def_ 3 (d := dd "minus" 9) rfl, He.glo_ok X G (D.fact 3 (f := .glo "minus") rfl)⟩,
    f_times := ⟨D.def_ 4 (d := dd "times" 10) rfl, He.glo_ok X G (D.fact 4 (f := .glo "times") rfl)⟩,
    f_over := ⟨D.def_ 5 (d := dd "over" 11) rfl, He.glo_ok X G (D.fact 5 (f := .glo "over") rfl)⟩,
    f_sign := ⟨D.def_ 6 (d := dd "sign" 12) rfl, He.glo_ok X G (D.fact 6 (f := .glo "sign") rfl)⟩,
    f_below := ⟨D.def_ 7 (d := dd "below" 13) rfl, He.glo_ok X G (D.fact 7 (f := .glo "below") rfl)⟩,
    f_least := ⟨D.def_ 8 (d := dd "least" 14) rfl, He.glo_ok X G (D.fact 8 (f := .glo "least") rfl)⟩,
    f_most := ⟨D.def_ 9 (d := dd "most" 15) rfl, He.glo_ok X G (D.fact 9 (f := .glo "most") rfl)⟩,
    f_floor_of := ⟨D.def_ 10 (d := dd "floor_of" 16) rfl, He.glo_ok X G (D.fact 10 (f := .glo "floor_of") rfl)⟩,
    f_ceiling_of := ⟨D.def_ 11 (d := dd "ceiling_of" 17) rfl, He.glo_ok X G (D.fact 11 (f := .glo "ceiling_of") rfl)⟩,
    f_nearest := ⟨D.def_ 12 (d := dd "nearest" 18) rfl, He.glo_ok X G (D.fact 12 (f := .glo "nearest") rfl)⟩,
    f_law_draw := ⟨D.def_ 13 (d := dd "_law_draw" 20) rfl, He.glo_ok X G (D.fact 13 (f := .glo "_law_draw") rfl)⟩,
    f_law_draws := ⟨D.def_ 14 (d := dd "_law_draws" 21) rfl, He.glo_ok X G (D.fact 14 (f := .glo "_law_draws") rfl)⟩,
    f_law_next := ⟨D.def_ 15 (d := dd "_law_next" 22) rfl, He.glo_ok X G (D.fact 15 (f := .glo "_law_next") rfl)⟩,
    f_law_pick := ⟨D.def_ 16 (d := dd "_law_pick" 23) rfl, He.glo_ok X G (D.fact 16 (f := .glo "_law_pick") rfl)⟩,
    f_law_lowest := ⟨D.def_ 17 (d := dd "_law_lowest" 24) rfl, He.glo_ok X G (D.fact 17 (f := .glo "_law_lowest") rfl)⟩,
    f_law_whole := ⟨D.def_ 18 (d := dd "_law_whole" 25) rfl, He.glo_ok X G (D.fact 18 (f := .glo "_law_whole") rfl)⟩,
    f_law_some := ⟨D.def_ 19 (d := dd "_law_some" 26) rfl, He.glo_ok X G (D.fact 19 (f := .glo "_law_some") rfl)⟩,
    f_law_near := ⟨D.def_ 20 (d := dd "_law_near" 27) rfl, He.glo_ok X G (D.fact 20 (f := .glo "_law_near") rfl)⟩,
    f_law_made := ⟨D.def_ 21 (d := dd "_law_made" 28) rfl, He.glo_ok X G (D.fact 21 (f := .glo "_law_made") rfl)⟩,
    f_law_over := ⟨D.def_ 22 (d := dd "_law_over" 29) rfl, He.glo_ok X G (D.fact 22 (f := .glo "_law_over") rfl)⟩,
    f_law_is_whole := ⟨D.def_ 23 (d := dd "_law_is_whole" 30) rfl, He.glo_ok X G (D.fact 23 (f := .glo "_law_is_whole") rfl)⟩,
    f_law_rounded := ⟨D.def_ 24 (d := dd "_law_rounded" 31) rfl, He.glo_ok X G (D.fact 24 (f := .glo "_law_rounded") rfl)⟩,
    f_law_pair := ⟨D.def_ 25 (d := dd "_law_pair" 32) rfl, He.glo_ok X G (D.fact 25 (f := .glo "_law_pair") rfl)⟩,
    f_law := ⟨D.def_ 26 (d := dd "law" 33) rfl, He.glo_ok X G (D.fact 26 (f := .glo "law") rfl)⟩ }
theorem law_at {K : Fg} (ns : List Int) (pox : DX → Mem → Prop) : sp_law K [.ro (ns.map D.int)] (fun _ => none) (fun v _ => v = .bl true) pox := ⟨_, rfl, ns, rfl, rfl, fun _ => rfl⟩
end K10
open Dl PySem PySem.W PySem.Calls PyProof.Rows
theorem PySem.Challenge.cw_fairlevy_k10_amounts_holds : PySem.Challenge.rw_fairlevy_k10_amounts.Holds := by
  w_on; o_law
  refine HeadRun.head_imp (r := OpenLaw.row PySem.Challenge.rw_fairlevy_k10_amounts) (q := view (OpenLaw.row PySem.Challenge.rw_fairlevy_k10_amounts).prog [0, 33]) (H := K10.hk) (ob := K10.ob) (M := 6000) (loose := K10.names) (d := HeadRun.topDef (OpenLaw.row PySem.Challenge.rw_fairlevy_k10_amounts).prog 33) (kwd := []) K10.ob_eq K10.run
    (by kernel_rfl) (by kernel_rfl) (by kernel_rfl) (by rfl) (by first | assumption | decide +kernel) (by decide +kernel) ⟨rfl, rfl, rfl, rfl, rfl, by decide +kernel⟩ ?hw ?hc
  case hw => w_witness2
  case hc =>
    refine L2.walk_ofE (l := PySem.Challenge.rw_fairlevy_k10_amounts) (n := 63) (k := 5) (x := "script") (CX := Dl.CXw) rfl (by decide) (by kernel_rfl) ⟨rfl, by decide, by decide⟩ ?F (fun H s e s' z => by obtain ⟨_, _, _, z⟩ := z; exact z)
    intro w mg fa h Y G hmg0
    obtain ⟨K, KX, c⟩ := Y
    have hmg : mg ("law" : PySem.Str) = some (.ref fa) := by
      have e : (HeadRun.topDef (OpenLaw.row PySem.Challenge.rw_fairlevy_k10_amounts).prog 33).name = ("law" : PySem.Str) := by kernel_rfl
      rw [← e]
      exact hmg0
    have T := K10.facts KX G c
    have e := hmg.symm.trans T.f_law.g
    cases e
    obtain ⟨fd, F⟩ := T.f_law.ex
    exact ⟨K, fd, Dl.LSp K (K10.sp_law K), KX, K10.bnd_law F, fun H a ns _ _ hS => Dl.law_sp (fun pox => K10.law_at ns pox) hS, fun base _ _ => K10.fn_law T F⟩
