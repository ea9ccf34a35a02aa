import PyProof.Rows.All
import Wide.All
import OpenK.AllK
import Wide.FinOn
import HandS.ForMost
import HandS.Exc
import HandS.TryOnly
import HandS.ExcOwn
import HandS.WordsExc
import HandS.Walk
import HandS.Wide
import HandS.Gcd
import HandS.IsInst
import HandS.Defaults
import HandS.TupLen
import HandS.ExcIs
import HandS.Style
import HandS.HeadHook2
import HandS.Iter
import HandS.ExcValue
import HandS.Text
import HandS.SortOrd
import HandS.TupSets
import PyProof.Rows.SortKeyStr
import HandS.Conv
import HandS.Deep
import HandS.DictComp
import HandS.HeadHook3
import HandS.More
import HandS.SortInts
import KE.HD0
import KE.HD1
import KE.HD2
import KE.HD3
import HandS.Head0
import HandS.Head1
import HandS.Head2
import HandS.HeadEnd
import HandS.HeadHook1
import HandS.HeadHook4
import PySem.Challenge.RW_fairlevy_k81_the_plain_account
set_option Elab.async false
set_option linter.all false
set_option maxRecDepth 100000
set_option autoImplicit false
/-! Dl1: values as plain data D over the abstract heap of HandS; the part G of the heap that never changes any more, the cells M that may change, the part R that is left alone. -/
namespace Dl
open L2 PySem PyProof.Rows PySem.Spec

/-- a value as plain data; obj a: what stands at a is told by the memory (a cell), or nothing is known of it -/
inductive D where
  | non | bl (b : Bool) | int (i : Int) | str (s : Str) | ty (n : String) | obj (a : Addr)
  | tup (ds : List D) | rt (ds : List D) | lst (ds : List D) | ro (ds : List D) | dk (kvs : List (Key × D)) | dt (kvs : List (List Key × D))
instance : Inhabited D := ⟨.non⟩

abbrev Fg := PySem.W.Frag
mutual
inductive Rep (K : Fg) (G : Hp) : V → D → Prop
  | non : Rep K G .non .non
  | bl {b} : Rep K G (.bl b) (.bl b)
  | int {i} : Rep K G (.int i) (.int i)
  | str {s} : Rep K G (.str s) (.str s)
  | ty {n} : Rep K G (.ty n) (.ty n)
  | obj {a} : Rep K G (.ref a) (.obj a)
  | tup {a xs ds} (h : G a = some (.tup xs)) (r : Reps K G xs ds) : Rep K G (.ref a) (.tup ds)
  | rt {a xs ds} (h : SqT K G a xs) (r : Reps K G xs ds) : Rep K G (.ref a) (.rt ds)
  | lst {a xs ds} (h : G a = some (.lst xs)) (r : Reps K G xs ds) : Rep K G (.ref a) (.lst ds)
  | ro {a xs ds} (h : SqL K G a xs) (r : Reps K G xs ds) : Rep K G (.ref a) (.ro ds)
  | dk {a ys kvs} (h : ∃ o, G a = some (.frz o (.dK ys))) (e : ys.map (·.1) = kvs.map (·.1)) (r : Reps K G (ys.map (·.2)) (kvs.map (·.2))) : Rep K G (.ref a) (.dk kvs)
  | dt {a ys kvs} (h : ∃ o, G a = some (.frz o (.dT ys))) (e : ys.map (·.1) = kvs.map (·.1)) (r : Reps K G (ys.map (·.2)) (kvs.map (·.2))) : Rep K G (.ref a) (.dt kvs)
inductive Reps (K : Fg) (G : Hp) : List V → List D → Prop
  | nil : Reps K G [] []
  | cons {x d xs ds} (h : Rep K G x d) (t : Reps K G xs ds) : Reps K G (x :: xs) (d :: ds)
end
section
variable {K : Fg} {G G' : Hp}
theorem SqT.mono {a : Addr} {xs : List V} (s : Same G G') (h : SqT K G a xs) : SqT K G' a xs := by
  rcases h with (h | ⟨o, h⟩) | h
  · exact .inl (.inl (s _ _ h))
  · exact .inl (.inr ⟨o, s _ _ h⟩)
  · exact .inr h
mutual
theorem Rep.mono (s : Same G G') {x : V} {d : D} : Rep K G x d → Rep K G' x d
  | .non => .non
  | .bl => .bl
  | .int => .int
  | .str => .str
  | .ty => .ty
  | .obj => .obj
  | .tup h r => .tup (s _ _ h) (Reps.mono s r)
  | .rt h r => .rt (SqT.mono s h) (Reps.mono s r)
  | .lst h r => .lst (s _ _ h) (Reps.mono s r)
  | .ro h r => .ro (s.seq h) (Reps.mono s r)
  | .dk h e r => .dk (h.imp fun _ q => s _ _ q) e (Reps.mono s r)
  | .dt h e r => .dt (h.imp fun _ q => s _ _ q) e (Reps.mono s r)
theorem Reps.mono (s : Same G G') {xs : List V} {ds : List D} : Reps K G xs ds → Reps K G' xs ds
  | .nil => .nil
  | .cons h t => .cons (Rep.mono s h) (Reps.mono s t)
end
theorem Reps.length : ∀ {xs : List V} {ds : List D}, Reps K G xs ds → xs.length = ds.length
  | _, _, .nil => rfl
  | _, _, .cons _ t => congrArg (· + 1) (Reps.length t)
theorem Reps.get : ∀ {xs : List V} {ds : List D}, Reps K G xs ds → ∀ {i : Nat} {d : D}, ds[i]? = some d → ∃ x, xs[i]? = some x ∧ Rep K G x d
  | _, _, .nil, i, d, e => by simp at e
  | _, _, .cons h t, 0, d, e => by simp at e; subst e; exact ⟨_, rfl, h⟩
  | _, _, .cons h t, i + 1, d, e => by
    obtain ⟨x, e1, r⟩ := Reps.get t (i := i) (d := d) (by simpa using e)
    exact ⟨x, by simpa using e1, r⟩
theorem Reps.get' : ∀ {xs : List V} {ds : List D}, Reps K G xs ds → ∀ {i : Nat} {x : V}, xs[i]? = some x → ∃ d, ds[i]? = some d ∧ Rep K G x d
  | _, _, .nil, i, d, e => by simp at e
  | _, _, .cons h t, 0, d, e => by simp at e; subst e; exact ⟨_, rfl, h⟩
  | _, _, .cons h t, i + 1, d, e => by
    obtain ⟨x, e1, r⟩ := Reps.get' t (i := i) (x := d) (by simpa using e)
    exact ⟨x, by simpa using e1, r⟩
theorem Reps.app : ∀ {xs ys : List V} {ds es : List D}, Reps K G xs ds → Reps K G ys es → Reps K G (xs ++ ys) (ds ++ es)
  | _, _, _, _, .nil, s => s
  | _, _, _, _, .cons h t, s => .cons h (Reps.app t s)
theorem Reps.take : ∀ {xs : List V} {ds : List D} (n : Nat), Reps K G xs ds → Reps K G (xs.take n) (ds.take n)
  | _, _, 0, _ => .nil
  | _, _, _ + 1, .nil => .nil
  | _, _, n + 1, .cons h t => .cons h (Reps.take n t)
theorem Reps.drop : ∀ {xs : List V} {ds : List D} (n : Nat), Reps K G xs ds → Reps K G (xs.drop n) (ds.drop n)
  | _, _, 0, r => r
  | _, _, _ + 1, .nil => .nil
  | _, _, n + 1, .cons _ t => Reps.drop n t
theorem Reps.set {x : V} {d : D} (r : Rep K G x d) : ∀ {xs : List V} {ds : List D} (i : Nat), Reps K G xs ds → Reps K G (xs.set i x) (ds.set i d)
  | _, _, _, .nil => .nil
  | _, _, 0, .cons _ t => .cons r t
  | _, _, i + 1, .cons q t => .cons q (Reps.set r i t)
theorem Reps.rev {xs : List V} {ds : List D} (h : Reps K G xs ds) : Reps K G xs.reverse ds.reverse := by
  induction ds generalizing xs with
  | nil => cases h; exact .nil
  | cons d ds ih =>
    cases h with
    | cons h t => rw [List.reverse_cons, List.reverse_cons]; exact (ih t).app (.cons h .nil)
theorem Reps.ints : ∀ {ns : List Int}, Reps K G (ns.map V.int) (ns.map D.int)
  | [] => .nil
  | _ :: _ => .cons .int Reps.ints
/-- data of ints stand for ints -/
theorem Reps.of_ints : ∀ {ns : List Int} {xs : List V}, Reps K G xs (ns.map D.int) → xs = ns.map V.int
  | [], _, h => by cases h; rfl
  | n :: ns, _, h => by
    cases h with
    | cons h t => cases h; rw [Reps.of_ints t]; rfl
theorem Reps.of_strs : ∀ {ns : List Str} {xs : List V}, Reps K G xs (ns.map D.str) → xs = ns.map V.str
  | [], _, h => by cases h; rfl
  | n :: ns, _, h => by
    cases h with
    | cons h t => cases h; rw [Reps.of_strs t]; rfl
theorem Reps.of_bls : ∀ {ns : List Bool} {xs : List V}, Reps K G xs (ns.map D.bl) → xs = ns.map V.bl
  | [], _, h => by cases h; rfl
  | n :: ns, _, h => by
    cases h with
    | cons h t => cases h; rw [Reps.of_bls t]; rfl
end

/-! ### cells -/
inductive Cell where
  | lst (ds : List D) | dk (kvs : List (Key × D)) | dt (kvs : List (List Key × D)) | ins (C : Addr) (fs : List (Str × D))
abbrev Mem := Addr → Option Cell
def st (M : Mem) (a : Addr) (c : Cell) : Mem := fun b => if b = a then some c else M b
def rm (M : Mem) (a : Addr) : Mem := fun b => if b = a then none else M b
theorem st_same {M : Mem} {a : Addr} {c : Cell} : st M a c a = some c := by unfold st; rw [if_pos rfl]
theorem st_ne {M : Mem} {a b : Addr} {c : Cell} (h : b ≠ a) : st M a c b = M b := by unfold st; rw [if_neg h]
theorem rm_same {M : Mem} {a : Addr} : rm M a a = none := by unfold rm; rw [if_pos rfl]
theorem rm_ne {M : Mem} {a b : Addr} (h : b ≠ a) : rm M a b = M b := by unfold rm; rw [if_neg h]
theorem st_st {M : Mem} {a : Addr} {c c' : Cell} : st (st M a c) a c' = st M a c' := by
  funext b; unfold st; split <;> rfl
theorem rm_st {M : Mem} {a : Addr} {c : Cell} (h : M a = none) : rm (st M a c) a = M := by
  funext b; unfold rm st; split
  · rename_i e; rw [e, h]
  · rfl
theorem st_get {M : Mem} {a : Addr} {c : Cell} (h : M a = some c) : st M a c = M := by
  funext b; unfold st; split
  · rename_i e; rw [e, h]
  · rfl
theorem st_comm {M : Mem} {a b : Addr} {c d : Cell} (h : a ≠ b) : st (st M a c) b d = st (st M b d) a c := by
  funext x; unfold st
  by_cases h1 : x = b
  · by_cases h2 : x = a
    · exact absurd (h2.symm.trans h1) h
    · rw [if_pos h1, if_neg h2, if_pos h1]
  · by_cases h2 : x = a
    · rw [if_neg h1, if_pos h2, if_pos h2]
    · rw [if_neg h1, if_neg h2, if_neg h2, if_neg h1]

def CellOk (K : Fg) (G H : Hp) (a : Addr) : Cell → Prop
  | .lst ds => ∃ xs, H a = some (.lst xs) ∧ Reps K G xs ds
  | .dk kvs => ∃ ys, H a = some (.dK ys) ∧ ys.map (·.1) = kvs.map (·.1) ∧ Reps K G (ys.map (·.2)) (kvs.map (·.2))
  | .dt kvs => ∃ ys, H a = some (.dT ys) ∧ ys.map (·.1) = kvs.map (·.1) ∧ Reps K G (ys.map (·.2)) (kvs.map (·.2))
  | .ins C fs => ∃ dx ys, H a = some (.ins C dx ys) ∧ ys.map (·.1) = fs.map (·.1) ∧ Reps K G (ys.map (·.2)) (fs.map (·.2))
theorem CellOk.mono {K : Fg} {G G' H H' : Hp} {a : Addr} {c : Cell} (s : Same G G') (e : H' a = H a) (h : CellOk K G H a c) : CellOk K G' H' a c := by
  cases c with
  | lst ds => obtain ⟨xs, h1, h2⟩ := h; exact ⟨xs, e.trans h1, h2.mono s⟩
  | dk kvs => obtain ⟨xs, h1, h2, h3⟩ := h; exact ⟨xs, e.trans h1, h2, h3.mono s⟩
  | dt kvs => obtain ⟨xs, h1, h2, h3⟩ := h; exact ⟨xs, e.trans h1, h2, h3.mono s⟩
  | ins C fs => obtain ⟨dx, xs, h1, h2, h3⟩ := h; exact ⟨dx, xs, e.trans h1, h2, h3.mono s⟩
theorem CellOk.there {K : Fg} {G H : Hp} {a : Addr} {c : Cell} (h : CellOk K G H a c) : ∃ o, H a = some o := by
  cases c with
  | lst ds => obtain ⟨xs, h1, h2⟩ := h; exact ⟨_, h1⟩
  | dk kvs => obtain ⟨xs, h1, h2, h3⟩ := h; exact ⟨_, h1⟩
  | dt kvs => obtain ⟨xs, h1, h2, h3⟩ := h; exact ⟨_, h1⟩
  | ins C fs => obtain ⟨dx, xs, h1, h2, h3⟩ := h; exact ⟨_, h1⟩

/-- B: what stood still at the entry; R: what is left alone -/
structure Fm where
  B : Hp
  R : Hp
/-- the abstract heap H: its still part G, its cells M, what is left alone -/
structure HRel (K : Fg) (F : Fm) (G H : Hp) (M : Mem) : Prop where
  base : Same F.B G
  sub : Same G H
  rs : Same F.R H
  rgt : ∀ a o, F.R a = some o → G a = none ∧ ∀ xs, o ≠ .tup xs
  cell : ∀ a c, M a = some c → CellOk K G H a c ∧ G a = none ∧ F.R a = none
/-- the slots -/
structure SRel (K : Fg) (G : Hp) (σ : L2.St) (ρ : List (Option D)) : Prop where
  len : ρ.length = σ.length
  slot : ∀ (i : Nat) (d : D), ρ[i]? = some (some d) → ∃ x, σ[i]? = some (some x) ∧ Rep K G x d
section
variable {K : Fg} {F : Fm} {G G' H : Hp} {M : Mem} {a : Addr} {o : HO} {c : Cell}
theorem SRel.mono {σ : L2.St} {ρ : List (Option D)} (s : Same G G') (h : SRel K G σ ρ) : SRel K G' σ ρ :=
  ⟨h.len, fun i d e => let ⟨x, e1, r⟩ := h.slot i d e; ⟨x, e1, r.mono s⟩⟩
theorem SRel.set {σ : L2.St} {ρ : List (Option D)} {x : V} {d : D} (h : SRel K G σ ρ) (r : Rep K G x d) (i : Nat) : SRel K G (σ.set i (some x)) (ρ.set i (some d)) := by
  refine ⟨by rw [List.length_set, List.length_set]; exact h.len, fun j e he => ?_⟩
  by_cases hj : i = j
  · subst hj
    by_cases hi : i < ρ.length
    · rw [List.getElem?_set_self hi] at he
      have := Option.some.inj (Option.some.inj he)
      subst this
      exact ⟨x, List.getElem?_set_self (by rw [← h.len]; exact hi), r⟩
    · rw [List.getElem?_eq_none (by rw [List.length_set]; omega)] at he; cases he
  · rw [List.getElem?_set_ne hj] at he ⊢
    exact h.slot j e he
theorem SRel.setN {σ : L2.St} {ρ : List (Option D)} (h : SRel K G σ ρ) (i : Nat) (x : Option V) : SRel K G (σ.set i x) (ρ.set i none) := by
  refine ⟨by rw [List.length_set, List.length_set]; exact h.len, fun j e he => ?_⟩
  by_cases hj : i = j
  · subst hj
    by_cases hi : i < ρ.length
    · rw [List.getElem?_set_self hi] at he; cases he
    · rw [List.getElem?_eq_none (by rw [List.length_set]; omega)] at he; cases he
  · rw [List.getElem?_set_ne hj] at he ⊢
    exact h.slot j e he
theorem HRel.mnone (h : HRel K F G H M) (e : H a = none) : M a = none ∧ G a = none ∧ F.R a = none := by
  refine ⟨?_, h.sub.free e, h.rs.free e⟩
  cases q : M a with
  | none => rfl
  | some c =>
    obtain ⟨o, ho⟩ := (h.cell a c q).1.there
    rw [e] at ho; cases ho
theorem same_upd (e : G a = none) : Same G (upd G a o) := fun b u h => by rw [upd_ne (ne_of_none h e)]; exact h
/-- a new object that never changes -/
theorem HRel.new (h : HRel K F G H M) (e : H a = none) : Same G (upd G a o) ∧ HRel K F (upd G a o) (upd H a o) M := by
  obtain ⟨hm, hg, hr⟩ := h.mnone e
  have s : Same G (upd G a o) := same_upd hg
  refine ⟨s, h.base.trans s, fun b u q => ?_, fun b u q => ?_, fun b u q => ?_, fun b c q => ?_⟩
  · by_cases hb : b = a
    · subst hb; rw [upd_same] at q ⊢; exact q
    · rw [upd_ne hb] at q ⊢; exact h.sub b u q
  · rw [upd_ne (ne_of_none q hr)]; exact h.rs b u q
  · rw [upd_ne (ne_of_none q hr)]; exact h.rgt b u q
  · obtain ⟨h1, h2, h3⟩ := h.cell b c q
    have hb : b ≠ a := fun z => by rw [z, hm] at q; cases q
    exact ⟨h1.mono s (upd_ne hb), by rw [upd_ne hb]; exact h2, h3⟩
/-- a new object that may change -/
theorem HRel.newC (h : HRel K F G H M) (e : H a = none) (ok : CellOk K G (upd H a o) a c) : HRel K F G (upd H a o) (st M a c) := by
  obtain ⟨hm, hg, hr⟩ := h.mnone e
  refine ⟨h.base, fun b u q => ?_, fun b u q => ?_, h.rgt, fun b c' q => ?_⟩
  · rw [upd_ne (ne_of_none q hg)]; exact h.sub b u q
  · rw [upd_ne (ne_of_none q hr)]; exact h.rs b u q
  · by_cases hb : b = a
    · subst hb; rw [st_same] at q; cases q
      exact ⟨ok, hg, hr⟩
    · rw [st_ne hb] at q
      obtain ⟨h1, h2, h3⟩ := h.cell b c' q
      exact ⟨h1.mono (Same.refl _) (upd_ne hb), h2, h3⟩
/-- a cell is written -/
theorem HRel.write {c' : Cell} (h : HRel K F G H M) (e : M a = some c) (ok : CellOk K G (upd H a o) a c') : HRel K F G (upd H a o) (st M a c') := by
  obtain ⟨_, hg, hr⟩ := h.cell a c e
  refine ⟨h.base, fun b u q => ?_, fun b u q => ?_, h.rgt, fun b c2 q => ?_⟩
  · rw [upd_ne (ne_of_none q hg)]; exact h.sub b u q
  · rw [upd_ne (ne_of_none q hr)]; exact h.rs b u q
  · by_cases hb : b = a
    · subst hb; rw [st_same] at q; cases q
      exact ⟨ok, hg, hr⟩
    · rw [st_ne hb] at q
      obtain ⟨h1, h2, h3⟩ := h.cell b c2 q
      exact ⟨h1.mono (Same.refl _) (upd_ne hb), h2, h3⟩
/-- a cell never changes any more -/
theorem HRel.freeze (h : HRel K F G H M) (e : M a = some c) (ho : H a = some o) : Same G (upd G a o) ∧ HRel K F (upd G a o) H (rm M a) := by
  obtain ⟨_, hg, hr⟩ := h.cell a c e
  have s : Same G (upd G a o) := same_upd hg
  refine ⟨s, h.base.trans s, fun b u q => ?_, h.rs, fun b u q => ?_, fun b c2 q => ?_⟩
  · by_cases hb : b = a
    · subst hb; rw [upd_same] at q; rw [ho]; exact q
    · rw [upd_ne hb] at q; exact h.sub b u q
  · rw [upd_ne (ne_of_none q hr)]; exact h.rgt b u q
  · by_cases hb : b = a
    · subst hb; rw [rm_same] at q; cases q
    · rw [rm_ne hb] at q
      obtain ⟨h1, h2, h3⟩ := h.cell b c2 q
      exact ⟨h1.mono s rfl, by rw [upd_ne hb]; exact h2, h3⟩
/-- a cell never changes any more, and is laid anew as o -/
theorem HRel.lock (h : HRel K F G H M) (e : M a = some c) : Same G (upd G a o) ∧ HRel K F (upd G a o) (upd H a o) (rm M a) := by
  obtain ⟨_, hg, hr⟩ := h.cell a c e
  have s : Same G (upd G a o) := same_upd hg
  refine ⟨s, h.base.trans s, fun b u q => ?_, fun b u q => ?_, fun b u q => ?_, fun b c2 q => ?_⟩
  · by_cases hb : b = a
    · subst hb; rw [upd_same] at q ⊢; exact q
    · rw [upd_ne hb] at q ⊢; exact h.sub b u q
  · rw [upd_ne (ne_of_none q hr)]; exact h.rs b u q
  · rw [upd_ne (ne_of_none q hr)]; exact h.rgt b u q
  · by_cases hb : b = a
    · subst hb; rw [rm_same] at q; cases q
    · rw [rm_ne hb] at q
      obtain ⟨h1, h2, h3⟩ := h.cell b c2 q
      exact ⟨h1.mono s (upd_ne hb), by rw [upd_ne hb]; exact h2, h3⟩
/-- an immutable tuple that stands there is known -/
theorem HRel.know {xs : List V} (h : HRel K F G H M) (e : H a = some (.tup xs)) : ∃ G', Same G G' ∧ HRel K F G' H M ∧ G' a = some (.tup xs) := by
  cases qg : G a with
  | some u =>
    have hu := h.sub a u qg
    rw [e] at hu; cases hu
    exact ⟨G, Same.refl _, h, qg⟩
  | none =>
    have qr : F.R a = none := by
      cases q : F.R a with
      | none => rfl
      | some u =>
        have hu := h.rs a u q
        rw [e] at hu; cases hu
        exact absurd rfl ((h.rgt a _ q).2 xs)
    have qm : ∀ c, M a = some c → False := fun c q => by
      obtain ⟨h1, _⟩ := h.cell a c q
      cases c with
      | lst ds => obtain ⟨ys, h2, _⟩ := h1; rw [e] at h2; cases h2
      | dk ds => obtain ⟨ys, h2, _⟩ := h1; rw [e] at h2; cases h2
      | dt ds => obtain ⟨ys, h2, _⟩ := h1; rw [e] at h2; cases h2
      | ins C ds => obtain ⟨dx, ys, h2, _⟩ := h1; rw [e] at h2; cases h2
    have s : Same G (upd G a (.tup xs)) := same_upd qg
    refine ⟨_, s, ⟨h.base.trans s, fun b u q => ?_, h.rs, fun b u q => ?_, fun b c q => ?_⟩, upd_same⟩
    · by_cases hb : b = a
      · subst hb; rw [upd_same] at q; rw [e]; exact q
      · rw [upd_ne hb] at q; exact h.sub b u q
    · rw [upd_ne (ne_of_none q qr)]; exact h.rgt b u q
    · obtain ⟨h1, h2, h3⟩ := h.cell b c q
      have hb : b ≠ a := fun z => qm c (z ▸ q)
      exact ⟨h1.mono s rfl, by rw [upd_ne hb]; exact h2, h3⟩
/-- fewer cells -/
theorem HRel.less {M' : Mem} (h : HRel K F G H M) (l : ∀ a c, M' a = some c → M a = some c) : HRel K F G H M' :=
  ⟨h.base, h.sub, h.rs, h.rgt, fun a c q => h.cell a c (l a c q)⟩
/-- another base -/
theorem HRel.rebase {B : Hp} (h : HRel K F G H M) (s : Same B G) : HRel K ⟨B, F.R⟩ G H M := ⟨s, h.sub, h.rs, h.rgt, h.cell⟩
/-- an object is left alone from now on -/
theorem HRel.hide (h : HRel K F G H M) (e : H a = none) (nt : ∀ xs, o ≠ .tup xs) : HRel K ⟨F.B, upd F.R a o⟩ G (upd H a o) M := by
  obtain ⟨hm, hg, hr⟩ := h.mnone e
  refine ⟨h.base, fun b u q => ?_, fun b u q => ?_, fun b u q => ?_, fun b c q => ?_⟩
  · rw [upd_ne (ne_of_none q hg)]; exact h.sub b u q
  · have q' : upd F.R a o b = some u := q
    by_cases hb : b = a
    · subst hb; rw [upd_same] at q' ⊢; exact q'
    · rw [upd_ne hb] at q' ⊢; exact h.rs b u q'
  · have q' : upd F.R a o b = some u := q
    by_cases hb : b = a
    · subst hb; rw [upd_same] at q'; cases q'; exact ⟨hg, nt⟩
    · rw [upd_ne hb] at q'; exact h.rgt b u q'
  · obtain ⟨h1, h2, h3⟩ := h.cell b c q
    have hb : b ≠ a := fun z => by rw [z, hm] at q; cases q
    refine ⟨h1.mono (Same.refl _) (upd_ne hb), h2, ?_⟩
    show upd F.R a o b = none
    rw [upd_ne hb]; exact h3
/-- .. changed -/
theorem HRel.hidden {R : Hp} {o o' : HO} (h : HRel K ⟨F.B, upd R a o⟩ G H M) (nt : ∀ xs, o' ≠ .tup xs) : HRel K ⟨F.B, upd R a o'⟩ G (upd H a o') M := by
  have hga : G a = none := (h.rgt a o upd_same).1
  refine ⟨h.base, fun b u q => ?_, fun b u q => ?_, fun b u q => ?_, fun b c q => ?_⟩
  · rw [upd_ne (ne_of_none q hga)]; exact h.sub b u q
  · have q' : upd R a o' b = some u := q
    by_cases hb : b = a
    · subst hb; rw [upd_same] at q' ⊢; exact q'
    · rw [upd_ne hb] at q' ⊢; exact h.rs b u (show upd R a o b = some u by rw [upd_ne hb]; exact q')
  · have q' : upd R a o' b = some u := q
    by_cases hb : b = a
    · subst hb; rw [upd_same] at q'; cases q'; exact ⟨hga, nt⟩
    · rw [upd_ne hb] at q'; exact h.rgt b u (show upd R a o b = some u by rw [upd_ne hb]; exact q')
  · obtain ⟨h1, h2, h3⟩ := h.cell b c q
    have h3' : upd R a o b = none := h3
    have hb : b ≠ a := fun z => by rw [z, upd_same] at h3'; cases h3'
    refine ⟨h1.mono (Same.refl _) (upd_ne hb), h2, ?_⟩
    show upd R a o' b = none
    rw [upd_ne hb]; rw [upd_ne hb] at h3'; exact h3'
/-- .. and shown again, as an object that never changes -/
theorem HRel.shown {R : Hp} (hr : R a = none) (h : HRel K ⟨F.B, upd R a o⟩ G H M) : Same G (upd G a o) ∧ HRel K ⟨F.B, R⟩ (upd G a o) H M := by
  have hga : G a = none := (h.rgt a o upd_same).1
  have hha : H a = some o := h.rs a o upd_same
  have s : Same G (upd G a o) := same_upd hga
  refine ⟨s, h.base.trans s, fun b u q => ?_, fun b u q => ?_, fun b u q => ?_, fun b c q => ?_⟩
  · by_cases hb : b = a
    · subst hb; rw [upd_same] at q; rw [hha]; exact q
    · rw [upd_ne hb] at q; exact h.sub b u q
  · exact h.rs b u (show upd R a o b = some u by rw [upd_ne (ne_of_none q hr)]; exact q)
  · rw [upd_ne (ne_of_none q hr)]; exact h.rgt b u (show upd R a o b = some u by rw [upd_ne (ne_of_none q hr)]; exact q)
  · obtain ⟨h1, h2, h3⟩ := h.cell b c q
    have h3' : upd R a o b = none := h3
    have hb : b ≠ a := fun z => by rw [z, upd_same] at h3'; cases h3'
    refine ⟨h1.mono s rfl, by rw [upd_ne hb]; exact h2, ?_⟩
    show R b = none
    rw [upd_ne hb] at h3'; exact h3'
/-- .. or as a cell -/
theorem HRel.shownC {R : Hp} (hr : R a = none) (h : HRel K ⟨F.B, upd R a o⟩ G H M) (ok : CellOk K G H a c) : HRel K ⟨F.B, R⟩ G H (st M a c) := by
  have hga : G a = none := (h.rgt a o upd_same).1
  refine ⟨h.base, h.sub, fun b u q => ?_, fun b u q => ?_, fun b c2 q => ?_⟩
  · exact h.rs b u (show upd R a o b = some u by rw [upd_ne (ne_of_none q hr)]; exact q)
  · exact h.rgt b u (show upd R a o b = some u by rw [upd_ne (ne_of_none q hr)]; exact q)
  · by_cases hb : b = a
    · subst hb; rw [st_same] at q; cases q
      exact ⟨ok, hga, hr⟩
    · rw [st_ne hb] at q
      obtain ⟨h1, h2, h3⟩ := h.cell b c2 q
      have h3' : upd R a o b = none := h3
      rw [upd_ne hb] at h3'
      exact ⟨h1, h2, h3'⟩
end
end Dl

/-! Dl2: readings over data; names, constants, operators, tests, displays, subscripts, calls. -/
namespace Dl
open L2 PySem PyProof.Rows PySem.Spec

abbrev Rho := List (Option D)
abbrev DE := Rho → Mem → (D → Mem → Prop) → Prop
abbrev DT := Rho → Mem → (Bool → Mem → Prop) → Prop
abbrev DA := Rho → Mem → (List D → Mem → Prop) → Prop
abbrev D2 := D → D → Mem → (D → Mem → Prop) → Prop
abbrev D1 := D → Mem → (D → Mem → Prop) → Prop
abbrev DN := List D → Mem → (D → Mem → Prop) → Prop

def QE (K : Fg) (F : Fm) (G : Hp) (post : D → Mem → Prop) (Q : VK) : Prop := ∀ G' H' M' x v, Same G G' → HRel K F G' H' M' → Rep K G' x v → post v M' → Q x H'
def QT (K : Fg) (F : Fm) (G : Hp) (post : Bool → Mem → Prop) (Q : Bool → Hp → Prop) : Prop := ∀ G' H' M' b, Same G G' → HRel K F G' H' M' → post b M' → Q b H'
def QA (K : Fg) (F : Fm) (G : Hp) (post : List D → Mem → Prop) (Q : List V → Hp → Prop) : Prop := ∀ G' H' M' xs vs, Same G G' → HRel K F G' H' M' → Reps K G' xs vs → post vs M' → Q xs H'
def LE (K : Fg) (F : Fm) (d : DE) : TE := fun σ H Q => ∃ G ρ M post, HRel K F G H M ∧ SRel K G σ ρ ∧ d ρ M post ∧ QE K F G post Q
def LT (K : Fg) (F : Fm) (d : DT) : TT := fun σ H Q => ∃ G ρ M post, HRel K F G H M ∧ SRel K G σ ρ ∧ d ρ M post ∧ QT K F G post Q
def LA (K : Fg) (F : Fm) (d : DA) : TA := fun σ H Q => ∃ G ρ M post, HRel K F G H M ∧ SRel K G σ ρ ∧ d ρ M post ∧ QA K F G post Q
abbrev PD (X : Cx) (F : Fm) (e : Expr) (d : DE) : Prop := PE X e (LE X.K F d)
abbrev PDT (X : Cx) (F : Fm) (e : Expr) (d : DT) : Prop := PT X e (LT X.K F d)
abbrev PDW (X : Cx) (F : Fm) (e : Expr) (d : DT) : Prop := PW X e (LT X.K F d)
abbrev PDA (X : Cx) (F : Fm) (es : List Expr) (d : DA) : Prop := PA X es (LA X.K F d)

theorem pe_imp {X : Cx} {e : Expr} {t t' : TE} (h : PE X e t) (i : ∀ σ H Q, t' σ H Q → t σ H Q) : PE X e t' := ⟨fun pins s σ H Q I q => h.run pins s σ H Q I (i σ H Q q)⟩
theorem pt_imp {X : Cx} {e : Expr} {t t' : TT} (h : PT X e t) (i : ∀ σ H Q, t' σ H Q → t σ H Q) : PT X e t' := ⟨fun pins s σ H Q I q => h.run pins s σ H Q I (i σ H Q q)⟩
theorem pw_imp {X : Cx} {e : Expr} {t t' : TT} (h : PW X e t) (i : ∀ σ H Q, t' σ H Q → t σ H Q) : PW X e t' := ⟨fun wh pins s σ H Q I q => h.run wh pins s σ H Q I (i σ H Q q)⟩
theorem pa_imp {X : Cx} {es : List Expr} {t t' : TA} (h : PA X es t) (i : ∀ σ H Q, t' σ H Q → t σ H Q) : PA X es t' := ⟨fun pos pins s σ H Q I q => h.run pos pins s σ H Q I (i σ H Q q)⟩
theorem pe_or {X : Cx} {e : Expr} {t t' : TE} (h : PE X e t) (h' : PE X e t') : PE X e (fun σ H Q => t σ H Q ∨ t' σ H Q) :=
  ⟨fun pins s σ H Q I q => q.elim (h.run pins s σ H Q I) (h'.run pins s σ H Q I)⟩

section
variable {K : Fg} {F : Fm} {G H : Hp} {M : Mem} {post : D → Mem → Prop} {Q : VK}
theorem QE.here (k : QE K F G post Q) {x : V} {v : D} (hr : HRel K F G H M) (r : Rep K G x v) (q : post v M) : Q x H := k G H M x v (Same.refl _) hr r q
theorem QE.later (k : QE K F G post Q) {G' : Hp} (s : Same G G') : QE K F G' post Q := fun G2 H2 M2 x v s2 => k G2 H2 M2 x v (s.trans s2)
/-- a new object that never changes -/
theorem QE.new (k : QE K F G post Q) {v : D} {p : Addr} {o : HO} (hr : HRel K F G H M) (e : H p = none) (r : Rep K (upd G p o) (.ref p) v) (q : post v M) : Q (.ref p) (upd H p o) :=
  k _ _ M _ v (hr.new e).1 (hr.new e).2 r q
/-- a new object that may change -/
theorem QE.newC (k : QE K F G post Q) {p : Addr} {o : HO} {c : Cell} (hr : HRel K F G H M) (e : H p = none) (ok : CellOk K G (upd H p o) p c) (q : post (.obj p) (st M p c)) : Q (.ref p) (upd H p o) :=
  k _ _ _ _ _ (Same.refl _) (hr.newC e ok) .obj q
end

/-! ### names, constants -/
def dVar (i : Nat) : DE := fun ρ M Q => match ρ[i]? with
  | some (some v) => Q v M
  | _ => False
def dC (v : D) : DE := fun _ M Q => Q v M
section
variable {X : Cx} {F : Fm} {pos : Pos}
theorem pd_var (i : Nat) {x : Str} {pos : Pos} (hN : X.N[i]? = some x := by rfl) (hv : Vis X.env.scope x := by first | exact Or.inl rfl | exact Or.inr (Or.inl rfl) | exact Or.inr (Or.inr rfl)) (hd : (x == ("__debug__" : Str)) = false := by decide)
    (hcd : (x == ("__classdict__" : Str)) = false := by decide) : PD X F (.Name x pos) (dVar i) := pe_imp (pe_var hN hv hd hcd) fun σ H Q ⟨G, ρ, M, post, hr, sr, d, k⟩ => by
  unfold dVar at d
  split at d
  · rename_i v e
    obtain ⟨x, e1, r⟩ := sr.slot i v e
    exact ⟨x, e1, k.here hr r d⟩
  · exact d.elim
theorem pd_int {i : Int} {j : Nat} {pos : Pos} : PD X F (.Constant (.int i) j pos) (dC (.int i)) := pe_imp pe_int fun σ H Q ⟨G, ρ, M, post, hr, sr, d, k⟩ => k.here hr .int d
theorem pd_bl {b : Bool} {j : Nat} {pos : Pos} : PD X F (.Constant (.bool b) j pos) (dC (.bl b)) := pe_imp pe_bl fun σ H Q ⟨G, ρ, M, post, hr, sr, d, k⟩ => k.here hr .bl d
theorem pd_non {j : Nat} {pos : Pos} : PD X F (.Constant .none j pos) (dC .non) := pe_imp pe_non fun σ H Q ⟨G, ρ, M, post, hr, sr, d, k⟩ => k.here hr .non d
theorem pd_str {x : Str} {j : Nat} {pos : Pos} : PD X F (.Constant (.str x) j pos) (dC (.str x)) := pe_imp pe_str fun σ H Q ⟨G, ρ, M, post, hr, sr, d, k⟩ => k.here hr .str d
/-- a module's constant -/
theorem pd_glob {x : Str} {v : V} {d : D} {u : Value} {pos : Pos} (hm : X.mg x = some u) (r : RelV v u) (rd : ∀ G, Rep X.K G v d) (hg : Gl X x := by rfl) (hd : (x == ("__debug__" : Str)) = false := by decide) : PD X F (.Name x pos) (dC d) :=
  pe_imp (pe_glob hg hm r hd) fun σ H Q ⟨G, ρ, M, post, hr, sr, d, k⟩ => k.here hr (rd G) d
theorem pd_bltn {x : Str} {v : V} {d : D} {u : Value} {pos : Pos} (hm : X.mg x = none) (r : RelV v u) (rd : ∀ G, Rep X.K G v d) (hg : Gl X x := by rfl) (hv : bootBuiltins x = some u := by decide +kernel) (hn : x ≠ "__name__" := by decide) (hd : (x == ("__debug__" : Str)) = false := by decide) : PD X F (.Name x pos) (dC d) :=
  pe_imp (pe_bltn hg hm hv r hn hd) fun σ H Q ⟨G, ρ, M, post, hr, sr, d, k⟩ => k.here hr (rd G) d

/-! ### two values -/
def Ref2 (K : Fg) (F : Fm) (r : R2) (f : D2) : Prop := ∀ {G H : Hp} {M : Mem} {x y : V} {v w : D} {post : D → Mem → Prop} {Q : VK}, HRel K F G H M → Rep K G x v → Rep K G y w → f v w M post → QE K F G post Q → r x y H Q
def dBin (f : D2) (da db : DE) : DE := fun ρ M Q => da ρ M fun x M1 => db ρ M1 fun y M2 => f x y M2 Q
def dUn (f : D1) (da : DE) : DE := fun ρ M Q => da ρ M fun x M1 => f x M1 Q
variable {a b c e : Expr} {da db dc : DE} {f : D2}
theorem bin_imp {r : R2} (hf : Ref2 X.K F r f) : ∀ σ H Q, LE X.K F (dBin f da db) σ H Q → tOp r (LE X.K F da) (LE X.K F db) σ H Q := fun σ H Q ⟨G, ρ, M, post, hr, sr, d, k⟩ =>
  ⟨G, ρ, M, _, hr, sr, d, fun G1 H1 M1 x v s1 h1 rx q1 => ⟨G1, ρ, M1, _, h1, sr.mono s1, q1, fun G2 H2 M2 y w s2 h2 ry q2 => hf h2 (rx.mono s2) ry q2 (k.later (s1.trans s2))⟩⟩
theorem pd_op {op : Operator} {r : R2} (ho : OpR X (binaryOp op) r) (hf : Ref2 X.K F r f) (ha : PD X F a da) (hb : PD X F b db) : PD X F (.BinOp a op b pos) (dBin f da db) := pe_imp (pe_op ho ha hb) (bin_imp hf)
theorem pd_cmp {op : CmpOp} {r : R2} (ho : OpR X (compareOp op) r) (hf : Ref2 X.K F r f) (ha : PD X F a da) (hb : PD X F b db) (hm : behindInMarks op b = false) : PD X F (.Compare a [op] [b] pos) (dBin f da db) := pe_imp (pe_cmpR ho ha hb hm) (bin_imp hf)
/-- a value True or False as a test -/
def dTr (d : DE) : DT := fun ρ M Q => d ρ M fun x M1 => match x with
  | .bl k => Q k M1
  | _ => False
theorem pt_cmpd {op : CmpOp} {r : R2} (ho : OpR X (compareOp op) r) (hf : Ref2 X.K F r f) (ha : PD X F a da) (hb : PD X F b db) (hm : behindInMarks op b = false) : PDT X F (.Compare a [op] [b] pos) (dTr (dBin f da db)) :=
  pt_imp (pt_cmpR ho ha hb hm) fun σ H Q ⟨G, ρ, M, post, hr, sr, d, k⟩ => bin_imp hf σ H _ ⟨G, ρ, M, _, hr, sr, d, fun G1 H1 M1 x v s1 h1 rx q1 => by
    cases v with
    | bl b => cases rx; exact ⟨b, rfl, k G1 H1 M1 b s1 h1 q1⟩
    | _ => exact (show False from q1).elim⟩
def Ref1 (K : Fg) (F : Fm) (r : V → Hp → VK → Prop) (f : D1) : Prop := ∀ {G H : Hp} {M : Mem} {x : V} {v : D} {post : D → Mem → Prop} {Q : VK}, HRel K F G H M → Rep K G x v → f v M post → QE K F G post Q → r x H Q
theorem pd_un {op : UnaryOp} {r : V → Hp → VK → Prop} {f : D1} (ho : UnR X (unaryOp op) r) (hf : Ref1 X.K F r f) (ha : PD X F a da) : PD X F (.UnaryOp op a pos) (dUn f da) := pe_imp (pe_un ho ha) fun σ H Q ⟨G, ρ, M, post, hr, sr, d, k⟩ =>
  ⟨G, ρ, M, _, hr, sr, d, fun G1 H1 M1 x v s1 h1 rx q1 => hf h1 rx q1 (k.later s1)⟩

/-! ### operators -/
def DivOk (j : Int) : Prop := 0 < j ∧ j.natAbs.log2 < 9000
def f_add : D2 := fun v w M Q => match v, w with
  | .int i, .int j => Q (.int (i + j)) M
  | .str x, .str y => x.length + y.length ≤ sizeLine ∧ Q (.str (x ++ y)) M
  | .lst xs, .lst ys => xs.length + ys.length ≤ sizeLine ∧ Q (.lst (xs ++ ys)) M
  | .tup xs, .tup ys => xs ≠ [] ∧ xs.length + ys.length ≤ sizeLine ∧ Q (.tup (xs ++ ys)) M
  | _, _ => False
def f_sub : D2 := fun v w M Q => match v, w with
  | .int i, .int j => Q (.int (i - j)) M
  | .bl i, .bl j => Q (.int (b2i i - b2i j)) M
  | _, _ => False
def f_mul : D2 := fun v w M Q => match v, w with
  | .int i, .int j => CMulW i j ∧ Q (.int (i * j)) M
  | _, _ => False
def f_fdiv : D2 := fun v w M Q => match v, w with
  | .int i, .int j => DivOk j ∧ Q (.int (i / j)) M
  | _, _ => False
def f_mod : D2 := fun v w M Q => match v, w with
  | .int i, .int j => 0 < j ∧ Q (.int (i % j)) M
  | _, _ => False
def f_pow : D2 := fun v w M Q => match v, w with
  | .int i, .int j => CPow i j ∧ Q (.int (i ^ j.toNat)) M
  | _, _ => False
def f_shl : D2 := fun v w M Q => match v, w with
  | .int i, .int j => CPow i j ∧ Q (.int (i * 2 ^ j.toNat)) M
  | _, _ => False
def r_add (K : Fg) : R2 := fun x y H Q => rI0 (fun i j => .int (i + j)) x y H Q ∨ (∃ i j, x = .str i ∧ y = .str j ∧ i.length + j.length ≤ sizeLine ∧ Q (.str (i ++ j)) H) ∨ rCat x y H Q ∨ rCatT K x y H Q
theorem opr_add : OpR X (binaryOp .Add) (r_add X.K) := op_add.or (op_add_str.or (op_cat.or op_catT))
theorem ref_add {K : Fg} : Ref2 K F (r_add K) f_add := by
  intro G H M x y v w post Q hr rx ry d k
  unfold f_add at d
  split at d
  · cases rx; cases ry; exact .inl ⟨_, _, rfl, rfl, k.here hr .int d⟩
  · cases rx; cases ry; exact .inr (.inl ⟨_, _, rfl, rfl, d.1, k.here hr .str d.2⟩)
  · cases rx with
    | lst h1 r1 =>
      cases ry with
      | lst h2 r2 =>
        refine .inr (.inr (.inl ⟨_, _, _, _, rfl, rfl, hr.sub _ _ h1, hr.sub _ _ h2, by rw [r1.length, r2.length]; exact d.1, fun p hp => ?_⟩))
        exact k.new hr hp (.lst upd_same ((r1.mono (hr.new hp).1).app (r2.mono (hr.new hp).1))) d.2
  · cases rx with
    | tup h1 r1 =>
      cases ry with
      | tup h2 r2 =>
        obtain ⟨d0, d1, d2⟩ := d
        refine .inr (.inr (.inr ⟨_, _, _, _, rfl, rfl, .inl (.inl (hr.sub _ _ h1)), .inl (.inl (hr.sub _ _ h2)), fun z => ?_, by rw [r1.length, r2.length]; exact d1, fun z => ?_, fun z p hp => ?_⟩))
        · subst z; cases r1; exact d0 rfl
        · subst z; cases r2
          rw [List.append_nil] at d2
          exact k.here hr (.tup h1 r1) d2
        · exact k.new hr hp (.tup upd_same ((r1.mono (hr.new hp).1).app (r2.mono (hr.new hp).1))) d2
  · exact d.elim
theorem pd_add (ha : PD X F a da) (hb : PD X F b db) : PD X F (.BinOp a .Add b pos) (dBin f_add da db) := pd_op opr_add ref_add ha hb
theorem opr_subB : OpR X (binaryOp .Sub) (fun x y H Q => ∃ i j, x = .bl i ∧ y = .bl j ∧ Q (.int (b2i i - b2i j)) H) := by
  intro pins s σ H x y v u Q I rx ry h
  obtain ⟨i, j, rfl, rfl, q⟩ := h
  cases rx
  cases ry
  exact PyProof.Rows.sub_bool ⟨.int (b2i i - b2i j), H, I.tok _, ⟨_, rfl⟩, q⟩
theorem ref_sub {K : Fg} : Ref2 K F (fun x y H Q => rI0 (fun i j => .int (i - j)) x y H Q ∨ ∃ i j, x = .bl i ∧ y = .bl j ∧ Q (.int (b2i i - b2i j)) H) f_sub := by
  intro G H M x y v w post Q hr rx ry d k
  unfold f_sub at d
  split at d
  · cases rx; cases ry; exact .inl ⟨_, _, rfl, rfl, k.here hr .int d⟩
  · cases rx; cases ry; exact .inr ⟨_, _, rfl, rfl, k.here hr .int d⟩
  · exact d.elim
theorem pd_sub (ha : PD X F a da) (hb : PD X F b db) : PD X F (.BinOp a .Sub b pos) (dBin f_sub da db) := pd_op (op_sub.or opr_subB) ref_sub ha hb
theorem ref_mul {K : Fg} : Ref2 K F (rI CMulW fun i j => .int (i * j)) f_mul := by
  intro G H M x y v w post Q hr rx ry d k
  unfold f_mul at d
  split at d
  · cases rx; cases ry; exact ⟨_, _, rfl, rfl, d.1, k.here hr .int d.2⟩
  · exact d.elim
theorem pd_mul (ha : PD X F a da) (hb : PD X F b db) : PD X F (.BinOp a .Mult b pos) (dBin f_mul da db) := pd_op op_mulW ref_mul ha hb
theorem ref_fdiv {K : Fg} : Ref2 K F (rI CDivW fun i j => .int (i / j)) f_fdiv := by
  intro G H M x y v w post Q hr rx ry d k
  unfold f_fdiv at d
  split at d
  · cases rx; cases ry; exact ⟨_, _, rfl, rfl, d.1, k.here hr .int d.2⟩
  · exact d.elim
theorem pd_fdiv (ha : PD X F a da) (hb : PD X F b db) : PD X F (.BinOp a .FloorDiv b pos) (dBin f_fdiv da db) := pd_op op_fdivW ref_fdiv ha hb
theorem ref_mod {K : Fg} : Ref2 K F (rI (fun _ j => 0 < j) fun i j => .int (i % j)) f_mod := by
  intro G H M x y v w post Q hr rx ry d k
  unfold f_mod at d
  split at d
  · cases rx; cases ry; exact ⟨_, _, rfl, rfl, d.1, k.here hr .int d.2⟩
  · exact d.elim
theorem pd_mod (ha : PD X F a da) (hb : PD X F b db) : PD X F (.BinOp a .Mod b pos) (dBin f_mod da db) := pd_op op_mod ref_mod ha hb
theorem ref_pow {K : Fg} : Ref2 K F (rI CPow fun i j => .int (i ^ j.toNat)) f_pow := by
  intro G H M x y v w post Q hr rx ry d k
  unfold f_pow at d
  split at d
  · cases rx; cases ry; exact ⟨_, _, rfl, rfl, d.1, k.here hr .int d.2⟩
  · exact d.elim
theorem pd_pow (ha : PD X F a da) (hb : PD X F b db) : PD X F (.BinOp a .Pow b pos) (dBin f_pow da db) := pd_op op_pow ref_pow ha hb
theorem ref_shl {K : Fg} : Ref2 K F (rI CPow fun i j => .int (i * 2 ^ j.toNat)) f_shl := by
  intro G H M x y v w post Q hr rx ry d k
  unfold f_shl at d
  split at d
  · cases rx; cases ry; exact ⟨_, _, rfl, rfl, d.1, k.here hr .int d.2⟩
  · exact d.elim
theorem pd_shl (ha : PD X F a da) (hb : PD X F b db) : PD X F (.BinOp a .LShift b pos) (dBin f_shl da db) := pd_op op_shl ref_shl ha hb
def f_neg : D1 := fun v M Q => match v with
  | .int i => Q (.int (-i)) M
  | _ => False
theorem ref_neg {K : Fg} : Ref1 K F (rU fun i => .int (-i)) f_neg := by
  intro G H M x v post Q hr rx d k
  unfold f_neg at d
  split at d
  · cases rx; exact ⟨_, rfl, k.here hr .int d⟩
  · exact d.elim
theorem pd_neg (ha : PD X F a da) : PD X F (.UnaryOp .USub a pos) (dUn f_neg da) := pd_un un_neg ref_neg ha

/-! ### comparisons -/
def f_lt : D2 := fun v w M Q => match v, w with
  | .int i, .int j => Q (.bl (decide (i < j))) M
  | .str x, .str y => Q (.bl (decide (x.cps.toList < y.cps.toList))) M
  | _, _ => False
def f_le : D2 := fun v w M Q => match v, w with
  | .int i, .int j => Q (.bl (decide (i ≤ j))) M
  | _, _ => False
def f_gt : D2 := fun v w M Q => match v, w with
  | .int i, .int j => Q (.bl (decide (j < i))) M
  | _, _ => False
def f_ge : D2 := fun v w M Q => match v, w with
  | .int i, .int j => Q (.bl (decide (j ≤ i))) M
  | _, _ => False
theorem ref_lt {K : Fg} : Ref2 K F (fun x y H Q => rI0 (fun i j => .bl (decide (i < j))) x y H Q ∨ ∃ i j, x = .str i ∧ y = .str j ∧ Q (.bl (decide (i.cps.toList < j.cps.toList))) H) f_lt := by
  intro G H M x y v w post Q hr rx ry d k
  unfold f_lt at d
  split at d
  · cases rx; cases ry; exact .inl ⟨_, _, rfl, rfl, k.here hr .bl d⟩
  · cases rx; cases ry; exact .inr ⟨_, _, rfl, rfl, k.here hr .bl d⟩
  · exact d.elim
theorem ref_le {K : Fg} : Ref2 K F (rI0 fun i j => .bl (decide (i ≤ j))) f_le := by
  intro G H M x y v w post Q hr rx ry d k
  unfold f_le at d
  split at d
  · cases rx; cases ry; exact ⟨_, _, rfl, rfl, k.here hr .bl d⟩
  · exact d.elim
theorem ref_gt {K : Fg} : Ref2 K F (rI0 fun i j => .bl (decide (j < i))) f_gt := by
  intro G H M x y v w post Q hr rx ry d k
  unfold f_gt at d
  split at d
  · cases rx; cases ry; exact ⟨_, _, rfl, rfl, k.here hr .bl d⟩
  · exact d.elim
theorem ref_ge {K : Fg} : Ref2 K F (rI0 fun i j => .bl (decide (j ≤ i))) f_ge := by
  intro G H M x y v w post Q hr rx ry d k
  unfold f_ge at d
  split at d
  · cases rx; cases ry; exact ⟨_, _, rfl, rfl, k.here hr .bl d⟩
  · exact d.elim
theorem pd_lt (ha : PD X F a da) (hb : PD X F b db) : PD X F (.Compare a [.Lt] [b] pos) (dBin f_lt da db) := pd_cmp (op_lt.or op_lt_str) ref_lt ha hb (nomark _)
theorem pt_lt (ha : PD X F a da) (hb : PD X F b db) : PDT X F (.Compare a [.Lt] [b] pos) (dTr (dBin f_lt da db)) := pt_cmpd (op_lt.or op_lt_str) ref_lt ha hb (nomark _)
theorem pd_le (ha : PD X F a da) (hb : PD X F b db) : PD X F (.Compare a [.LtE] [b] pos) (dBin f_le da db) := pd_cmp op_le ref_le ha hb (nomark _)
theorem pt_le (ha : PD X F a da) (hb : PD X F b db) : PDT X F (.Compare a [.LtE] [b] pos) (dTr (dBin f_le da db)) := pt_cmpd op_le ref_le ha hb (nomark _)
theorem pd_gt (ha : PD X F a da) (hb : PD X F b db) : PD X F (.Compare a [.Gt] [b] pos) (dBin f_gt da db) := pd_cmp op_gt ref_gt ha hb (nomark _)
theorem pt_gt (ha : PD X F a da) (hb : PD X F b db) : PDT X F (.Compare a [.Gt] [b] pos) (dTr (dBin f_gt da db)) := pt_cmpd op_gt ref_gt ha hb (nomark _)
theorem pd_ge (ha : PD X F a da) (hb : PD X F b db) : PD X F (.Compare a [.GtE] [b] pos) (dBin f_ge da db) := pd_cmp op_ge ref_ge ha hb (nomark _)
theorem pt_ge (ha : PD X F a da) (hb : PD X F b db) : PDT X F (.Compare a [.GtE] [b] pos) (dTr (dBin f_ge da db)) := pt_cmpd op_ge ref_ge ha hb (nomark _)
/-! == over data -/
mutual
def toP : D → Option PyData
  | .non => some .none
  | .bl b => some (.bool b)
  | .int i => some (.int i)
  | .str s => some (.str s)
  | .tup ds => (toPs ds).map .tuple
  | .rt ds => (toPs ds).map .tuple
  | .lst ds => (toPs ds).map .list
  | .ro ds => (toPs ds).map .list
  | .ty _ => none
  | .obj _ => none
  | .dk _ => none
  | .dt _ => none
def toPs : List D → Option (List PyData)
  | [] => some []
  | d :: ds => match toP d, toPs ds with
    | some p, some ps => some (p :: ps)
    | _, _ => none
end
mutual
theorem Rep.dp {K : Fg} {G : Hp} {x : V} {d : D} : Rep K G x d → ∀ {p : PyData}, toP d = some p → Dp K G x p
  | .non, p, e => by simp only [toP] at e; cases e; exact .non
  | .bl, p, e => by simp only [toP] at e; cases e; exact .bl _
  | .int, p, e => by simp only [toP] at e; cases e; exact .int _
  | .str, p, e => by simp only [toP] at e; cases e; exact .str _
  | .ty, p, e => by simp only [toP] at e; cases e
  | .obj, p, e => by simp only [toP] at e; cases e
  | .tup h r, p, e => by
    simp only [toP] at e
    obtain ⟨ps, e1, e2⟩ := Option.map_eq_some_iff.mp e
    subst e2
    exact .tup (.inl (.inl h)) (Reps.dp r e1)
  | .rt h r, p, e => by
    simp only [toP] at e
    obtain ⟨ps, e1, e2⟩ := Option.map_eq_some_iff.mp e
    subst e2
    exact .tup h (Reps.dp r e1)
  | .lst h r, p, e => by
    simp only [toP] at e
    obtain ⟨ps, e1, e2⟩ := Option.map_eq_some_iff.mp e
    subst e2
    exact .lst (.inl (.inl h)) (Reps.dp r e1)
  | .ro h r, p, e => by
    simp only [toP] at e
    obtain ⟨ps, e1, e2⟩ := Option.map_eq_some_iff.mp e
    subst e2
    exact .lst h (Reps.dp r e1)
  | .dk _ _ _, p, e => by simp only [toP] at e; cases e
  | .dt _ _ _, p, e => by simp only [toP] at e; cases e
theorem Reps.dp {K : Fg} {G : Hp} {xs : List V} {ds : List D} : Reps K G xs ds → ∀ {ps : List PyData}, toPs ds = some ps → DpAll K G xs ps
  | .nil, ps, e => by simp only [toPs] at e; cases e; exact .nil
  | .cons (d := d) (ds := ds) h t, ps, e => by
    simp only [toPs] at e
    cases e1 : toP d with
    | none => rw [e1] at e; cases e
    | some p =>
      cases e2 : toPs ds with
      | none => rw [e1, e2] at e; cases e
      | some qs => rw [e1, e2] at e; cases e; exact .cons (Rep.dp h e1) (Reps.dp t e2)
end
theorem sqT_mono {K : Fg} {G H : Hp} {a : Addr} {xs : List V} (s : Same G H) (h : SqT K G a xs) : SqT K H a xs := by
  rcases h with (h | ⟨o, h⟩) | h
  · exact .inl (.inl (s _ _ h))
  · exact .inl (.inr ⟨o, s _ _ h⟩)
  · exact .inr h
mutual
theorem dp_mono {K : Fg} {G H : Hp} (s : Same G H) {x : V} {d : PyData} : Dp K G x d → Dp K H x d
  | .non => .non
  | .bl b => .bl b
  | .int i => .int i
  | .str i => .str i
  | .lst h r => .lst (s.seq h) (dpAll_mono s r)
  | .tup h r => .tup (sqT_mono s h) (dpAll_mono s r)
theorem dpAll_mono {K : Fg} {G H : Hp} (s : Same G H) {x : List V} {d : List PyData} : DpAll K G x d → DpAll K H x d
  | .nil => .nil
  | .cons h t => .cons (dp_mono s h) (dpAll_mono s t)
end
def f_eqD (neg : Bool) : D2 := fun v w M Q => match toP v, toP w with
  | some p, some q => SeqAt.shaped p = true ∧ SeqAt.shaped q = true ∧ Q (.bl (if neg then !PyData.eqv p q else PyData.eqv p q)) M
  | _, _ => False
def f_eq : D2 := f_eqD false
def f_ne : D2 := f_eqD true
theorem ref_eq {K : Fg} : Ref2 K F (rEqD K) f_eq := by
  intro G H M x y v w post Q hr rx ry d k
  unfold f_eq f_eqD at d
  split at d
  · rename_i p q e1 e2
    exact ⟨p, q, dp_mono hr.sub (rx.dp e1), dp_mono hr.sub (ry.dp e2), d.1, d.2.1, k.here hr .bl d.2.2⟩
  · exact d.elim
theorem ref_ne {K : Fg} : Ref2 K F (rNeD K) f_ne := by
  intro G H M x y v w post Q hr rx ry d k
  unfold f_ne f_eqD at d
  split at d
  · rename_i p q e1 e2
    exact ⟨p, q, dp_mono hr.sub (rx.dp e1), dp_mono hr.sub (ry.dp e2), d.1, d.2.1, k.here hr .bl d.2.2⟩
  · exact d.elim
theorem pd_eq (hu : X.A.units + 64 < cLine) (ha : PD X F a da) (hb : PD X F b db) : PD X F (.Compare a [.Eq] [b] pos) (dBin f_eq da db) := pd_cmp (op_eqD hu) ref_eq ha hb (nomark _)
theorem pt_eq (hu : X.A.units + 64 < cLine) (ha : PD X F a da) (hb : PD X F b db) : PDT X F (.Compare a [.Eq] [b] pos) (dTr (dBin f_eq da db)) := pt_cmpd (op_eqD hu) ref_eq ha hb (nomark _)
theorem pd_ne (hu : X.A.units + 64 < cLine) (ha : PD X F a da) (hb : PD X F b db) : PD X F (.Compare a [.NotEq] [b] pos) (dBin f_ne da db) := pd_cmp (op_neD hu) ref_ne ha hb (nomark _)
theorem pt_ne (hu : X.A.units + 64 < cLine) (ha : PD X F a da) (hb : PD X F b db) : PDT X F (.Compare a [.NotEq] [b] pos) (dTr (dBin f_ne da db)) := pt_cmpd (op_neD hu) ref_ne ha hb (nomark _)
/-- is None -/
def isNon : D → Bool
  | .non => true
  | _ => false
theorem Rep.isNon {K : Fg} {G : Hp} {x : V} {d : D} (r : Rep K G x d) : decide (x = .non) = isNon d := by cases r <;> simp [Dl.isNon]
def f_is (neg : Bool) : D1 := fun v M Q => Q (.bl (if neg then !isNon v else isNon v)) M
theorem pd_isN {j : Nat} {pos' : Pos} (ha : PD X F a da) : PD X F (.Compare a [.Is] [.Constant .none j pos'] pos) (dUn (f_is false) da) := pe_imp (pe_cmp (pc_isN ha)) fun σ H Q ⟨G, ρ, M, post, hr, sr, d, k⟩ =>
  ⟨G, ρ, M, _, hr, sr, d, fun G1 H1 M1 x v s1 h1 rx q1 => by
    show Q (V.bl (decide (x = V.non))) H1
    rw [rx.isNon]; exact (k.later s1).here h1 .bl q1⟩
theorem pt_isN {j : Nat} {pos' : Pos} (ha : PD X F a da) : PDT X F (.Compare a [.Is] [.Constant .none j pos'] pos) (dTr (dUn (f_is false) da)) := pt_imp (pt_cmp (pc_isN ha)) fun σ H Q ⟨G, ρ, M, post, hr, sr, d, k⟩ =>
  ⟨G, ρ, M, _, hr, sr, d, fun G1 H1 M1 x v s1 h1 rx q1 => ⟨_, rfl, by rw [rx.isNon]; exact k _ _ _ _ s1 h1 q1⟩⟩
theorem pd_notN {j : Nat} {pos' : Pos} (ha : PD X F a da) : PD X F (.Compare a [.IsNot] [.Constant .none j pos'] pos) (dUn (f_is true) da) := pe_imp (pe_cmp (pc_notN ha)) fun σ H Q ⟨G, ρ, M, post, hr, sr, d, k⟩ =>
  ⟨G, ρ, M, _, hr, sr, d, fun G1 H1 M1 x v s1 h1 rx q1 => by
    show Q (V.bl (!decide (x = V.non))) H1
    rw [rx.isNon]; exact (k.later s1).here h1 .bl q1⟩
theorem pt_notN {j : Nat} {pos' : Pos} (ha : PD X F a da) : PDT X F (.Compare a [.IsNot] [.Constant .none j pos'] pos) (dTr (dUn (f_is true) da)) := pt_imp (pt_cmp (pc_notN ha)) fun σ H Q ⟨G, ρ, M, post, hr, sr, d, k⟩ =>
  ⟨G, ρ, M, _, hr, sr, d, fun G1 H1 M1 x v s1 h1 rx q1 => ⟨_, rfl, by rw [rx.isNon]; exact k _ _ _ _ s1 h1 q1⟩⟩

/-! ### and, or, not, if -/
variable {rest : List Expr} {dt du : DT}
def tAndD (t u : DT) : DT := fun ρ M Q => t ρ M fun c M1 => if c = true then u ρ M1 Q else Q false M1
def tOrD (t u : DT) : DT := fun ρ M Q => t ρ M fun c M1 => if c = true then Q true M1 else u ρ M1 Q
def tNotD (t : DT) : DT := fun ρ M Q => t ρ M fun c M1 => Q (!c) M1
theorem pw_and1d (ha : PDT X F a dt) : PDW X F (.BoolOp .And [a] pos) dt := pw_and1 ha
theorem pw_or1d (ha : PDT X F a dt) : PDW X F (.BoolOp .Or [a] pos) dt := pw_or1 ha
theorem pw_andd (ha : PDT X F a dt) (hb : PDW X F (.BoolOp .And (b :: rest) pos) du) : PDW X F (.BoolOp .And (a :: b :: rest) pos) (tAndD dt du) := pw_imp (pw_and ha hb) fun σ H Q ⟨G, ρ, M, post, hr, sr, d, k⟩ =>
  ⟨G, ρ, M, _, hr, sr, d, fun G1 H1 M1 c s1 h1 q1 => by
    cases c with
    | true => exact ⟨G1, ρ, M1, post, h1, sr.mono s1, q1, fun G2 H2 M2 b s2 => k G2 H2 M2 b (s1.trans s2)⟩
    | false => exact k _ _ _ _ s1 h1 q1⟩
theorem pw_ord (ha : PDT X F a dt) (hb : PDW X F (.BoolOp .Or (b :: rest) pos) du) : PDW X F (.BoolOp .Or (a :: b :: rest) pos) (tOrD dt du) := pw_imp (pw_or ha hb) fun σ H Q ⟨G, ρ, M, post, hr, sr, d, k⟩ =>
  ⟨G, ρ, M, _, hr, sr, d, fun G1 H1 M1 c s1 h1 q1 => by
    cases c with
    | false => exact ⟨G1, ρ, M1, post, h1, sr.mono s1, q1, fun G2 H2 M2 b s2 => k G2 H2 M2 b (s1.trans s2)⟩
    | true => exact k _ _ _ _ s1 h1 q1⟩
theorem ptw {e : Expr} (h : PDW X F e dt) : PDT X F e dt := h.pt
theorem pt_notd (ha : PDT X F a dt) : PDT X F (.UnaryOp .Not a pos) (tNotD dt) := pt_imp (pt_not ha) fun σ H Q ⟨G, ρ, M, post, hr, sr, d, k⟩ =>
  ⟨G, ρ, M, _, hr, sr, d, fun G1 H1 M1 c s1 h1 q1 => k _ _ _ _ s1 h1 q1⟩
/-- values, all but the last True or False -/
def dAnd (da db : DE) : DE := fun ρ M Q => da ρ M fun x M1 => match x with
  | .bl c => if c = true then db ρ M1 Q else Q (.bl false) M1
  | _ => False
def dOr (da db : DE) : DE := fun ρ M Q => da ρ M fun x M1 => match x with
  | .bl c => if c = true then Q (.bl true) M1 else db ρ M1 Q
  | _ => False
theorem pd_one {op : BoolOp} (ha : PD X F a da) : PD X F (.BoolOp op [a] pos) da := pe_one ha
theorem pd_and (ha : PD X F a da) (hb : PD X F (.BoolOp .And (b :: rest) pos) db) : PD X F (.BoolOp .And (a :: b :: rest) pos) (dAnd da db) := pe_imp (pe_and ha hb) fun σ H Q ⟨G, ρ, M, post, hr, sr, d, k⟩ =>
  ⟨G, ρ, M, _, hr, sr, d, fun G1 H1 M1 x v s1 h1 rx q1 => by
    cases v with
    | bl c =>
      cases rx
      refine ⟨c, rfl, ?_⟩
      cases c with
      | true => exact ⟨G1, ρ, M1, post, h1, sr.mono s1, q1, k.later s1⟩
      | false => exact (k.later s1).here h1 .bl q1
    | _ => exact (show False from q1).elim⟩
theorem pd_orv (ha : PD X F a da) (hb : PD X F (.BoolOp .Or (b :: rest) pos) db) : PD X F (.BoolOp .Or (a :: b :: rest) pos) (dOr da db) := pe_imp (L2.pe_or ha hb) fun σ H Q ⟨G, ρ, M, post, hr, sr, d, k⟩ =>
  ⟨G, ρ, M, _, hr, sr, d, fun G1 H1 M1 x v s1 h1 rx q1 => by
    cases v with
    | bl c =>
      cases rx
      refine ⟨c, rfl, ?_⟩
      cases c with
      | false => exact ⟨G1, ρ, M1, post, h1, sr.mono s1, q1, k.later s1⟩
      | true => exact (k.later s1).here h1 .bl q1
    | _ => exact (show False from q1).elim⟩
def f_not : D1 := fun v M Q => match v with
  | .bl c => Q (.bl (!c)) M
  | _ => False
theorem pd_not (ha : PD X F a da) : PD X F (.UnaryOp .Not a pos) (dUn f_not da) := pe_imp (pe_not ha) fun σ H Q ⟨G, ρ, M, post, hr, sr, d, k⟩ =>
  ⟨G, ρ, M, _, hr, sr, d, fun G1 H1 M1 x v s1 h1 rx q1 => by
    cases v with
    | bl c => cases rx; exact ⟨c, rfl, (k.later s1).here h1 .bl q1⟩
    | _ => exact (show False from q1).elim⟩
def dIf (t : DT) (da db : DE) : DE := fun ρ M Q => t ρ M fun c M1 => if c = true then da ρ M1 Q else db ρ M1 Q
theorem pd_if {c : Expr} (hc : PDT X F c dt) (ha : PD X F a da) (hb : PD X F b db) : PD X F (.IfExp c a b pos) (dIf dt da db) := pe_imp (pe_ifExp hc ha hb) fun σ H Q ⟨G, ρ, M, post, hr, sr, d, k⟩ =>
  ⟨G, ρ, M, _, hr, sr, d, fun G1 H1 M1 c s1 h1 q1 => by
    cases c with
    | true => exact ⟨G1, ρ, M1, post, h1, sr.mono s1, q1, k.later s1⟩
    | false => exact ⟨G1, ρ, M1, post, h1, sr.mono s1, q1, k.later s1⟩⟩
/-- an expression that gives True or False, as a test -/
theorem pt_vald (ha : PD X F a da) (he : ∀ whole, isTrue a X.env whole = (do let v ← whole; standAt a.pos; holding [v] (truthy v)) := by intro _; rfl) : PDT X F a (dTr da) := pt_imp (pt_val ha he) fun σ H Q ⟨G, ρ, M, post, hr, sr, d, k⟩ =>
  ⟨G, ρ, M, _, hr, sr, d, fun G1 H1 M1 x v s1 h1 rx q1 => by
    cases v with
    | bl c => cases rx; exact ⟨c, rfl, k _ _ _ _ s1 h1 q1⟩
    | _ => exact (show False from q1).elim⟩
end
end Dl

/-! Dl3: arguments, displays, subscripts, slices, dicts, calls of built-ins. -/
namespace Dl
open L2 PySem PyProof.Rows PySem.Spec

theorem so_inj (a b : String) : (Str.ofString a = Str.ofString b) = (a = b) := by
  refine propext ⟨fun h => ?_, fun h => by rw [h]⟩
  rw [Str.ofString_eq_toList, Str.ofString_eq_toList] at h
  have h1 : (a.toList.map Char.toNat).toArray = (b.toList.map Char.toNat).toArray := congrArg Str.cps h
  have h2 : a.toList.map Char.toNat = b.toList.map Char.toNat := by simpa using congrArg Array.toList h1
  have h3 : ∀ x y : Char, x.toNat = y.toNat → x = y := fun x y e => Char.ext (UInt32.toNat_inj.mp e)
  have h4 : ∀ l m : List Char, l.map Char.toNat = m.map Char.toNat → l = m := by
    intro l
    induction l with
    | nil => intro m e; cases m with
      | nil => rfl
      | cons _ _ => cases e
    | cons c l ih => intro m e; cases m with
      | nil => cases e
      | cons c' m =>
        rw [List.map_cons, List.map_cons] at e
        injection e with e1 e2
        rw [h3 _ _ e1, ih m e2]
  exact String.toList_inj.mp (h4 _ _ h2)

section
variable {X : Cx} {F : Fm} {pos : Pos} {a b c e : Expr} {es : List Expr} {da db dc : DE} {dA : DA} {f : D2}
/-! ### argument lists, displays -/
def daNil : DA := fun _ M Q => Q [] M
def daCons (d : DE) (r : DA) : DA := fun ρ M Q => d ρ M fun x M1 => r ρ M1 fun xs M2 => Q (x :: xs) M2
theorem pd_nil : PDA X F [] daNil := pa_imp pa_nil fun σ H Q ⟨G, ρ, M, post, hr, sr, d, k⟩ => k G H M [] [] (Same.refl _) hr .nil d
theorem pd_cons (ha : PD X F e da) (hr : PDA X F es dA) (hs : starEach (e :: es) X.env = (false, eval e X.env) :: starEach es X.env := by rfl) : PDA X F (e :: es) (daCons da dA) :=
  pa_imp (pa_cons ha hr hs) fun σ H Q ⟨G, ρ, M, post, hr, sr, d, k⟩ => ⟨G, ρ, M, _, hr, sr, d, fun G1 H1 M1 x v s1 h1 rx q1 =>
    ⟨G1, ρ, M1, _, h1, sr.mono s1, q1, fun G2 H2 M2 xs vs s2 h2 rs q2 => k G2 H2 M2 _ _ (s1.trans s2) h2 (.cons (rx.mono s2) rs) q2⟩⟩
def dTup (t : DA) : DE := fun ρ M Q => t ρ M fun vs M1 => vs.length ≤ sizeLine ∧ Q (.tup vs) M1
/-- a list that never changes -/
def dLst (t : DA) : DE := fun ρ M Q => t ρ M fun vs M1 => vs.length ≤ sizeLine ∧ Q (.lst vs) M1
/-- a list that may change -/
def dLstC (t : DA) : DE := fun ρ M Q => t ρ M fun vs M1 => vs.length ≤ sizeLine ∧ ∀ p, M1 p = none → Q (.obj p) (st M1 p (.lst vs))
theorem pd_tup {x1 : Nat} (h : PDA X F es dA) : PD X F (.Tuple es x1 pos) (dTup dA) := pe_imp (pe_tup h) fun σ H Q ⟨G, ρ, M, post, hr, sr, d, k⟩ =>
  ⟨G, ρ, M, _, hr, sr, d, fun G1 H1 M1 xs vs s1 h1 rs q1 => ⟨by rw [rs.length]; exact q1.1, fun p hp => (k.later s1).new h1 hp (.tup upd_same (rs.mono (h1.new hp).1)) q1.2⟩⟩
theorem pd_lst (h : PDA X F es dA) : PD X F (.List es pos) (dLst dA) := pe_imp (pe_lst h) fun σ H Q ⟨G, ρ, M, post, hr, sr, d, k⟩ =>
  ⟨G, ρ, M, _, hr, sr, d, fun G1 H1 M1 xs vs s1 h1 rs q1 => ⟨by rw [rs.length]; exact q1.1, fun p hp => (k.later s1).new h1 hp (.lst upd_same (rs.mono (h1.new hp).1)) q1.2⟩⟩
theorem pd_lstC (h : PDA X F es dA) : PD X F (.List es pos) (dLstC dA) := pe_imp (pe_lst h) fun σ H Q ⟨G, ρ, M, post, hr, sr, d, k⟩ =>
  ⟨G, ρ, M, _, hr, sr, d, fun G1 H1 M1 xs vs s1 h1 rs q1 => ⟨by rw [rs.length]; exact q1.1, fun p hp => (k.later s1).newC (c := .lst vs) h1 hp ⟨_, upd_same, rs⟩ (q1.2 p (h1.mnone hp).1)⟩⟩
end

/-! ### dicts as lists of pairs -/
section
variable {κ α : Type} [DecidableEq κ]
def dget : List (κ × α) → κ → Option α
  | [], _ => none
  | (j, v) :: r, k => if j = k then some v else dget r k
def dhas : List (κ × α) → κ → Bool
  | [], _ => false
  | (j, _) :: r, k => if j = k then true else dhas r k
def dsub : List (κ × α) → κ → α → List (κ × α)
  | [], _, _ => []
  | (j, u) :: r, k, v => (if j = k then (j, v) else (j, u)) :: dsub r k v
def dput (kvs : List (κ × α)) (k : κ) (v : α) : List (κ × α) := if dhas kvs k = true then dsub kvs k v else kvs ++ [(k, v)]
theorem dhas_get : ∀ (kvs : List (κ × α)) (k : κ), dhas kvs k = (dget kvs k).isSome
  | [], _ => rfl
  | (j, v) :: r, k => by
    unfold dhas dget
    by_cases h : j = k
    · rw [if_pos h, if_pos h]; rfl
    · rw [if_neg h, if_neg h]; exact dhas_get r k
theorem dsub_fst (k : κ) (v : α) : ∀ (kvs : List (κ × α)), (dsub kvs k v).map (·.1) = kvs.map (·.1)
  | [] => rfl
  | (j, u) :: r => by
    unfold dsub
    rw [List.map_cons, List.map_cons, dsub_fst k v r]
    by_cases h : j = k
    · rw [if_pos h]
    · rw [if_neg h]
theorem dhas_fst {β : Type} : ∀ {kvs : List (κ × α)} {ys : List (κ × β)} (k : κ), ys.map (·.1) = kvs.map (·.1) → dhas ys k = dhas kvs k
  | [], [], _, _ => rfl
  | [], _ :: _, _, e => by cases e
  | _ :: _, [], _, e => by cases e
  | (j, v) :: r, (j', u) :: r', k, e => by
    rw [List.map_cons, List.map_cons] at e
    injection e with e1 e2
    have e1 : j' = j := e1
    subst e1
    unfold dhas
    rw [dhas_fst k e2]
theorem dput_fst {β : Type} {kvs : List (κ × α)} {ys : List (κ × β)} (k : κ) (v : α) (u : β) (e : ys.map (·.1) = kvs.map (·.1)) : (dput ys k u).map (·.1) = (dput kvs k v).map (·.1) := by
  unfold dput
  rw [dhas_fst k e]
  split
  · rw [dsub_fst, dsub_fst, e]
  · rw [List.map_append, List.map_append, e]; rfl
end
theorem valV_dget {κ : Type} [DecidableEq κ] : ∀ (kvs : List (κ × V)) (k : κ), valV kvs k = dget kvs k
  | [], k => rfl
  | (j, v) :: r, k => by
    unfold dget
    by_cases h : j = k
    · rw [if_pos h, valV_pos h]
    · rw [if_neg h, valV_neg h]; exact valV_dget r k
theorem any_dhas {κ : Type} [DecidableEq κ] : ∀ (kvs : List (κ × V)) (k : κ), (kvs.any fun kv => decide (kv.1 = k)) = dhas kvs k
  | [], _ => rfl
  | (j, u) :: r, k => by
    rw [List.any_cons, any_dhas r k]
    by_cases h : j = k
    · rw [decide_eq_true h]; unfold dhas; rw [if_pos h]; rfl
    · rw [decide_eq_false h, Bool.false_or]
      show dhas r k = if j = k then true else dhas r k
      rw [if_neg h]
theorem map_dsub {κ : Type} [DecidableEq κ] (k : κ) (v : V) : ∀ (kvs : List (κ × V)), (kvs.map fun kv => if kv.1 = k then (kv.1, v) else kv) = dsub kvs k v
  | [] => rfl
  | (j, u) :: r => by rw [List.map_cons, map_dsub k v r]; rfl
theorem putK_dput {κ : Type} [DecidableEq κ] (k : κ) (v : V) (kvs : List (κ × V)) : putK kvs k v = dput kvs k v := by
  unfold putK dput
  rw [any_dhas, map_dsub]
section
variable {K : Fg} {G : Hp} {κ : Type} [DecidableEq κ]
theorem Reps.dget : ∀ {ys : List (κ × V)} {kvs : List (κ × D)} {k : κ} {d : D}, ys.map (·.1) = kvs.map (·.1) → Reps K G (ys.map (·.2)) (kvs.map (·.2)) → dget kvs k = some d → ∃ x, Dl.dget ys k = some x ∧ Rep K G x d
  | _, [], _, _, _, _, q => by cases q
  | [], _ :: _, _, _, e, _, _ => by cases e
  | (j', u) :: r', (j, v) :: r, k, d, e, rs, q => by
    rw [List.map_cons, List.map_cons] at e
    injection e with e1 e2
    have e1 : j' = j := e1
    subst e1
    cases rs with
    | cons h t =>
      unfold Dl.dget at q ⊢
      by_cases hk : j' = k
      · rw [if_pos hk] at q ⊢
        cases q
        exact ⟨u, rfl, h⟩
      · rw [if_neg hk] at q ⊢
        exact Reps.dget e2 t q
theorem Reps.dnone : ∀ {ys : List (κ × V)} {kvs : List (κ × D)} {k : κ}, ys.map (·.1) = kvs.map (·.1) → Dl.dget kvs k = none → Dl.dget ys k = none
  | [], _, _, _, _ => rfl
  | _ :: _, [], _, e, _ => by cases e
  | (j', u) :: r', (j, v) :: r, k, e, q => by
    rw [List.map_cons, List.map_cons] at e
    injection e with e1 e2
    have e1 : j' = j := e1
    subst e1
    unfold Dl.dget at q ⊢
    by_cases hk : j' = k
    · rw [if_pos hk] at q; cases q
    · rw [if_neg hk] at q ⊢
      exact Reps.dnone e2 q
theorem Reps.dsub {x : V} {d : D} (h : Rep K G x d) {k : κ} : ∀ {ys : List (κ × V)} {kvs : List (κ × D)}, ys.map (·.1) = kvs.map (·.1) → Reps K G (ys.map (·.2)) (kvs.map (·.2)) → Reps K G ((dsub ys k x).map (·.2)) ((dsub kvs k d).map (·.2))
  | [], [], _, _ => .nil
  | [], _ :: _, e, _ => by cases e
  | _ :: _, [], e, _ => by cases e
  | (j', u) :: r', (j, v) :: r, e, rs => by
    rw [List.map_cons, List.map_cons] at e
    injection e with e1 e2
    have e1 : j' = j := e1
    subst e1
    cases rs with
    | cons h1 t =>
      have ih := Reps.dsub h (k := k) e2 t
      unfold Dl.dsub
      rw [List.map_cons, List.map_cons]
      by_cases hk : j' = k
      · rw [if_pos hk, if_pos hk]; exact .cons h ih
      · rw [if_neg hk, if_neg hk]; exact .cons h1 ih
theorem Reps.dput {x : V} {d : D} (h : Rep K G x d) {k : κ} {ys : List (κ × V)} {kvs : List (κ × D)} (e : ys.map (·.1) = kvs.map (·.1)) (rs : Reps K G (ys.map (·.2)) (kvs.map (·.2))) : Reps K G ((dput ys k x).map (·.2)) ((dput kvs k d).map (·.2)) := by
  unfold Dl.dput
  rw [dhas_fst k e]
  split
  · exact Reps.dsub h e rs
  · rw [List.map_append, List.map_append]; exact rs.app (.cons h .nil)
end
def keyD : D → Option Key
  | .int i => some (.inl i)
  | .str s => some (.inr s)
  | _ => none
def keysD : List D → Option (List Key)
  | [] => some []
  | d :: ds => match keyD d, keysD ds with
    | some k, some ks => some (k :: ks)
    | _, _ => none
def keyT : D → Option (List Key)
  | .tup ds => keysD ds
  | _ => none
section
variable {K : Fg} {G : Hp}
theorem Rep.key {x : V} {d : D} {k : Key} (r : Rep K G x d) (e : keyD d = some k) : x = kV k := by
  cases r <;> simp only [keyD] at e <;> cases e <;> rfl
theorem Reps.keys : ∀ {xs : List V} {ds : List D} {ks : List Key}, Reps K G xs ds → keysD ds = some ks → xs = ks.map kV
  | _, _, ks, .nil, e => by simp only [keysD] at e; cases e; rfl
  | _, _, ks, .cons (d := d) (ds := ds) h t, e => by
    simp only [keysD] at e
    cases e1 : keyD d with
    | none => rw [e1] at e; cases e
    | some k =>
      cases e2 : keysD ds with
      | none => rw [e1, e2] at e; cases e
      | some qs => rw [e1, e2] at e; cases e; rw [Rep.key h e1, Reps.keys t e2]; rfl
theorem Rep.keyT {x : V} {d : D} {k : List Key} (r : Rep K G x d) (e : keyT d = some k) : ∃ b, x = .ref b ∧ G b = some (.tup (k.map kV)) := by
  cases r <;> simp only [Dl.keyT] at e <;> first
    | (cases e; done)
    | (rename_i h rs; exact ⟨_, rfl, by rw [h, Reps.keys rs e]⟩)
end
/-- what stands in a dict under a key: none: it is no dict with such keys -/
def dlook (v w : D) (M : Mem) : Option (Option D) := match v with
  | .dk kvs => (keyD w).map (dget kvs)
  | .dt kvs => (keyT w).map (dget kvs)
  | .obj a => match M a with
    | some (.dk kvs) => (keyD w).map (dget kvs)
    | some (.dt kvs) => (keyT w).map (dget kvs)
    | _ => none
  | _ => none
theorem dlook_ok {K : Fg} {F : Fm} {G H : Hp} {M : Mem} {x y : V} {v w : D} {o : Option D} (hr : HRel K F G H M) (rx : Rep K G x v) (ry : Rep K G y w) (e : dlook v w M = some o) :
    ∃ a o', x = .ref a ∧ DGet H a y o' ∧ ((o = none ∧ o' = none) ∨ ∃ d z, o = some d ∧ o' = some z ∧ Rep K G z d) := by
  have core : ∀ {κ : Type} [DecidableEq κ] {ys : List (κ × V)} {kvs : List (κ × D)} {k : κ}, ys.map (·.1) = kvs.map (·.1) → Reps K G (ys.map (·.2)) (kvs.map (·.2)) → ((dget kvs k = none ∧ valV ys k = none) ∨ ∃ d z, dget kvs k = some d ∧ valV ys k = some z ∧ Rep K G z d) := by
    intro κ _ ys kvs k e1 rs
    cases q : dget kvs k with
    | none => exact .inl ⟨rfl, by rw [valV_dget]; exact Reps.dnone e1 q⟩
    | some d => obtain ⟨z, h1, h2⟩ := Reps.dget e1 rs q; exact .inr ⟨d, z, rfl, by rw [valV_dget]; exact h1, h2⟩
  have kk : ∀ {a : Addr} {ys : List (Key × V)} {kvs : List (Key × D)}, Rd H a (.dK ys) → ys.map (·.1) = kvs.map (·.1) → Reps K G (ys.map (·.2)) (kvs.map (·.2)) → (keyD w).map (dget kvs) = some o →
      ∃ a' o', V.ref a = .ref a' ∧ DGet H a' y o' ∧ ((o = none ∧ o' = none) ∨ ∃ d z, o = some d ∧ o' = some z ∧ Rep K G z d) := by
    intro a ys kvs h e1 rs eo
    obtain ⟨k, ek, eo⟩ := Option.map_eq_some_iff.mp eo
    subst eo
    rw [ry.key ek]
    exact ⟨a, _, rfl, .inl ⟨_, _, h, rfl, rfl⟩, core e1 rs⟩
  have tt : ∀ {a : Addr} {ys : List (List Key × V)} {kvs : List (List Key × D)}, Rd H a (.dT ys) → ys.map (·.1) = kvs.map (·.1) → Reps K G (ys.map (·.2)) (kvs.map (·.2)) → (keyT w).map (dget kvs) = some o →
      ∃ a' o', V.ref a = .ref a' ∧ DGet H a' y o' ∧ ((o = none ∧ o' = none) ∨ ∃ d z, o = some d ∧ o' = some z ∧ Rep K G z d) := by
    intro a ys kvs h e1 rs eo
    obtain ⟨k, ek, eo⟩ := Option.map_eq_some_iff.mp eo
    subst eo
    obtain ⟨b, eb, hb⟩ := ry.keyT ek
    subst eb
    exact ⟨a, _, rfl, .inr ⟨_, _, _, h, rfl, hr.sub _ _ hb, rfl⟩, core e1 rs⟩
  unfold dlook at e
  cases rx with
  | dk h e1 rs => exact kk (.inr (h.imp fun _ q => hr.sub _ _ q)) e1 rs e
  | dt h e1 rs => exact tt (.inr (h.imp fun _ q => hr.sub _ _ q)) e1 rs e
  | obj =>
    rename_i a
    dsimp only at e
    cases q : M a with
    | none => rw [q] at e; cases e
    | some c =>
      rw [q] at e
      cases c with
      | dk kvs => obtain ⟨ys, h1, h2, h3⟩ := (hr.cell a _ q).1; exact kk (.inl h1) h2 h3 e
      | dt kvs => obtain ⟨ys, h1, h2, h3⟩ := (hr.cell a _ q).1; exact tt (.inl h1) h2 h3 e
      | lst _ => cases e
      | ins _ _ => cases e
  | _ => cases e
/-- the items of a list, tracked or still -/
def listD (v : D) (M : Mem) : Option (List D) := match v with
  | .lst ds => some ds
  | .ro ds => some ds
  | .obj a => match M a with
    | some (.lst ds) => some ds
    | _ => none
  | _ => none
theorem listD_ok {K : Fg} {F : Fm} {G H : Hp} {M : Mem} {x : V} {v : D} {ds : List D} (hr : HRel K F G H M) (rx : Rep K G x v) (e : listD v M = some ds) : ∃ a xs, x = .ref a ∧ SqL K H a xs ∧ Reps K G xs ds := by
  unfold listD at e
  cases rx with
  | lst h r => cases e; exact ⟨_, _, rfl, .inl (.inl (hr.sub _ _ h)), r⟩
  | ro h r => cases e; exact ⟨_, _, rfl, Same.seq hr.sub h, r⟩
  | obj =>
    rename_i a
    dsimp only at e
    cases q : M a with
    | none => rw [q] at e; cases e
    | some c =>
      rw [q] at e
      cases c with
      | lst ds' => cases e; obtain ⟨xs, h1, h2⟩ := (hr.cell a _ q).1; exact ⟨a, xs, rfl, .inl (.inl h1), h2⟩
      | _ => cases e
  | _ => cases e
/-- the items of a list or a tuple -/
def seqD (v : D) (M : Mem) : Option (List D) := match v with
  | .tup ds => some ds
  | .rt ds => some ds
  | v => listD v M
theorem seqD_ok {K : Fg} {F : Fm} {G H : Hp} {M : Mem} {x : V} {v : D} {ds : List D} (hr : HRel K F G H M) (rx : Rep K G x v) (e : seqD v M = some ds) : ∃ a xs, x = .ref a ∧ (SqL K H a xs ∨ SqT K H a xs) ∧ Reps K G xs ds := by
  cases v with
  | tup es => cases e; cases rx with
    | tup h r => exact ⟨_, _, rfl, .inr (.inl (.inl (hr.sub _ _ h))), r⟩
  | rt es => cases e; cases rx with
    | rt h r => exact ⟨_, _, rfl, .inr (SqT.mono hr.sub h), r⟩
  | _ => obtain ⟨a, xs, h1, h2, h3⟩ := listD_ok hr rx e; exact ⟨a, xs, h1, .inl h2, h3⟩
theorem Reps.atI {K : Fg} {G : Hp} {xs : List V} {ds : List D} {i : Int} {d : D} (r : Reps K G xs ds) (e : atI ds i = some d) : ∃ x, L2.atI xs i = some x ∧ Rep K G x d := by
  unfold L2.atI at e ⊢
  rw [r.length]
  cases q : ixN ds.length i with
  | none => rw [q] at e; cases e
  | some j =>
    rw [q] at e
    exact r.get (i := j) e
/-- v[w] -/
def f_ix : D2 := fun v w M Q => match w with
  | .int i => (match seqD v M with
    | some ds => (match atI ds i with
      | some d => Q d M
      | none => False)
    | none => (match v with
      | .str z => z.length ≤ sizeLine ∧ (match atI z.cps.toList i with
        | some c => Q (.str ⟨#[c]⟩) M
        | none => False)
      | v => (match dlook v (.int i) M with
        | some (some d) => Q d M
        | _ => False)))
  | w => (match dlook v w M with
    | some (some d) => Q d M
    | _ => False)
def rIxD : R2 := fun x y H Q => ∃ a v, x = .ref a ∧ DGet H a y (some v) ∧ Q v H
section
variable {X : Cx} {F : Fm} {pos : Pos} {a b c e : Expr} {es : List Expr} {da db dc : DE} {dA : DA} {f : D2}
theorem ix_dict (hu : X.A.units + 64 < cLine) : IxR X rIxD := by
  intro value slice pins s σ H x y v u Q I rx ry h hs
  obtain ⟨a, z, rfl, g, q⟩ := h
  cases rx
  exact tail_any (dict_typeIs I g) PySem.F.slot_dict_getitem.lookup (d_getItem (by omega) I g ry fun w' s' I' r' => ⟨z, H, I', r', q⟩) hs
theorem ref_ixD {K : Fg} {G H : Hp} {M : Mem} {x y : V} {v w : D} {post : D → Mem → Prop} {Q : VK} (hr : HRel K F G H M) (rx : Rep K G x v) (ry : Rep K G y w) (d : match dlook v w M with
    | some (some d) => post d M
    | _ => False) (k : QE K F G post Q) : rIxD x y H Q := by
  cases e : dlook v w M with
  | none => rw [e] at d; exact d.elim
  | some o =>
    rw [e] at d
    cases o with
    | none => exact d.elim
    | some z =>
      obtain ⟨a, o', e1, g, h⟩ := dlook_ok hr rx ry e
      rcases h with ⟨h, _⟩ | ⟨d', z', h1, h2, h3⟩
      · cases h
      · cases h1; subst h2
        exact ⟨a, z', e1, g, k.here hr h3 d⟩
theorem ref_ix {K : Fg} : Ref2 K F (fun x y H Q => rIx K x y H Q ∨ rIxD x y H Q) f_ix := by
  intro G H M x y v w post Q hr rx ry d k
  cases w with
  | int i =>
    unfold f_ix at d
    dsimp only at d
    cases e : seqD v M with
    | some ds =>
      rw [e] at d
      dsimp only at d
      cases e2 : L2.atI ds i with
      | none => rw [e2] at d; exact d.elim
      | some z =>
        rw [e2] at d
        obtain ⟨p, xs, rfl, hq, rs⟩ := seqD_ok hr rx e
        obtain ⟨u, e3, ru⟩ := rs.atI e2
        cases ry
        rcases hq with hq | hq
        · exact .inl (.inl ⟨p, xs, i, u, rfl, rfl, hq, e3, k.here hr ru d⟩)
        · exact .inl (.inr (.inl ⟨p, xs, i, u, rfl, rfl, hq, e3, k.here hr ru d⟩))
    | none =>
      rw [e] at d
      dsimp only at d
      cases v with
      | str z =>
        dsimp only at d
        cases rx; cases ry
        cases e2 : L2.atI z.cps.toList i with
        | none => rw [e2] at d; exact d.2.elim
        | some c => rw [e2] at d; exact .inl (.inr (.inr ⟨z, i, c, rfl, rfl, d.1, e2, k.here hr .str d.2⟩))
      | _ => exact .inr (ref_ixD hr rx ry d k)
  | _ => exact .inr (ref_ixD hr rx ry d k)
theorem pd_ix (hu : X.A.units + 64 < cLine) (ha : PD X F a da) (hb : PD X F b db) (hs : PlainIx b := by intro _ _; rfl) : PD X F (.Subscript a b pos) (dBin f_ix da db) :=
  pe_imp (pe_ix ((ix_seq (X := X)).or (ix_dict hu)) ha hb hs) (bin_imp ref_ix)

/-! ### in -/
def flatD : D → Bool
  | .non => true
  | .bl _ => true
  | .int _ => true
  | .str _ => true
  | _ => false
def eqF : D → D → Bool
  | .non, .non => true
  | .bl a, .bl b => a == b
  | .bl a, .int b => (if a then 1 else 0) == b
  | .int a, .bl b => a == (if b then 1 else 0)
  | .int a, .int b => a == b
  | .str a, .str b => a == b
  | _, _ => false
theorem Rep.flat {K : Fg} {G : Hp} {x : V} {d : D} (r : Rep K G x d) (h : flatD d = true) : flatV x = true := by cases r <;> first | rfl | cases h
theorem Rep.eqf {K : Fg} {G : Hp} {x y : V} {d e : D} (r : Rep K G x d) (q : Rep K G y e) (h : flatD d = true) (h' : flatD e = true) : eqV x y = eqF d e := by
  cases r <;> first | (cases h; done) | (cases q <;> first | rfl | (cases h'; done))
theorem Reps.flat {K : Fg} {G : Hp} : ∀ {xs : List V} {ds : List D}, Reps K G xs ds → ds.all flatD = true → xs.all flatV = true
  | _, _, .nil, _ => rfl
  | _, _, .cons h t, e => by
    rw [List.all_cons, Bool.and_eq_true] at e
    rw [List.all_cons, Rep.flat h e.1, Reps.flat t e.2]; rfl
theorem Reps.inf {K : Fg} {G : Hp} {x : V} {d : D} (r : Rep K G x d) (h' : flatD d = true) : ∀ {xs : List V} {ds : List D}, Reps K G xs ds → ds.all flatD = true → inV x xs = ds.any fun e => eqF e d
  | _, _, .nil, _ => rfl
  | _, _, .cons h t, e => by
    rw [List.all_cons, Bool.and_eq_true] at e
    have ih := Reps.inf r h' t e.2
    unfold inV at ih ⊢
    rw [List.any_cons, List.any_cons, ih, Rep.eqf h r e.1 h']
def rInDict (neg : Bool) : R2 := fun x y H Q => ∃ a o, y = .ref a ∧ DGet H a x o ∧ Q (.bl (if neg then !o.isSome else o.isSome)) H
theorem opr_inDict (hu : X.A.units + 64 < cLine) : OpR X (compareOp .In) (rInDict false) := by
  intro pins s σ H x y v u Q I rx ry h
  obtain ⟨a, o, rfl, g, q⟩ := h
  cases ry
  exact d_in (by omega) I g rx fun s' I' => ⟨.bl _, H, I', rfl, q⟩
theorem opr_notInDict (hu : X.A.units + 64 < cLine) : OpR X (compareOp .NotIn) (rInDict true) := by
  intro pins s σ H x y v u Q I rx ry h
  obtain ⟨a, o, rfl, g, q⟩ := h
  cases ry
  exact d_notIn (by omega) I g rx fun s' I' => ⟨.bl _, H, I', rfl, q⟩
def rInStr (neg : Bool) : R2 := fun x y H Q => ∃ i j, x = .str i ∧ y = .str j ∧ Q (.bl (if neg then !(!(Builtin.Str.occurrences j i 0 j.length 1).isEmpty) else !(Builtin.Str.occurrences j i 0 j.length 1).isEmpty)) H
def f_in (neg : Bool) : D2 := fun v w M Q => match seqD w M with
  | some ds => flatD v = true ∧ ds.all flatD = true ∧ Q (.bl (if neg then !(ds.any fun e => eqF e v) else ds.any fun e => eqF e v)) M
  | none => (match w with
    | .str z => (match v with
      | .str i => Q (.bl (if neg then !(!(Builtin.Str.occurrences z i 0 z.length 1).isEmpty) else !(Builtin.Str.occurrences z i 0 z.length 1).isEmpty)) M
      | _ => False)
    | w => (match dlook w v M with
      | some o => Q (.bl (if neg then !o.isSome else o.isSome)) M
      | none => False))
theorem ref_inD {K : Fg} {neg : Bool} {G H : Hp} {M : Mem} {x y : V} {v w : D} {post : D → Mem → Prop} {Q : VK} (hr : HRel K F G H M) (rx : Rep K G x v) (ry : Rep K G y w) (d : match dlook w v M with
    | some o => post (.bl (if neg then !o.isSome else o.isSome)) M
    | none => False) (k : QE K F G post Q) : rInDict neg x y H Q := by
  cases e : dlook w v M with
  | none => rw [e] at d; exact d.elim
  | some o =>
    rw [e] at d
    obtain ⟨a, o', e1, g, h⟩ := dlook_ok hr ry rx e
    have eo : o'.isSome = o.isSome := by
      rcases h with ⟨rfl, rfl⟩ | ⟨d', z', rfl, rfl, _⟩ <;> rfl
    refine ⟨a, o', e1, g, ?_⟩
    rw [eo]
    exact k.here hr .bl d
theorem ref_in {K : Fg} {neg : Bool} : Ref2 K F (fun x y H Q => rIn K neg x y H Q ∨ rInStr neg x y H Q ∨ rInDict neg x y H Q) (f_in neg) := by
  intro G H M x y v w post Q hr rx ry d k
  unfold f_in at d
  cases e : seqD w M with
  | some ds =>
    rw [e] at d
    obtain ⟨d1, d2, d3⟩ := d
    obtain ⟨p, xs, rfl, hq, rs⟩ := seqD_ok hr ry e
    refine .inl ⟨p, xs, rfl, hq, rx.flat d1, rs.flat d2, ?_⟩
    rw [Reps.inf rx d1 rs d2]
    exact k.here hr .bl d3
  | none =>
    rw [e] at d
    dsimp only at d
    cases w with
    | str z =>
      dsimp only at d
      cases v with
      | str i => cases rx; cases ry; exact .inr (.inl ⟨i, z, rfl, rfl, k.here hr .bl d⟩)
      | _ => exact d.elim
    | _ => exact .inr (.inr (ref_inD hr rx ry d k))
theorem pd_in (hu : X.A.units + 64 < cLine) (ha : PD X F a da) (hb : PD X F b db) (hm : behindInMarks .In b = false := by rfl) : PD X F (.Compare a [.In] [b] pos) (dBin (f_in false) da db) := pd_cmp (op_in_seq.or (op_in_str.or (opr_inDict hu))) ref_in ha hb hm
theorem pt_in (hu : X.A.units + 64 < cLine) (ha : PD X F a da) (hb : PD X F b db) (hm : behindInMarks .In b = false := by rfl) : PDT X F (.Compare a [.In] [b] pos) (dTr (dBin (f_in false) da db)) := pt_cmpd (op_in_seq.or (op_in_str.or (opr_inDict hu))) ref_in ha hb hm
theorem pd_notin (hu : X.A.units + 64 < cLine) (ha : PD X F a da) (hb : PD X F b db) (hm : behindInMarks .NotIn b = false := by rfl) : PD X F (.Compare a [.NotIn] [b] pos) (dBin (f_in true) da db) := pd_cmp (op_notIn_seq.or (op_notin_str.or (opr_notInDict hu))) ref_in ha hb hm
theorem pt_notin (hu : X.A.units + 64 < cLine) (ha : PD X F a da) (hb : PD X F b db) (hm : behindInMarks .NotIn b = false := by rfl) : PDT X F (.Compare a [.NotIn] [b] pos) (dTr (dBin (f_in true) da db)) := pt_cmpd (op_notIn_seq.or (op_notin_str.or (opr_notInDict hu))) ref_in ha hb hm

/-! ### slices -/
abbrev DO := Rho → Mem → (Option Int → Mem → Prop) → Prop
def LO (K : Fg) (F : Fm) (d : DO) : TO := fun σ H Q => ∃ G ρ M post, HRel K F G H M ∧ SRel K G σ ρ ∧ d ρ M post ∧ ∀ G' H' M' o, Same G G' → HRel K F G' H' M' → post o M' → Q o H'
abbrev PDO (X : Cx) (F : Fm) (e : Option Expr) (d : DO) : Prop := PO X e (LO X.K F d)
def doNone : DO := fun _ M Q => Q none M
def doSome (d : DE) : DO := fun ρ M Q => d ρ M fun x M1 => match x with
  | .int i => Q (some i) M1
  | _ => False
theorem po_imp {X : Cx} {e : Option Expr} {t t' : TO} (h : PO X e t) (i : ∀ σ H Q, t' σ H Q → t σ H Q) : PO X e t' := ⟨fun pins s σ H Q I q => h.run pins s σ H Q I (i σ H Q q)⟩
theorem pd_none : PDO X F none doNone := po_imp po_none fun σ H Q ⟨G, ρ, M, post, hr, sr, d, k⟩ => k G H M none (Same.refl _) hr d
theorem pd_some (h : PD X F e da) : PDO X F (some e) (doSome da) := po_imp (po_some h) fun σ H Q ⟨G, ρ, M, post, hr, sr, d, k⟩ =>
  ⟨G, ρ, M, _, hr, sr, d, fun G1 H1 M1 x v s1 h1 rx q1 => by
    cases v with
    | int i => cases rx; exact ⟨i, rfl, k G1 H1 M1 _ s1 h1 q1⟩
    | _ => exact (show False from q1).elim⟩
def cutD {α : Type} (xs : List α) (lo hi : Option Int) : List α := (xs.drop (HT.sIx xs.length 0 lo)).take (HT.sIx xs.length xs.length hi - HT.sIx xs.length 0 lo)
theorem Reps.cut {K : Fg} {G : Hp} {xs : List V} {ds : List D} (r : Reps K G xs ds) (lo hi : Option Int) : Reps K G (cutV xs lo hi) (cutD ds lo hi) := by
  unfold cutV cutD
  rw [r.length]
  exact (r.drop _).take _
def f_slice (fresh : Bool) (v : D) (lo hi : Option Int) (M : Mem) (Q : D → Mem → Prop) : Prop := match listD v M with
  | some ds => if fresh then ∀ p, M p = none → Q (.obj p) (st M p (.lst (cutD ds lo hi))) else Q (.lst (cutD ds lo hi)) M
  | none => (match v with
    | .str z => z.length ≤ sizeLine ∧ Q (.str (cutS z lo hi)) M
    | .tup ds => ¬ (HT.sIx ds.length 0 lo = 0 ∧ HT.sIx ds.length ds.length hi = ds.length) ∧ Q (.tup (cutD ds lo hi)) M
    | _ => False)
def dSl (fresh : Bool) (da : DE) (dl dh : DO) : DE := fun ρ M Q => da ρ M fun x M1 => dl ρ M1 fun l M2 => dh ρ M2 fun h M3 => f_slice fresh x l h M3 Q
end
end Dl

/-! Dl4: slices, dicts made, built-ins called, methods of lists and dicts. -/
namespace Dl
open L2 PySem PyProof.Rows PySem.Spec
section
variable {X : Cx} {F : Fm} {pos : Pos} {a b c e : Expr} {es : List Expr} {da db dc : DE} {dA : DA} {f : D2} {dl dh : DO} {lo hi : Option Expr} {p2 : Pos}
theorem pd_slice (fresh : Bool) (he : PD X F e da) (hl : PDO X F lo dl) (hh : PDO X F hi dh) : PD X F (.Subscript e (.Slice lo hi none p2) pos) (dSl fresh da dl dh) :=
  pe_imp (pe_slice (sl_list.or (sl_tup.or sl_str)) he hl hh) fun σ H Q ⟨G, ρ, M, post, hr, sr, d, k⟩ =>
    ⟨G, ρ, M, _, hr, sr, d, fun G1 H1 M1 x v s1 h1 rx q1 => ⟨G1, ρ, M1, _, h1, sr.mono s1, q1, fun G2 H2 M2 l s2 h2 q2 => ⟨G2, ρ, M2, _, h2, sr.mono (s1.trans s2), q2, fun G3 H3 M3 h s3 h3 q3 => by
      have rx3 := rx.mono (s2.trans s3)
      have k3 := k.later (s1.trans (s2.trans s3))
      have q3 : f_slice fresh v l h M3 post := q3
      unfold f_slice at q3
      cases ev : listD v M3 with
      | some ds =>
        rw [ev] at q3
        dsimp only at q3
        obtain ⟨a, xs, rfl, hq, rs⟩ := listD_ok h3 rx3 ev
        refine .inl ⟨a, xs, rfl, hq, fun p hp => ?_⟩
        cases fresh with
        | false => exact k3.new h3 hp (.lst upd_same ((rs.mono (h3.new hp).1).cut l h)) q3
        | true => exact k3.newC (c := .lst _) h3 hp ⟨_, upd_same, rs.cut l h⟩ (q3 p (h3.mnone hp).1)
      | none =>
        rw [ev] at q3
        dsimp only at q3
        cases v with
        | str z => cases rx3; exact .inr (.inr ⟨z, rfl, q3.1, k3.here h3 .str q3.2⟩)
        | tup ds =>
          cases rx3 with
          | tup ht rs =>
            refine .inr (.inl ⟨_, _, rfl, .inl (.inl (h3.sub _ _ ht)), by rw [rs.length]; exact q3.1, fun p hp => ?_⟩)
            exact k3.new h3 hp (.tup upd_same ((rs.mono (h3.new hp).1).cut l h)) q3.2
        | _ => exact q3.elim⟩⟩⟩

/-! ### dicts made -/
def dNewK : DE := fun _ M Q => ∀ p, M p = none → Q (.obj p) (st M p (.dk []))
def dNewT : DE := fun _ M Q => ∀ p, M p = none → Q (.obj p) (st M p (.dt []))
theorem pd_newK : PD X F (.Dict [] [] pos) dNewK := pe_imp pe_dnewK fun σ H Q ⟨G, ρ, M, post, hr, sr, d, k⟩ p hp => k.newC (c := .dk []) hr hp ⟨[], upd_same, rfl, .nil⟩ (d p (hr.mnone hp).1)
theorem pd_newT : PD X F (.Dict [] [] pos) dNewT := pe_imp pe_dnewT fun σ H Q ⟨G, ρ, M, post, hr, sr, d, k⟩ p hp => k.newC (c := .dt []) hr hp ⟨[], upd_same, rfl, .nil⟩ (d p (hr.mnone hp).1)
/-- the frame with more left alone -/
structure Fm.Le (F F' : Fm) : Prop where
  b : F'.B = F.B
  r : Same F.R F'.R
theorem Fm.Le.refl (F : Fm) : Fm.Le F F := ⟨rfl, Same.refl _⟩
theorem Fm.Le.trans {F F' F'' : Fm} (a : Fm.Le F F') (b : Fm.Le F' F'') : Fm.Le F F'' := ⟨b.b.trans a.b, a.r.trans b.r⟩
theorem HRel.down {K : Fg} {F F' : Fm} {G H : Hp} {M : Mem} (l : Fm.Le F F') (h : HRel K F' G H M) : HRel K F G H M :=
  ⟨by have := h.base; rw [l.b] at this; exact this, h.sub, l.r.trans h.rs, fun a o q => h.rgt a o (l.r _ _ q), fun a c q => ⟨(h.cell a c q).1, (h.cell a c q).2.1, l.r.free (h.cell a c q).2.2⟩⟩
/-- the pairs of a display -/
def dPairs : List (DE × DE) → Rho → Mem → (List (D × D) → Mem → Prop) → Prop
  | [], _, M, Q => Q [] M
  | (dk, dv) :: r, ρ, M, Q => dk ρ M fun x M1 => dv ρ M1 fun y M2 => dPairs r ρ M2 fun ps M3 => Q ((x, y) :: ps) M3
/-- a reading for some frame with more left alone -/
def LX (K : Fg) (F : Fm) (d : DE) : TE := fun σ H Q => ∃ F', Fm.Le F F' ∧ LE K F' d σ H Q
theorem pe_lx (h : ∀ F', Fm.Le F F' → PD X F' e da) : PE X e (LX X.K F da) := ⟨fun pins s σ H Q I ⟨F', l, q⟩ => (h F' l).run pins s σ H Q I q⟩
structure PDP (X : Cx) (F : Fm) (pos : Pos) (keys : List (Option Expr)) (values : List Expr) (trs : List (DE × DE)) : Prop where
  ok : PPs X pos keys values (trs.map fun t => (LX X.K F t.1, LX X.K F t.2))
theorem pdp_nil : PDP X F pos [] [] [] := ⟨pps_nil⟩
theorem pdp_cons {k v : Expr} {ks : List (Option Expr)} {vs : List Expr} {dk dv : DE} {trs : List (DE × DE)} (hk : ∀ F', Fm.Le F F' → PD X F' k dk) (hv : ∀ F', Fm.Le F F' → PD X F' v dv) (hr : PDP X F pos ks vs trs) : PDP X F pos (some k :: ks) (v :: vs) ((dk, dv) :: trs) := ⟨pps_cons (pe_lx hk) (pe_lx hv) hr.ok⟩
def RepP (K : Fg) (G : Hp) : List (V × V) → List (D × D) → Prop := fun ps qs => Reps K G (ps.map (·.1)) (qs.map (·.1)) ∧ Reps K G (ps.map (·.2)) (qs.map (·.2)) ∧ ps.length = qs.length
theorem pairs_imp {K : Fg} {F' : Fm} (l : Fm.Le F F') : ∀ {trs : List (DE × DE)} {σ : L2.St} {ρ : Rho} {G H : Hp} {M : Mem} {post : List (D × D) → Mem → Prop} {Q : List (V × V) → Hp → Prop}, HRel K F' G H M → SRel K G σ ρ → dPairs trs ρ M post →
    (∀ G' H' M' ps qs, Same G G' → HRel K F' G' H' M' → RepP K G' ps qs → post qs M' → Q ps H') → tPairs (trs.map fun t => (LX K F t.1, LX K F t.2)) σ H Q
  | [], σ, ρ, G, H, M, post, Q, hr, sr, d, k => k G H M [] [] (Same.refl _) hr ⟨.nil, .nil, rfl⟩ d
  | (dk, dv) :: trs, σ, ρ, G, H, M, post, Q, hr, sr, d, k =>
    ⟨F', l, G, ρ, M, _, hr, sr, d, fun G1 H1 M1 x v s1 h1 rx q1 => ⟨F', l, G1, ρ, M1, _, h1, sr.mono s1, q1, fun G2 H2 M2 y w s2 h2 ry q2 =>
      pairs_imp l h2 (sr.mono (s1.trans s2)) q2 fun G3 H3 M3 ps qs s3 h3 rp q3 => k G3 H3 M3 ((x, y) :: ps) ((v, w) :: qs) (s1.trans (s2.trans s3)) h3 ⟨Reps.cons ((rx.mono s2).mono s3) rp.1, Reps.cons (ry.mono s3) rp.2.1, congrArg (· + 1) rp.2.2⟩ q3⟩⟩
def pairsK : List (D × D) → Option (List (Key × D))
  | [] => some []
  | (k, v) :: r => match keyD k, pairsK r with
    | some k', some r' => some ((k', v) :: r')
    | _, _ => none
def dmerge (kvs : List (Key × D)) : List (Key × D) := kvs.foldl (fun acc kv => dput acc kv.1 kv.2) []
/-- a display of a dict with keys that are ints and texts -/
def dDisp (trs : List (DE × DE)) : DE := fun ρ M Q => dPairs trs ρ M fun ps M1 => match pairsK ps with
  | some kvs => kvs.length ≤ 15 ∧ ∀ p, M1 p = none → Q (.obj p) (st M1 p (.dk (dmerge kvs)))
  | none => False
theorem RepP.keys {K : Fg} {G : Hp} : ∀ {ps : List (V × V)} {qs : List (D × D)} {kvs : List (Key × D)}, RepP K G ps qs → pairsK qs = some kvs →
    ∃ ys : List (Key × V), ps = ys.map (fun kv => (kV kv.1, kv.2)) ∧ ys.map (·.1) = kvs.map (·.1) ∧ Reps K G (ys.map (·.2)) (kvs.map (·.2))
  | [], [], kvs, r, e => by cases e; exact ⟨[], rfl, rfl, .nil⟩
  | [], _ :: _, _, r, _ => by cases r.2.2
  | _ :: _, [], _, r, _ => by cases r.2.2
  | (x, y) :: ps, (k, v) :: qs, kvs, r, e => by
    obtain ⟨r1, r2, r3⟩ := r
    unfold pairsK at e
    cases e1 : keyD k with
    | none => rw [e1] at e; cases e
    | some k' =>
      cases e2 : pairsK qs with
      | none => rw [e1, e2] at e; cases e
      | some r' =>
        rw [e1, e2] at e
        cases e
        cases r1 with
        | cons h1 t1 =>
          cases r2 with
          | cons h2 t2 =>
            obtain ⟨ys, i1, i2, i3⟩ := RepP.keys (ps := ps) (qs := qs) ⟨t1, t2, Nat.succ.inj r3⟩ e2
            refine ⟨(k', y) :: ys, ?_, ?_, .cons h2 i3⟩
            · rw [List.map_cons, i1]
              have : x = kV k' := Rep.key h1 e1
              rw [this]
            · rw [List.map_cons, List.map_cons, i2]
theorem merge_ok {K : Fg} {G : Hp} : ∀ {ys : List (Key × V)} {kvs : List (Key × D)} {ya : List (Key × V)} {ka : List (Key × D)}, ys.map (·.1) = kvs.map (·.1) → Reps K G (ys.map (·.2)) (kvs.map (·.2)) → ya.map (·.1) = ka.map (·.1) → Reps K G (ya.map (·.2)) (ka.map (·.2)) →
    (mergeK ya ys).map (·.1) = (kvs.foldl (fun acc kv => dput acc kv.1 kv.2) ka).map (·.1) ∧ Reps K G ((mergeK ya ys).map (·.2)) ((kvs.foldl (fun acc kv => dput acc kv.1 kv.2) ka).map (·.2))
  | [], [], ya, ka, _, _, e, r => ⟨e, r⟩
  | [], _ :: _, _, _, e, _, _, _ => by cases e
  | _ :: _, [], _, _, e, _, _, _ => by cases e
  | (j', u) :: ys, (j, v) :: kvs, ya, ka, e, rs, e3, r3 => by
    rw [List.map_cons, List.map_cons] at e
    injection e with e1 e2
    have e1 : j' = j := e1
    subst e1
    cases rs with
    | cons h t =>
      have := merge_ok (ys := ys) (kvs := kvs) (ya := dput ya j' u) (ka := dput ka j' v) e2 t (dput_fst j' v u e3) (Reps.dput h e3 r3)
      unfold mergeK at this ⊢
      rw [List.foldl_cons, List.foldl_cons, putK_dput]
      exact this
theorem pd_disp {keys : List (Option Expr)} {values : List Expr} {trs : List (DE × DE)} (h : PDP X F pos keys values trs) (hall : keys.all (·.isSome) = true := by rfl) (hl : keys.length = values.length := by rfl) (h0 : keys ≠ [] := by intro z; cases z)
    (h15 : keys.length ≤ 15 := by decide) : PD X F (.Dict keys values pos) (dDisp trs) :=
  pe_imp (pe_disp h.ok hall hl h0 h15) fun σ H Q ⟨G, ρ, M, post, hr, sr, d, k⟩ p hp => by
    obtain ⟨hm, hg, hrr⟩ := hr.mnone hp
    have l : Fm.Le F ⟨F.B, upd F.R p (.dK [])⟩ := ⟨rfl, same_upd hrr⟩
    refine pairs_imp l (hr.hide (o := .dK []) hp (fun _ z => nomatch z)) sr d fun G1 H1 M1 ps qs s1 h1 rp q1 => ?_
    have hp1 : H1 p = some (.dK []) := h1.rs p _ upd_same
    refine ⟨hp1, ?_⟩
    cases e : pairsK qs with
    | none => rw [e] at q1; exact q1.elim
    | some kvs =>
      rw [e] at q1
      obtain ⟨q2, q3⟩ := q1
      obtain ⟨ys, e1, e2, r2⟩ := RepP.keys rp e
      have el : ys.length = kvs.length := by simpa using congrArg List.length e2
      refine ⟨ys, e1, by omega, ?_⟩
      obtain ⟨m1, m2⟩ := merge_ok (ya := []) (ka := []) e2 r2 rfl .nil
      have h2 := h1.hidden (o' := .dK (mergeK [] ys)) (fun _ z => nomatch z)
      have h3 := h2.shownC (c := .dk (dmerge kvs)) hrr ⟨_, upd_same, m1, m2⟩
      have hm1 : M1 p = none := by
        cases q : M1 p with
        | none => rfl
        | some c =>
          have z : upd F.R p (.dK []) p = none := (h1.cell p c q).2.2
          rw [upd_same] at z; cases z
      exact k _ _ _ _ _ s1 h3 .obj (q3 p hm1)
end
end Dl

/-! Dl5: built-ins called, methods, defs called, exceptions wished for. -/
namespace Dl
open L2 PySem PyProof.Rows PySem.Spec

def RefN (K : Fg) (F : Fm) (r : List V → Hp → VK → Prop) (f : DN) : Prop := ∀ {G H : Hp} {M : Mem} {xs : List V} {vs : List D} {post : D → Mem → Prop} {Q : VK}, HRel K F G H M → Reps K G xs vs → f vs M post → QE K F G post Q → r xs H Q
def dCB (f : DN) (dA : DA) : DE := fun ρ M Q => dA ρ M fun vs M1 => f vs M1 Q
section
variable {X : Cx} {F : Fm} {pos p : Pos} {a b c e : Expr} {es : List Expr} {da db dc : DE} {dA : DA} {f : DN} {x : Str} {id T : String} {r : List V → Hp → VK → Prop}
theorem cb_imp (hf : RefN X.K F r f) : ∀ σ H Q, LE X.K F (dCB f dA) σ H Q → tCB r (LA X.K F dA) σ H Q := fun σ H Q ⟨G, ρ, M, post, hr, sr, d, k⟩ =>
  ⟨G, ρ, M, _, hr, sr, d, fun G1 H1 M1 xs vs s1 h1 rs q1 => hf h1 rs q1 (k.later s1)⟩
theorem pd_cB (hc : CallR X (.builtin id) r) (hf : RefN X.K F r f) (hm : X.mg x = none) (ha : PDA X F (e :: es) dA) (hv : bootBuiltins x = some (.builtin id) := by decide +kernel) (hg : Gl X x := by rfl) (hn : x ≠ "__name__" := by decide) (hdb : (x == ("__debug__" : Str)) = false := by decide)
    (he : starEach (e :: es) X.env = (false, eval e X.env) :: starEach es X.env := by rfl) (hpl : (backTo pos (starEach es X.env)).any (·.1) = false := by rfl) : PD X F (.Call (.Name x p) (e :: es) [] pos) (dCB f dA) :=
  pe_imp (pe_callB hc hg hm hv ha hn hdb he hpl) (cb_imp hf)
theorem pd_cTy (hc : CallR X (.type T) r) (hf : RefN X.K F r f) (hm : X.mg x = none) (ha : PDA X F (e :: es) dA) (hv : bootBuiltins x = some (.type T) := by decide +kernel) (hg : Gl X x := by rfl) (hn : x ≠ "__name__" := by decide) (hdb : (x == ("__debug__" : Str)) = false := by decide)
    (he : starEach (e :: es) X.env = (false, eval e X.env) :: starEach es X.env := by rfl) (hpl : (backTo pos (starEach es X.env)).any (·.1) = false := by rfl) : PD X F (.Call (.Name x p) (e :: es) [] pos) (dCB f dA) :=
  pe_imp (pe_callTy hc hg hm hv ha hn hdb he hpl) (cb_imp hf)
theorem pd_cFn (hc : CallR X (.builtin id) r) (hf : RefN X.K F r f) (hm : X.mg x = some (.builtin id)) (ha : PDA X F (e :: es) dA) (hg : Gl X x := by rfl) (hdb : (x == ("__debug__" : Str)) = false := by decide)
    (he : starEach (e :: es) X.env = (false, eval e X.env) :: starEach es X.env := by rfl) (hpl : (backTo pos (starEach es X.env)).any (·.1) = false := by rfl) : PD X F (.Call (.Name x p) (e :: es) [] pos) (dCB f dA) :=
  pe_imp (pe_callBfun hc hg hm ha hdb he hpl) (cb_imp hf)

/-! ### by their values -/
def intsD : List D → Option (List Int)
  | [] => some []
  | .int i :: r => (intsD r).map (i :: ·)
  | _ => none
theorem intsD_ok : ∀ {ds : List D} {ns : List Int}, intsD ds = some ns → ds = ns.map D.int
  | [], _, e => by simp only [intsD] at e; cases e; rfl
  | d :: r, ns, e => by
    cases d <;> simp only [intsD] at e <;> first
      | (cases e; done)
      | (obtain ⟨ms, e1, e2⟩ := Option.map_eq_some_iff.mp e; subst e2; rw [intsD_ok e1]; rfl)
def dictLen (v : D) (M : Mem) : Option Nat := match v with
  | .dk kvs => some kvs.length
  | .dt kvs => some kvs.length
  | .obj a => (match M a with
    | some (.dk kvs) => some kvs.length
    | some (.dt kvs) => some kvs.length
    | _ => none)
  | _ => none
def f_len : DN := fun vs M Q => match vs with
  | [v] => (match seqD v M with
    | some ds => Q (.int ds.length) M
    | none => (match v with
      | .str z => z.length ≤ sizeLine ∧ Q (.int z.length) M
      | v => (match dictLen v M with
        | some n => Q (.int n) M
        | none => False)))
  | _ => False
def DLen (H : Hp) (a : Addr) (n : Nat) : Prop := (∃ kvs, Rd H a (.dK kvs) ∧ n = kvs.length) ∨ ∃ kvs, Rd H a (.dT kvs) ∧ n = kvs.length
theorem DLen.isD {H : Hp} {a : Addr} {n : Nat} (h : DLen H a n) : IsD H a := h.imp (fun ⟨k, e, _⟩ => ⟨k, e⟩) (fun ⟨k, e, _⟩ => ⟨k, e⟩)
theorem call_lenDD {X : Cx} : CallR X (.builtin "len") (fun xs H Q => ∃ a n, xs = [V.ref a] ∧ DLen H a n ∧ Q (.int n) H) := by
  intro pins s σ H xs us Q I r h
  obtain ⟨a, n, rfl, hd, q⟩ := h
  obtain ⟨u, rfl, rx⟩ := r.one
  cases rx
  rcases hd with ⟨kvs, e, rfl⟩ | ⟨kvs, e, rfl⟩
  · exact d_len I e fun t s' I' => ⟨.int kvs.length, H, I', ⟨t, rfl⟩, q⟩
  · obtain ⟨z, hs, xs, rel, dd⟩ := dt_rd I.hok e
    have el : xs.length = kvs.length := (Paired.length rel).symm
    refine call_len_dictH hs dd (by rw [el]; rw [sizeLine_eq] at z; omega) ?_
    rw [el]
    exact ⟨.int kvs.length, H, I.tok _, ⟨_, rfl⟩, q⟩
theorem dlen_ok {K : Fg} {F : Fm} {G H : Hp} {M : Mem} {x : V} {v : D} {n : Nat} (hr : HRel K F G H M) (rx : Rep K G x v) (e : dictLen v M = some n) : ∃ a, x = .ref a ∧ DLen H a n := by
  have lk : ∀ {κ : Type} {ys : List (κ × V)} {kvs : List (κ × D)}, ys.map (·.1) = kvs.map (·.1) → kvs.length = ys.length := fun e1 => by
    have := congrArg List.length e1
    rw [List.length_map, List.length_map] at this
    exact this.symm
  unfold dictLen at e
  cases rx with
  | dk h e1 _ => cases e; exact ⟨_, rfl, .inl ⟨_, .inr (h.imp fun _ q => hr.sub _ _ q), lk e1⟩⟩
  | dt h e1 _ => cases e; exact ⟨_, rfl, .inr ⟨_, .inr (h.imp fun _ q => hr.sub _ _ q), lk e1⟩⟩
  | obj =>
    rename_i a
    dsimp only at e
    cases q : M a with
    | none => rw [q] at e; cases e
    | some c =>
      rw [q] at e
      cases c with
      | dk kvs => cases e; obtain ⟨ys, h1, h2, _⟩ := (hr.cell a _ q).1; exact ⟨a, rfl, .inl ⟨ys, .inl h1, lk h2⟩⟩
      | dt kvs => cases e; obtain ⟨ys, h1, h2, _⟩ := (hr.cell a _ q).1; exact ⟨a, rfl, .inr ⟨ys, .inl h1, lk h2⟩⟩
      | _ => cases e
  | _ => cases e
theorem ref_len {K : Fg} : RefN K F (fun xs H Q => (∃ p ys, xs = [.ref p] ∧ (SqL K H p ys ∨ SqT K H p ys) ∧ Q (.int ys.length) H) ∨ (∃ z, xs = [.str z] ∧ z.length ≤ sizeLine ∧ Q (.int z.length) H) ∨ ∃ a n, xs = [V.ref a] ∧ DLen H a n ∧ Q (.int n) H) f_len := by
  intro G H M xs vs post Q hr rs d k
  unfold f_len at d
  split at d
  · rename_i v
    cases rs with
    | cons rx t =>
      cases t
      cases e : seqD v M with
      | some ds =>
        rw [e] at d
        obtain ⟨q, ys, rfl, hq, rq⟩ := seqD_ok hr rx e
        exact .inl ⟨q, ys, rfl, hq, by rw [rq.length]; exact k.here hr .int d⟩
      | none =>
        rw [e] at d
        dsimp only at d
        have fin : ∀ (x : V) (v : D), Rep K G x v → (match dictLen v M with
            | some n => post (.int n) M
            | none => False) → ∃ a n, [x] = [V.ref a] ∧ DLen H a n ∧ Q (.int n) H := fun x v rx d => by
          cases q : dictLen v M with
          | none => rw [q] at d; exact d.elim
          | some n =>
            rw [q] at d
            obtain ⟨a, rfl, hl⟩ := dlen_ok hr rx q
            exact ⟨a, n, rfl, hl, k.here hr .int d⟩
        cases v with
        | str z => cases rx; exact .inr (.inl ⟨z, rfl, d.1, k.here hr .int d.2⟩)
        | _ => exact .inr (.inr (fin _ _ rx d))
  · exact d.elim
theorem pd_len (hm : X.mg "len" = none) (ha : PDA X F [a] dA) (hg : Gl X "len" := by rfl) (he : starEach [a] X.env = (false, eval a X.env) :: starEach [] X.env := by rfl) : PD X F (.Call (.Name "len" p) [a] [] pos) (dCB f_len dA) :=
  pd_cB (call_len_seq.or (call_len_str.or call_lenDD)) ref_len hm ha PySem.boot_len hg (by decide) (by decide) he rfl
def f_abs : DN := fun vs M Q => match vs with
  | [.int i] => Q (.int (if i < 0 then -i else i)) M
  | _ => False
theorem ref_abs {K : Fg} : RefN K F (fun xs H Q => ∃ i, xs = [.int i] ∧ Q (.int (if i < 0 then -i else i)) H) f_abs := by
  intro G H M xs vs post Q hr rs d k
  unfold f_abs at d
  split at d
  · cases rs with
    | cons h t => cases h; cases t; exact ⟨_, rfl, k.here hr .int d⟩
  · exact d.elim
theorem pd_abs (hm : X.mg "abs" = none) (ha : PDA X F [a] dA) (hg : Gl X "abs" := by rfl) (he : starEach [a] X.env = (false, eval a X.env) :: starEach [] X.env := by rfl) : PD X F (.Call (.Name "abs" p) [a] [] pos) (dCB f_abs dA) :=
  pd_cB call_abs ref_abs hm ha (by decide +kernel) hg (by decide) (by decide) he rfl
def f_max2 : DN := fun vs M Q => match vs with
  | [.int i, .int j] => Q (.int (if j > i then j else i)) M
  | _ => False
def f_min2 : DN := fun vs M Q => match vs with
  | [.int i, .int j] => Q (.int (if j < i then j else i)) M
  | _ => False
theorem ref_max2 {K : Fg} : RefN K F (fun xs H Q => ∃ i j, xs = [.int i, .int j] ∧ Q (.int (if j > i then j else i)) H) f_max2 := by
  intro G H M xs vs post Q hr rs d k
  unfold f_max2 at d
  split at d
  · cases rs with
    | cons h t => cases h; cases t with
      | cons h t => cases h; cases t; exact ⟨_, _, rfl, k.here hr .int d⟩
  · exact d.elim
theorem ref_min2 {K : Fg} : RefN K F (fun xs H Q => ∃ i j, xs = [.int i, .int j] ∧ Q (.int (if j < i then j else i)) H) f_min2 := by
  intro G H M xs vs post Q hr rs d k
  unfold f_min2 at d
  split at d
  · cases rs with
    | cons h t => cases h; cases t with
      | cons h t => cases h; cases t; exact ⟨_, _, rfl, k.here hr .int d⟩
  · exact d.elim
theorem pd_max2 (hc : X.calm = true) (hm : X.mg "max" = none) (ha : PDA X F [a, b] dA) (hg : Gl X "max" := by rfl) (he : starEach [a, b] X.env = (false, eval a X.env) :: starEach [b] X.env := by rfl) (hpl : (backTo pos (starEach [b] X.env)).any (·.1) = false := by rfl) : PD X F (.Call (.Name "max" p) [a, b] [] pos) (dCB f_max2 dA) :=
  pd_cB (call_max2 hc) ref_max2 hm ha (by decide +kernel) hg (by decide) (by decide) he hpl
theorem pd_min2 (hc : X.calm = true) (hm : X.mg "min" = none) (ha : PDA X F [a, b] dA) (hg : Gl X "min" := by rfl) (he : starEach [a, b] X.env = (false, eval a X.env) :: starEach [b] X.env := by rfl) (hpl : (backTo pos (starEach [b] X.env)).any (·.1) = false := by rfl) : PD X F (.Call (.Name "min" p) [a, b] [] pos) (dCB f_min2 dA) :=
  pd_cB (call_min2 hc) ref_min2 hm ha (by decide +kernel) hg (by decide) (by decide) he hpl
def f_int : DN := fun vs M Q => match vs with
  | [.int i] => Q (.int i) M
  | [.bl k] => Q (.int (if k then 1 else 0)) M
  | [.str z] => z.length ≤ 640 ∧ (match PySem.intText? z with
    | some n => Q (.int n) M
    | none => False)
  | _ => False
theorem ref_int {K : Fg} : RefN K F (fun xs H Q => ((∃ i, xs = [.int i] ∧ Q (.int i) H) ∨ ∃ k, xs = [.bl k] ∧ Q (.int (if k then 1 else 0)) H) ∨ ∃ a n, xs = [.str a] ∧ PySem.intText? a = some n ∧ a.length ≤ 640 ∧ Q (.int n) H) f_int := by
  intro G H M xs vs post Q hr rs d k
  unfold f_int at d
  split at d
  · cases rs with
    | cons h t => cases h; cases t; exact .inl (.inl ⟨_, rfl, k.here hr .int d⟩)
  · cases rs with
    | cons h t => cases h; cases t; exact .inl (.inr ⟨_, rfl, k.here hr .int d⟩)
  · rename_i z
    cases rs with
    | cons h t =>
      cases h; cases t
      cases e : PySem.intText? z with
      | none => rw [e] at d; exact d.2.elim
      | some n => rw [e] at d; exact .inr ⟨z, n, rfl, e, d.1, k.here hr .int d.2⟩
  · exact d.elim
theorem pd_intc (hm : X.mg "int" = none) (ha : PDA X F [a] dA) (hg : Gl X "int" := by rfl) (he : starEach [a] X.env = (false, eval a X.env) :: starEach [] X.env := by rfl) : PD X F (.Call (.Name "int" p) [a] [] pos) (dCB f_int dA) :=
  pd_cTy (call_int1.or call_int_str) ref_int hm ha (by decide +kernel) hg (by decide) (by decide) he rfl
def f_str : DN := fun vs M Q => match vs with
  | [.int i] => i.natAbs.log2 < 1920 ∧ Q (.str (toString i)) M
  | _ => False
theorem ref_str {K : Fg} : RefN K F (fun xs H Q => ∃ i, xs = [.int i] ∧ i.natAbs.log2 < 1920 ∧ Q (.str (toString i)) H) f_str := by
  intro G H M xs vs post Q hr rs d k
  unfold f_str at d
  split at d
  · cases rs with
    | cons h t => cases h; cases t; exact ⟨_, rfl, d.1, k.here hr .str d.2⟩
  · exact d.elim
theorem pd_strc (hm : X.mg "str" = none) (ha : PDA X F [a] dA) (hg : Gl X "str" := by rfl) (he : starEach [a] X.env = (false, eval a X.env) :: starEach [] X.env := by rfl) : PD X F (.Call (.Name "str" p) [a] [] pos) (dCB f_str dA) :=
  pd_cTy call_str_int ref_str hm ha (by decide +kernel) hg (by decide) (by decide) he rfl
def f_ord : DN := fun vs M Q => match vs with
  | [.str z] => z.length = 1 ∧ Q (.int (z.cps.getD 0 0 : Nat)) M
  | _ => False
theorem ref_ord {K : Fg} : RefN K F (fun xs H Q => ∃ x, xs = [.str x] ∧ x.length = 1 ∧ Q (.int (x.cps.getD 0 0 : Nat)) H) f_ord := by
  intro G H M xs vs post Q hr rs d k
  unfold f_ord at d
  split at d
  · cases rs with
    | cons h t => cases h; cases t; exact ⟨_, rfl, d.1, k.here hr .int d.2⟩
  · exact d.elim
theorem pd_ord (hm : X.mg "ord" = none) (ha : PDA X F [a] dA) (hg : Gl X "ord" := by rfl) (he : starEach [a] X.env = (false, eval a X.env) :: starEach [] X.env := by rfl) : PD X F (.Call (.Name "ord" p) [a] [] pos) (dCB f_ord dA) :=
  pd_cB call_ord ref_ord hm ha (by decide +kernel) hg (by decide) (by decide) he rfl
def f_gcd : DN := fun vs M Q => match vs with
  | [.int i, .int j] => Q (.int ((Nat.gcd i.natAbs j.natAbs : Nat) : Int)) M
  | _ => False
theorem ref_gcd {K : Fg} : RefN K F rGcd f_gcd := by
  intro G H M xs vs post Q hr rs d k
  unfold f_gcd at d
  split at d
  · cases rs with
    | cons h t => cases h; cases t with
      | cons h t => cases h; cases t; exact ⟨_, _, rfl, k.here hr .int d⟩
  · exact d.elim
theorem pd_gcd (hm : X.mg "gcd" = some (.builtin "math.gcd")) (ha : PDA X F [a, b] dA) (hg : Gl X "gcd" := by rfl) (he : starEach [a, b] X.env = (false, eval a X.env) :: starEach [b] X.env := by rfl) (hpl : (backTo pos (starEach [b] X.env)).any (·.1) = false := by rfl) : PD X F (.Call (.Name "gcd" p) [a, b] [] pos) (dCB f_gcd dA) :=
  pd_cFn cr_gcd ref_gcd hm ha hg (by decide) he hpl
def f_sum : DN := fun vs M Q => match vs with
  | [v] => (match listD v M with
    | some ds => (match intsD ds with
      | some ns => Q (.int ns.sum) M
      | none => False)
    | none => False)
  | _ => False
/-- a list of ints, by its items -/
theorem list_ints {K : Fg} {G H : Hp} {M : Mem} {x : V} {v : D} {ds : List D} {ns : List Int} (hr : HRel K F G H M) (rx : Rep K G x v) (e : listD v M = some ds) (e2 : intsD ds = some ns) : ∃ a, x = .ref a ∧ SqL K H a (ns.map V.int) := by
  obtain ⟨q, ys, rfl, hq, rq⟩ := listD_ok hr rx e
  rw [intsD_ok e2] at rq
  rw [Reps.of_ints rq] at hq
  exact ⟨q, rfl, hq⟩
theorem ref_sum {K : Fg} : RefN K F (rSum K) f_sum := by
  intro G H M xs vs post Q hr rs d k
  unfold f_sum at d
  split at d
  · rename_i v
    cases rs with
    | cons rx t =>
      cases t
      split at d
      · rename_i ds e
        split at d
        · rename_i ns e2
          obtain ⟨q, rfl, hq⟩ := list_ints hr rx e e2
          exact ⟨q, ns, rfl, hq, k.here hr .int d⟩
        · exact d.elim
      · exact d.elim
  · exact d.elim
theorem pd_sum (hc : X.calm = true) (hm : X.mg "sum" = none) (ha : PDA X F [a] dA) (hg : Gl X "sum" := by rfl) (he : starEach [a] X.env = (false, eval a X.env) :: starEach [] X.env := by rfl) : PD X F (.Call (.Name "sum" p) [a] [] pos) (dCB f_sum dA) :=
  pd_cB (cr_sum hc) ref_sum hm ha (by decide +kernel) hg (by decide) (by decide) he rfl
/-- the greatest, the least of a list that is not empty -/
def f_maxL : DN := fun vs M Q => match vs with
  | [v] => (match listD v M with
    | some ds => (match intsD ds with
      | some ns => 0 < ns.length ∧ ∀ m, m ∈ ns → (∀ y, y ∈ ns → y ≤ m) → Q (.int m) M
      | none => False)
    | none => False)
  | _ => False
def f_minL : DN := fun vs M Q => match vs with
  | [v] => (match listD v M with
    | some ds => (match intsD ds with
      | some ns => 0 < ns.length ∧ ∀ m, m ∈ ns → (∀ y, y ∈ ns → m ≤ y) → Q (.int m) M
      | none => False)
    | none => False)
  | _ => False
theorem ref_maxL {K : Fg} : RefN K F (rMax K) f_maxL := by
  intro G H M xs vs post Q hr rs d k
  unfold f_maxL at d
  split at d
  · rename_i v
    cases rs with
    | cons rx t =>
      cases t
      split at d
      · rename_i ds e
        split at d
        · rename_i ns e2
          obtain ⟨q, rfl, hq⟩ := list_ints hr rx e e2
          exact ⟨q, ns, rfl, hq, d.1, fun m h1 h2 => k.here hr .int (d.2 m h1 h2)⟩
        · exact d.elim
      · exact d.elim
  · exact d.elim
theorem ref_minL {K : Fg} : RefN K F (rMin K) f_minL := by
  intro G H M xs vs post Q hr rs d k
  unfold f_minL at d
  split at d
  · rename_i v
    cases rs with
    | cons rx t =>
      cases t
      split at d
      · rename_i ds e
        split at d
        · rename_i ns e2
          obtain ⟨q, rfl, hq⟩ := list_ints hr rx e e2
          exact ⟨q, ns, rfl, hq, d.1, fun m h1 h2 => k.here hr .int (d.2 m h1 h2)⟩
        · exact d.elim
      · exact d.elim
  · exact d.elim
theorem pd_maxL (hc : X.calm = true) (hm : X.mg "max" = none) (ha : PDA X F [a] dA) (hg : Gl X "max" := by rfl) (he : starEach [a] X.env = (false, eval a X.env) :: starEach [] X.env := by rfl) : PD X F (.Call (.Name "max" p) [a] [] pos) (dCB f_maxL dA) :=
  pd_cB (cr_max hc) ref_maxL hm ha (by decide +kernel) hg (by decide) (by decide) he rfl
theorem pd_minL (hc : X.calm = true) (hm : X.mg "min" = none) (ha : PDA X F [a] dA) (hg : Gl X "min" := by rfl) (he : starEach [a] X.env = (false, eval a X.env) :: starEach [] X.env := by rfl) : PD X F (.Call (.Name "min" p) [a] [] pos) (dCB f_minL dA) :=
  pd_cB (cr_min hc) ref_minL hm ha (by decide +kernel) hg (by decide) (by decide) he rfl
/-- all, any of a list of truth values -/
def blsD : List D → Option (List Bool)
  | [] => some []
  | .bl i :: r => (blsD r).map (i :: ·)
  | _ => none
theorem blsD_ok : ∀ {ds : List D} {ns : List Bool}, blsD ds = some ns → ds = ns.map D.bl
  | [], _, e => by simp only [blsD] at e; cases e; rfl
  | d :: r, ns, e => by
    cases d <;> simp only [blsD] at e <;> first
      | (cases e; done)
      | (obtain ⟨ms, e1, e2⟩ := Option.map_eq_some_iff.mp e; subst e2; rw [blsD_ok e1]; rfl)
def f_all : DN := fun vs M Q => match vs with
  | [v] => (match listD v M with
    | some ds => (match blsD ds with
      | some ns => Q (.bl (ns.all _root_.id)) M
      | none => False)
    | none => False)
  | _ => False
def f_any : DN := fun vs M Q => match vs with
  | [v] => (match listD v M with
    | some ds => (match blsD ds with
      | some ns => Q (.bl (ns.any _root_.id)) M
      | none => False)
    | none => False)
  | _ => False
theorem list_bls {K : Fg} {G H : Hp} {M : Mem} {x : V} {v : D} {ds : List D} {ns : List Bool} (hr : HRel K F G H M) (rx : Rep K G x v) (e : listD v M = some ds) (e2 : blsD ds = some ns) : ∃ a, x = .ref a ∧ SqL K H a (ns.map V.bl) := by
  obtain ⟨q, ys, rfl, hq, rq⟩ := listD_ok hr rx e
  rw [blsD_ok e2] at rq
  rw [Reps.of_bls rq] at hq
  exact ⟨q, rfl, hq⟩
theorem ref_all {K : Fg} : RefN K F (rAll K) f_all := by
  intro G H M xs vs post Q hr rs d k
  unfold f_all at d
  split at d
  · rename_i v
    cases rs with
    | cons rx t =>
      cases t
      split at d
      · rename_i ds e
        split at d
        · rename_i ns e2
          obtain ⟨q, rfl, hq⟩ := list_bls hr rx e e2
          exact ⟨q, ns, rfl, hq, k.here hr .bl d⟩
        · exact d.elim
      · exact d.elim
  · exact d.elim
theorem ref_any {K : Fg} : RefN K F (rAny K) f_any := by
  intro G H M xs vs post Q hr rs d k
  unfold f_any at d
  split at d
  · rename_i v
    cases rs with
    | cons rx t =>
      cases t
      split at d
      · rename_i ds e
        split at d
        · rename_i ns e2
          obtain ⟨q, rfl, hq⟩ := list_bls hr rx e e2
          exact ⟨q, ns, rfl, hq, k.here hr .bl d⟩
        · exact d.elim
      · exact d.elim
  · exact d.elim
theorem pd_all (hc : X.calm = true) (hm : X.mg "all" = none) (ha : PDA X F [a] dA) (hg : Gl X "all" := by rfl) (he : starEach [a] X.env = (false, eval a X.env) :: starEach [] X.env := by rfl) : PD X F (.Call (.Name "all" p) [a] [] pos) (dCB f_all dA) :=
  pd_cB (cr_all hc) ref_all hm ha (by decide +kernel) hg (by decide) (by decide) he rfl
theorem pd_any (hc : X.calm = true) (hm : X.mg "any" = none) (ha : PDA X F [a] dA) (hg : Gl X "any" := by rfl) (he : starEach [a] X.env = (false, eval a X.env) :: starEach [] X.env := by rfl) : PD X F (.Call (.Name "any" p) [a] [] pos) (dCB f_any dA) :=
  pd_cB (cr_any hc) ref_any hm ha (by decide +kernel) hg (by decide) (by decide) he rfl
/-- list(x), tuple(x): new -/
def f_list (fresh : Bool) : DN := fun vs M Q => match vs with
  | [v] => (match seqD v M with
    | some ds => if fresh then ∀ p, M p = none → Q (.obj p) (st M p (.lst ds)) else Q (.lst ds) M
    | none => False)
  | _ => False
theorem ref_list {K : Fg} (fresh : Bool) : RefN K F (fun xs H Q => ∃ p ys, xs = [.ref p] ∧ (SqL K H p ys ∨ SqT K H p ys) ∧ ∀ l, H l = none → Q (.ref l) (upd H l (.lst ys))) (f_list fresh) := by
  intro G H M xs vs post Q hr rs d k
  unfold f_list at d
  split at d
  · rename_i v
    cases rs with
    | cons rx t =>
      cases t
      split at d
      · rename_i ds e
        obtain ⟨q, ys, rfl, hq, rq⟩ := seqD_ok hr rx e
        refine ⟨q, ys, rfl, hq, fun l hl => ?_⟩
        cases fresh with
        | false => exact k.new hr hl (.lst upd_same (rq.mono (hr.new hl).1)) d
        | true => exact k.newC (c := .lst _) hr hl ⟨_, upd_same, rq⟩ (d l (hr.mnone hl).1)
      · exact d.elim
  · exact d.elim
theorem pd_listc (fresh : Bool) (hm : X.mg "list" = none) (ha : PDA X F [a] dA) (hg : Gl X "list" := by rfl) (he : starEach [a] X.env = (false, eval a X.env) :: starEach [] X.env := by rfl) : PD X F (.Call (.Name "list" p) [a] [] pos) (dCB (f_list fresh) dA) :=
  pd_cTy call_list_of (ref_list fresh) hm ha (by decide +kernel) hg (by decide) (by decide) he rfl
def seqD0 (v : D) (M : Mem) : Option (List D) := match v with
  | .tup ds => some ds
  | v => listD v M
def f_tuple : DN := fun vs M Q => match vs with
  | [v] => (match seqD0 v M with
    | some ds => Q (.tup ds) M
    | none => False)
  | _ => False
theorem ref_tuple {K : Fg} : RefN K F (fun xs H Q => ∃ p ys, xs = [.ref p] ∧ ((SqL K H p ys ∧ ∀ l, H l = none → Q (.ref l) (upd H l (.tup ys))) ∨ (SqT K H p ys ∧ Q (.ref p) H))) f_tuple := by
  intro G H M xs vs post Q hr rs d k
  unfold f_tuple at d
  split at d
  · rename_i v
    cases rs with
    | cons rx t =>
      cases t
      split at d
      · rename_i ds e
        cases v with
        | tup es =>
          cases e
          cases rx with
          | tup h r => exact ⟨_, _, rfl, .inr ⟨.inl (.inl (hr.sub _ _ h)), k.here hr (.tup h r) d⟩⟩
        | _ =>
          obtain ⟨q, ys, rfl, hq, rq⟩ := listD_ok hr rx e
          exact ⟨q, ys, rfl, .inl ⟨hq, fun l hl => k.new hr hl (.tup upd_same (rq.mono (hr.new hl).1)) d⟩⟩
      · exact d.elim
  · exact d.elim
theorem pd_tuplec (hm : X.mg "tuple" = none) (ha : PDA X F [a] dA) (hg : Gl X "tuple" := by rfl) (he : starEach [a] X.env = (false, eval a X.env) :: starEach [] X.env := by rfl) : PD X F (.Call (.Name "tuple" p) [a] [] pos) (dCB f_tuple dA) :=
  pd_cTy call_tuple_of ref_tuple hm ha (by decide +kernel) hg (by decide) (by decide) he rfl
/-! isinstance of data -/
def tyD (v : D) (M : Mem) : Option String := match v with
  | .non => some "NoneType"
  | .bl _ => some "bool"
  | .int _ => some "int"
  | .str _ => some "str"
  | .tup _ => some "tuple"
  | .lst _ => some "list"
  | .dk _ => some "dict"
  | .dt _ => some "dict"
  | .obj a => (match M a with
    | some (.lst _) => some "list"
    | some (.dk _) => some "dict"
    | some (.dt _) => some "dict"
    | _ => none)
  | _ => none
def isI (t n : String) : Bool := decide (t = n) || (decide (t = "bool") && decide (n = "int"))
def tys : List String := ["NoneType", "bool", "int", "str", "tuple", "list", "dict"]
theorem isI_ok : (tys.all fun t => tys.all fun n => decide (kitB t n = some (isI t n))) = true := by decide +kernel
theorem tyD_mem {v : D} {M : Mem} {t : String} (e : tyD v M = some t) : t ∈ tys := by
  unfold tyD at e
  have q : ∀ z : String, z ∈ tys → some z = some t → t ∈ tys := fun z hz h => by cases h; exact hz
  cases v with
  | obj a =>
    dsimp only at e
    split at e <;> first
      | (cases e; done)
      | exact q _ (by decide) e
  | _ => first
    | (cases e; done)
    | exact q _ (by decide) e
theorem tyD_ok {K : Fg} {G H : Hp} {M : Mem} {x : V} {v : D} {t : String} (hr : HRel K F G H M) (rx : Rep K G x v) (e : tyD v M = some t) : TyX K H x (.type t) ∨ ∃ a, x = .ref a ∧ IsD H a ∧ t = "dict" := by
  unfold tyD at e
  cases rx with
  | non => cases e; exact .inl <| .base .non
  | bl => cases e; exact .inl <| .base (.bl _)
  | int => cases e; exact .inl <| .base (.int _)
  | str => cases e; exact .inl <| .base (.str _)
  | ty => cases e
  | obj =>
    rename_i a
    dsimp only at e
    split at e
    · rename_i ds q
      cases e; obtain ⟨xs, h1, h2⟩ := (hr.cell a _ q).1; exact .inl <| .base (.lst h1)
    · rename_i ds q
      cases e; obtain ⟨xs, h1, h2⟩ := (hr.cell a _ q).1; exact .inl <| .base (.dK h1)
    · rename_i ds q
      cases e; obtain ⟨xs, h1, h2⟩ := (hr.cell a _ q).1; exact .inl <| .base (.dT h1)
    · cases e
  | tup h _ => cases e; exact .inl <| .base (.tup (hr.sub _ _ h))
  | rt h _ => cases e
  | lst h _ => cases e; exact .inl <| .base (.lst (hr.sub _ _ h))
  | ro h _ => cases e
  | dk h _ _ => cases e; exact .inr ⟨_, rfl, .inl ⟨_, .inr (h.imp fun _ q => hr.sub _ _ q)⟩, rfl⟩
  | dt h _ _ => cases e; exact .inr ⟨_, rfl, .inr ⟨_, .inr (h.imp fun _ q => hr.sub _ _ q)⟩, rfl⟩
def f_isi : DN := fun vs M Q => match vs with
  | [v, .ty n] => (match tyD v M with
    | some t => n ∈ tys ∧ Q (.bl (isI t n)) M
    | none => False)
  | _ => False
def rIsiD (K : Fg) : List V → Hp → VK → Prop := fun xs H Q => ∃ (a : Addr) (c : V) (u : Value) (b : Bool), xs = [.ref a, c] ∧ ClsV c u ∧ IsD H a ∧ PySem.W.kitOne K (.type "dict") u = some b ∧ Q (.bl b) H
theorem call_isiD {X : Cx} : CallR X (.builtin "isinstance") (rIsiD X.K) := by
  intro pins s σ H xs us Q I r h
  obtain ⟨a, c, u, b, rfl, k, hd, e, q⟩ := h
  obtain ⟨u1, u2, rfl, r1, r2⟩ := vals2 r
  have e2 := k.eq r2
  subst e2
  cases r1
  have ty := (isD_at I hd).1
  exact PySem.W.kia_one PySem.W.kitx_dict I.kIn ty e (fun z => nomatch z) fun tk => ⟨.bl b, H, I.tok tk, rfl, q⟩
theorem ref_isi {K : Fg} : RefN K F (fun xs H Q => rIsi K xs H Q ∨ rIsiD K xs H Q) f_isi := by
  intro G H M xs vs post Q hr rs d k
  unfold f_isi at d
  split at d
  · rename_i v n
    cases rs with
    | cons rx t =>
      cases t with
      | cons rc t =>
        cases t; cases rc
        split at d
        · rename_i t e
          obtain ⟨d1, d2⟩ := d
          have h1 := List.all_eq_true.mp isI_ok t (tyD_mem e)
          have h2 := of_decide_eq_true (List.all_eq_true.mp h1 n d1)
          rcases tyD_ok hr rx e with ty | ⟨a, rfl, hd, rfl⟩
          · exact .inl ⟨_, _, _, _, _, rfl, .ty n, ty, kit_ty h2, k.here hr .bl d2⟩
          · exact .inr ⟨a, _, _, _, rfl, .ty n, hd, kit_ty h2, k.here hr .bl d2⟩
        · exact d.elim
  · exact d.elim
theorem pd_isi (hm : X.mg "isinstance" = none) (ha : PDA X F [a, b] dA) (hg : Gl X "isinstance" := by rfl) (he : starEach [a, b] X.env = (false, eval a X.env) :: starEach [b] X.env := by rfl) (hpl : (backTo pos (starEach [b] X.env)).any (·.1) = false := by rfl) : PD X F (.Call (.Name "isinstance" p) [a, b] [] pos) (dCB f_isi dA) :=
  pd_cB (call_isi.or call_isiD) ref_isi hm ha (by decide +kernel) hg (by decide) (by decide) he hpl
theorem pd_ty {x : Str} {n : String} {pos : Pos} (hm : X.mg x = none) (hg : Gl X x := by rfl) (hv : bootBuiltins x = some (.type n) := by decide +kernel) (hn : x ≠ "__name__" := by decide) (hd : (x == ("__debug__" : Str)) = false := by decide) : PD X F (.Name x pos) (dC (.ty n)) :=
  pd_bltn hm (v := .ty n) rfl (fun _ => .ty) hg hv hn hd

/-! ### methods -/
abbrev DM := D → List D → Mem → (D → Mem → Prop) → Prop
def RefM (K : Fg) (F : Fm) (r : V → List V → Hp → VK → Prop) (f : DM) : Prop := ∀ {G H : Hp} {M : Mem} {x : V} {v : D} {xs : List V} {vs : List D} {post : D → Mem → Prop} {Q : VK}, HRel K F G H M → Rep K G x v → Reps K G xs vs → f v vs M post → QE K F G post Q → r x xs H Q
def TyOk (T : String) (v : D) (M : Mem) : Prop := (T = "list" ∧ (listD v M).isSome = true) ∨ (T = "str" ∧ ∃ z, v = .str z)
theorem TyOk.ok {K : Fg} {G H : Hp} {M : Mem} {x : V} {v : D} {T : String} (hr : HRel K F G H M) (rx : Rep K G x v) (h : TyOk T v M) : tyV K T x H := by
  rcases h with ⟨rfl, h⟩ | ⟨rfl, z, rfl⟩
  · obtain ⟨ds, e⟩ := Option.isSome_iff_exists.mp h
    obtain ⟨a, xs, rfl, hq, _⟩ := listD_ok hr rx e
    exact .inl ⟨rfl, xs, hq⟩
  · cases rx; rfl
def dMt (T : String) (f : DM) (da : DE) (dA : DA) : DE := fun ρ M Q => da ρ M fun x M1 => TyOk T x M1 ∧ dA ρ M1 fun vs M2 => f x vs M2 Q
variable {name : Str} {apos cpos : Pos} {rm : V → List V → Hp → VK → Prop} {fm : DM}
theorem pd_mt (pa : PlainAttrs T) (slot : Slot T name id) (hty : typeOf (.builtin id) = pure (.type "method_descriptor")) (hm : MtR X id rm) (hf : RefM X.K F rm fm) (ho : PD X F a da) (ha : PDA X F (e :: es) dA)
    (hbase : attributeBase a name X.env (eval a X.env) = eval a X.env := by rfl)
    (hfew : ((backTo cpos (starEach (e :: es) X.env)).all (fun x => !x.1) && (backToKw cpos (keywordEach [] X.env)).all (fun x => x.1.isSome)
      && decide ((e :: es).length + ([] : List Keyword).length + (if ([] : List Keyword).isEmpty then 0 else 1) < 30)) = true := by rfl)
    (hline : (apos.endLine == cpos.line) = true := by rfl) (hs : starEach (e :: es) X.env = (false, eval e X.env) :: starEach es X.env := by rfl) (hplain : (backTo cpos (starEach es X.env)).any (·.1) = false := by rfl) :
    PD X F (.Call (.Attribute a name apos) (e :: es) [] cpos) (dMt T fm da dA) := pe_imp (pe_bm pa slot hty hm ho ha hbase hfew hline hs hplain) fun σ H Q ⟨G, ρ, M, post, hr, sr, d, k⟩ =>
  ⟨G, ρ, M, _, hr, sr, d, fun G1 H1 M1 x v s1 h1 rx q1 => ⟨q1.1.ok h1 rx, G1, ρ, M1, _, h1, sr.mono s1, q1.2, fun G2 H2 M2 xs vs s2 h2 rs q2 => hf h2 (rx.mono s2) rs q2 (k.later (s1.trans s2))⟩⟩
def dMt0 (T : String) (f : DM) (da : DE) : DE := fun ρ M Q => da ρ M fun x M1 => TyOk T x M1 ∧ f x [] M1 Q
theorem pd_mt0 (pa : PlainAttrs T) (slot : Slot T name id) (hty : typeOf (.builtin id) = pure (.type "method_descriptor")) (hm : MtR X id rm) (hf : RefM X.K F rm fm) (ho : PD X F a da)
    (hbase : attributeBase a name X.env (eval a X.env) = eval a X.env := by rfl) (hline : (apos.endLine == cpos.line) = true := by rfl) :
    PD X F (.Call (.Attribute a name apos) [] [] cpos) (dMt0 T fm da) := pe_imp (pe_bm0 pa slot hty hm ho hbase hline) fun σ H Q ⟨G, ρ, M, post, hr, sr, d, k⟩ =>
  ⟨G, ρ, M, _, hr, sr, d, fun G1 H1 M1 x v s1 h1 rx q1 => ⟨q1.1.ok h1 rx, hf h1 rx .nil q1.2 (k.later s1)⟩⟩
def f_append : DM := fun v vs M Q => match v, vs with
  | .obj a, [y] => (match M a with
    | some (.lst ds) => ds.length < sizeLine ∧ Q .non (st M a (.lst (ds ++ [y])))
    | _ => False)
  | _, _ => False
theorem ref_append {K : Fg} : RefM K F rAppend f_append := by
  intro G H M x v xs vs post Q hr rx rs d k
  unfold f_append at d
  split at d
  · rename_i a y
    cases rx
    cases rs with
    | cons ry t =>
      cases t
      split at d
      · rename_i ds e
        obtain ⟨ys, h1, h2⟩ := (hr.cell a _ e).1
        refine ⟨a, ys, _, rfl, rfl, h1, by rw [h2.length]; exact d.1, ?_⟩
        exact k _ _ _ _ _ (Same.refl _) (hr.write (c' := .lst _) e ⟨_, upd_same, h2.app (.cons ry .nil)⟩) .non d.2
      · exact d.elim
  · exact d.elim
theorem pd_append (ho : PD X F a da) (ha : PDA X F [e] dA)
    (hbase : attributeBase a "append" X.env (eval a X.env) = eval a X.env := by rfl)
    (hfew : ((backTo cpos (starEach [e] X.env)).all (fun x => !x.1) && (backToKw cpos (keywordEach [] X.env)).all (fun x => x.1.isSome)
      && decide (([e] : List Expr).length + ([] : List Keyword).length + (if ([] : List Keyword).isEmpty then 0 else 1) < 30)) = true := by rfl)
    (hline : (apos.endLine == cpos.line) = true := by rfl) (hs : starEach [e] X.env = (false, eval e X.env) :: starEach [] X.env := by rfl) :
    PD X F (.Call (.Attribute a "append" apos) [e] [] cpos) (dMt "list" f_append da dA) :=
  pd_mt PySem.F.plainAttrs_list PySem.F.slot_list_append PySem.F.type_list_append mt_append ref_append ho ha hbase hfew hline hs rfl
end
end Dl

/-! Dl6: statements, defs called, the rule of a def, loops. -/
namespace Dl
open L2 PySem PyProof.Rows PySem.Spec

structure DEnds where
  nx : Rho → Mem → Prop
  rt : D → Mem → Prop
  bk : Rho → Mem → Prop := fun _ _ => False
  ct : Rho → Mem → Prop := fun _ _ => False
abbrev DS := DEnds → Rho → Mem → Prop
structure QS (K : Fg) (F : Fm) (G : Hp) (E : DEnds) (Dn : Ends) : Prop where
  nx : ∀ G' σ' H' ρ' M', Same G G' → HRel K F G' H' M' → SRel K G' σ' ρ' → E.nx ρ' M' → Dn.nx σ' H'
  rt : QE K F G E.rt Dn.rt
  bk : ∀ G' σ' H' ρ' M', Same G G' → HRel K F G' H' M' → SRel K G' σ' ρ' → E.bk ρ' M' → Dn.bk σ' H'
  ct : ∀ G' σ' H' ρ' M', Same G G' → HRel K F G' H' M' → SRel K G' σ' ρ' → E.ct ρ' M' → Dn.ct σ' H'
theorem QS.later {K : Fg} {F : Fm} {G G' : Hp} {E : DEnds} {Dn : Ends} (q : QS K F G E Dn) (s : Same G G') : QS K F G' E Dn :=
  ⟨fun G2 σ' H' ρ' M' s2 => q.nx G2 σ' H' ρ' M' (s.trans s2), q.rt.later s, fun G2 σ' H' ρ' M' s2 => q.bk G2 σ' H' ρ' M' (s.trans s2), fun G2 σ' H' ρ' M' s2 => q.ct G2 σ' H' ρ' M' (s.trans s2)⟩
def LS (K : Fg) (F : Fm) (d : DS) : TS := fun Dn σ H => ∃ G ρ M E, HRel K F G H M ∧ SRel K G σ ρ ∧ d E ρ M ∧ QS K F G E Dn
abbrev PDS (X : Cx) (F : Fm) (st : Stmt) (d : DS) : Prop := PS X st (LS X.K F d)
abbrev PDSs (X : Cx) (F : Fm) (sts : List Stmt) (d : DS) : Prop := PSs X sts (LS X.K F d)
theorem ps_imp {X : Cx} {st : Stmt} {t t' : TS} (h : PS X st t) (i : ∀ D σ H, t' D σ H → t D σ H) : PS X st t' := ⟨fun pins s σ H D I q => h.run pins s σ H D I (i D σ H q)⟩
theorem pss_imp {X : Cx} {st : List Stmt} {t t' : TS} (h : PSs X st t) (i : ∀ D σ H, t' D σ H → t D σ H) : PSs X st t' := ⟨fun pins s σ H D I q => h.run pins s σ H D I (i D σ H q)⟩

section
variable {X : Cx} {F : Fm} {sm : Stmt} {rest : List Stmt} {d d1 d2 : DS} {e c : Expr} {da : DE} {dt : DT} {dA : DA} {pos : Pos}
def dNext : DS := fun E ρ M => E.nx ρ M
def dSeq (d1 d2 : DS) : DS := fun E ρ M => d1 { E with nx := d2 E } ρ M
theorem pds_nil : PDSs X F [] dNext := pss_imp pss_nil fun D σ H ⟨G, ρ, M, E, hr, sr, d, q⟩ => q.nx G σ H ρ M (Same.refl _) hr sr d
theorem seq_imp {K : Fg} : ∀ D σ H, LS K F (dSeq d1 d2) D σ H → tSeq (LS K F d1) (LS K F d2) D σ H := fun D σ H ⟨G, ρ, M, E, hr, sr, d, q⟩ =>
  ⟨G, ρ, M, { E with nx := d2 E }, hr, sr, d, ⟨fun G' σ' H' ρ' M' s h s' q' => ⟨G', ρ', M', E, h, s', q', q.later s⟩, q.rt, q.bk, q.ct⟩⟩
theorem pds_cons (h1 : PDS X F sm d1) (h2 : PDSs X F rest d2) : PDSs X F (sm :: rest) (dSeq d1 d2) := pss_imp (pss_cons h1 h2) seq_imp
theorem pds_one (h1 : PDS X F sm d1) : PDSs X F [sm] d1 := pss_one h1
theorem pds_pass : PDS X F (.Pass pos) dNext := ps_imp ps_pass fun D σ H ⟨G, ρ, M, E, hr, sr, d, q⟩ => q.nx G σ H ρ M (Same.refl _) hr sr d
def dBrk : DS := fun E ρ M => E.bk ρ M
def dCnt : DS := fun E ρ M => E.ct ρ M
theorem pds_break : PDS X F (.Break pos) dBrk := ps_imp ps_break fun D σ H ⟨G, ρ, M, E, hr, sr, d, q⟩ => q.bk G σ H ρ M (Same.refl _) hr sr d
theorem pds_continue : PDS X F (.Continue pos) dCnt := ps_imp ps_continue fun D σ H ⟨G, ρ, M, E, hr, sr, d, q⟩ => q.ct G σ H ρ M (Same.refl _) hr sr d
def dDrop (da : DE) : DS := fun E ρ M => da ρ M fun _ M1 => E.nx ρ M1
theorem pds_expr (he : PD X F e da) (hs : swapsWith e none pos.line X.env = pure false := by rfl) : PDS X F (.Expr e pos) (dDrop da) := ps_imp (ps_expr he hs) fun D σ H ⟨G, ρ, M, E, hr, sr, d, q⟩ =>
  ⟨G, ρ, M, _, hr, sr, d, fun G' H' M' x v s h r q' => q.nx G' σ H' ρ M' s h (sr.mono s) q'⟩
def dRet (da : DE) : DS := fun E ρ M => da ρ M E.rt
theorem pds_ret (he : PD X F e da) : PDS X F (.Return (some e) pos) (dRet da) := ps_imp (ps_ret he) fun D σ H ⟨G, ρ, M, E, hr, sr, d, q⟩ => ⟨G, ρ, M, _, hr, sr, d, q.rt⟩
def dRetN : DS := fun E _ M => E.rt .non M
theorem pds_retN : PDS X F (.Return none pos) dRetN := ps_imp ps_retN fun D σ H ⟨G, ρ, M, E, hr, sr, d, q⟩ => q.rt.here hr .non d
def dIfS (t : DT) (d1 d2 : DS) : DS := fun E ρ M => t ρ M fun b M1 => if b = true then d1 E ρ M1 else d2 E ρ M1
theorem pds_if {a b : List Stmt} (hc : PDT X F c dt) (ha : PDSs X F a d1) (hb : PDSs X F b d2) : PDS X F (.If c a b pos) (dIfS dt d1 d2) := ps_imp (ps_if hc ha hb) fun D σ H ⟨G, ρ, M, E, hr, sr, d, q⟩ =>
  ⟨G, ρ, M, _, hr, sr, d, fun G' H' M' b s h q' => by
    cases b with
    | true => exact ⟨G', ρ, M', E, h, sr.mono s, q', q.later s⟩
    | false => exact ⟨G', ρ, M', E, h, sr.mono s, q', q.later s⟩⟩

/-! ### targets -/
abbrev DG := D → Rho → Mem → (Rho → Mem → Prop) → Prop
abbrev DGs := List D → Rho → Mem → (Rho → Mem → Prop) → Prop
def QG (K : Fg) (F : Fm) (G : Hp) (post : Rho → Mem → Prop) (Q : L2.St → Hp → Prop) : Prop := ∀ G' σ' H' ρ' M', Same G G' → HRel K F G' H' M' → SRel K G' σ' ρ' → post ρ' M' → Q σ' H'
theorem QG.later {K : Fg} {G G' : Hp} {post : Rho → Mem → Prop} {Q : L2.St → Hp → Prop} (q : QG K F G post Q) (s : Same G G') : QG K F G' post Q := fun G2 σ' H' ρ' M' s2 => q G2 σ' H' ρ' M' (s.trans s2)
def LG (K : Fg) (F : Fm) (g : DG) : TG := fun x σ H Q => ∃ G ρ M v post, HRel K F G H M ∧ SRel K G σ ρ ∧ Rep K G x v ∧ g v ρ M post ∧ QG K F G post Q
def LGs (K : Fg) (F : Fm) (g : DGs) : TGs := fun xs σ H Q => ∃ G ρ M vs post, HRel K F G H M ∧ SRel K G σ ρ ∧ Reps K G xs vs ∧ g vs ρ M post ∧ QG K F G post Q
abbrev PDG (X : Cx) (F : Fm) (tg : Expr) (g : DG) : Prop := PG X tg (LG X.K F g)
abbrev PDGs (X : Cx) (F : Fm) (tgs : List Expr) (g : DGs) : Prop := PGs X tgs (LGs X.K F g)
theorem pg_imp {tg : Expr} {t t' : TG} (h : PG X tg t) (i : ∀ v σ H Q, t' v σ H Q → t v σ H Q) : PG X tg t' := ⟨fun pins s σ H v u Q I r q => h.run pins s σ H v u Q I r (i v σ H Q q)⟩
theorem pgs_imp {tg : List Expr} {t t' : TGs} (h : PGs X tg t) (i : ∀ v σ H Q, t' v σ H Q → t v σ H Q) : PGs X tg t' := ⟨fun pins s σ H v u Q I r q => h.run pins s σ H v u Q I r (i v σ H Q q)⟩
def dgName (i : Nat) : DG := fun v ρ M Q => Q (ρ.set i (some v)) M
theorem pdg_name (i : Nat) {x : Str} (hN : X.N.Nodup) (hi : X.N[i]? = some x := by rfl) (hx : Loc X.env.scope x := by first | exact Or.inl rfl | exact Or.inr rfl) (hf : X.fn x = true ∨ X.env.scope.names.lookup x = some .local := by first | exact .inl rfl | exact .inr rfl | assumption) : PDG X F (.Name x pos) (dgName i) :=
  pg_imp (pg_name hN hi hx hf) fun x σ H Q ⟨G, ρ, M, v, post, hr, sr, r, d, q⟩ => q G _ H _ M (Same.refl _) hr (sr.set r i) d
def dgNil : DGs := fun vs ρ M Q => vs = [] ∧ Q ρ M
def dgCons (g : DG) (gs : DGs) : DGs := fun vs ρ M Q => match vs with
  | v :: r => g v ρ M fun ρ1 M1 => gs r ρ1 M1 Q
  | [] => False
theorem pdgs_nil : PDGs X F [] dgNil := pgs_imp pgs_nil fun xs σ H Q ⟨G, ρ, M, vs, post, hr, sr, r, d, q⟩ => by
  obtain ⟨rfl, d⟩ := d
  cases r
  exact ⟨rfl, q G σ H ρ M (Same.refl _) hr sr d⟩
theorem pdgs_cons {es : List Expr} {g : DG} {gs : DGs} (h1 : PDG X F e g) (h2 : PDGs X F es gs) (hs : (assignEach (e :: es) X.env).map (·.2) = assign e X.env :: (assignEach es X.env).map (·.2) := by rfl) : PDGs X F (e :: es) (dgCons g gs) :=
  pgs_imp (pgs_cons h1 h2 hs) fun xs σ H Q ⟨G, ρ, M, vs, post, hr, sr, r, d, q⟩ => by
    cases r with
    | nil => exact (show False from d).elim
    | cons rx t =>
      exact ⟨_, _, rfl, G, ρ, M, _, _, hr, sr, rx, d, fun G' σ' H' ρ' M' s h s' q' => ⟨G', ρ', M', _, post, h, s', t.mono s, q', q.later s⟩⟩
def dgTup (n : Nat) (gs : DGs) : DG := fun v ρ M Q => match v with
  | .tup ds => ds.length = n ∧ gs ds ρ M Q
  | .rt ds => ds.length = n ∧ gs ds ρ M Q
  | _ => False
theorem pdg_tup {es : List Expr} {k n : Nat} {gs : DGs} (hc : X.calm = true) (h : PDGs X F es gs) (hn : (assignEach es X.env).length = n := by rfl) (hst : (assignEach es X.env).findIdx? (·.1) = none := by rfl) : PDG X F (.Tuple es k pos) (dgTup n gs) :=
  pg_imp (pg_tup hc h hn hst) fun x σ H Q ⟨G, ρ, M, v, post, hr, sr, r, d, q⟩ => by
    cases v with
    | tup ds =>
      cases r with
      | tup ht rs => exact ⟨_, _, rfl, .inl (.inl (hr.sub _ _ ht)), by rw [rs.length]; exact d.1, G, ρ, M, _, post, hr, sr, rs, d.2, q⟩
    | rt ds =>
      cases r with
      | rt ht rs => exact ⟨_, _, rfl, SqT.mono hr.sub ht, by rw [rs.length]; exact d.1, G, ρ, M, _, post, hr, sr, rs, d.2, q⟩
    | _ => exact (show False from d).elim
def dAsg (da : DE) (g : DG) : DS := fun E ρ M => da ρ M fun v M1 => g v ρ M1 E.nx
theorem asg_imp {K : Fg} {g : DG} : ∀ D σ H, LS K F (dAsg da g) D σ H → tAsg (LE K F da) (LG K F g) D σ H := fun D σ H ⟨G, ρ, M, E, hr, sr, d, q⟩ =>
  ⟨G, ρ, M, _, hr, sr, d, fun G' H' M' x v s h r q' => ⟨G', ρ, M', v, E.nx, h, sr.mono s, r, q', (q.later s).nx⟩⟩
theorem pds_asg {tg : Expr} {g : DG} (he : PD X F e da) (hg : PDG X F tg g) (hs : swapsWithSole [tg] e pos.line X.env = pure false := by rfl) (hw : swappedStores [tg] e X.env = pure none := by rfl) (h1 : (assignEach [tg] X.env).map (·.2) = [assign tg X.env] := by rfl) :
    PDS X F (.Assign [tg] e pos) (dAsg da g) := ps_imp (ps_asg he hg hs hw h1) asg_imp
def dSet (i : Nat) (da : DE) : DS := fun E ρ M => da ρ M fun v M1 => E.nx (ρ.set i (some v)) M1
theorem pds_set (i : Nat) {x : Str} {pos' : Pos} (hN : X.N.Nodup) (he : PD X F e da) (hi : X.N[i]? = some x := by rfl) (hx : Loc X.env.scope x := by first | exact Or.inl rfl | exact Or.inr rfl) (hs : swapsWith e (some (.Name x pos')) pos.line X.env = pure false := by rfl)
    (hf : X.fn x = true ∨ X.env.scope.names.lookup x = some .local := by first | exact .inl rfl | exact .inr rfl | assumption) : PDS X F (.Assign [.Name x pos'] e pos) (dSet i da) :=
  ps_imp (ps_set hN hi hx he hs hf) fun D σ H ⟨G, ρ, M, E, hr, sr, d, q⟩ => ⟨G, ρ, M, _, hr, sr, d, fun G' H' M' x v s h r q' => q.nx G' _ H' _ M' s h ((sr.mono s).set r i) q'⟩
def dPar (i j : Nat) (dA : DA) : DS := fun E ρ M => dA ρ M fun vs M1 => match vs with
  | [v, w] => E.nx ((ρ.set i (some v)).set j (some w)) M1
  | _ => False
theorem pds_par (i j : Nat) {x y : Str} {a b : Expr} {px py pt : Pos} {kt k2 : Nat} {pt2 : Pos} (hc : X.calm = true) (hN : X.N.Nodup) (ha : PDA X F [a, b] dA) (hi : X.N[i]? = some x := by rfl) (hj : X.N[j]? = some y := by rfl) (hij : i ≠ j := by decide)
    (hx : X.env.scope.names.lookup x = some .local := by rfl) (hy : X.env.scope.names.lookup y = some .local := by rfl) (hw : swappedStores [.Tuple [.Name x px, .Name y py] kt pt] (.Tuple [a, b] k2 pt2) X.env = pure (some [x, y]) := by rfl)
    (hs : swapsWithSole [.Tuple [.Name x px, .Name y py] kt pt] (.Tuple [a, b] k2 pt2) pos.line X.env = pure false := by rfl) : PDS X F (.Assign [.Tuple [.Name x px, .Name y py] kt pt] (.Tuple [a, b] k2 pt2) pos) (dPar i j dA) :=
  ps_imp (ps_par hc hN hi hj hij hx hy ha hw hs) fun D σ H ⟨G, ρ, M, E, hr, sr, d, q⟩ => ⟨G, ρ, M, _, hr, sr, d, fun G' H' M' xs vs s h rs q' => by
    cases rs with
    | nil => exact (show False from q').elim
    | cons r1 t => cases t with
      | nil => exact (show False from q').elim
      | cons r2 t => cases t with
        | nil => exact ⟨_, _, rfl, q.nx G' _ H' _ M' s h (((sr.mono s).set r1 i).set r2 j) q'⟩
        | cons _ _ => exact (show False from q').elim⟩
/-! ### stores -/
abbrev DSet := D → D → D → Mem → (Mem → Prop) → Prop
def f_set : DSet := fun o i v M Q => match o with
  | .obj a => (match M a with
    | some (.lst ds) => (match i with
      | .int k => (match ixN ds.length k with
        | some j => Q (st M a (.lst (ds.set j v)))
        | none => False)
      | _ => False)
    | some (.dk kvs) => (match keyD i with
      | some k => kvs.length < sizeLine ∧ Q (st M a (.dk (dput kvs k v)))
      | none => False)
    | some (.dt kvs) => (match keyT i with
      | some k => kvs.length < sizeLine ∧ Q (st M a (.dt (dput kvs k v)))
      | none => False)
    | _ => False)
  | _ => False
def rSetD : V → V → V → Hp → (Hp → Prop) → Prop := fun o i v H Q => ∃ a H', o = .ref a ∧ DPut H a i v H' ∧ Q H'
theorem set_dict (hu : X.A.units + 64 < cLine) : PSet X rSetD := by
  intro pins s σ H o i v ov iv u Q I ro ri rv h
  obtain ⟨a, H', rfl, g, q⟩ := h
  cases ro
  exact d_setItem (by omega) I g ri rv fun s' I' => ⟨H', I', q⟩
def dgSub (do_ di : DE) : DG := fun v ρ M Q => do_ ρ M fun o M1 => di ρ M1 fun i M2 => f_set o i v M2 fun M3 => Q ρ M3
theorem set_or {t t' : TSet} (h : PSet X t) (h' : PSet X t') : PSet X (fun o i v H Q => t o i v H Q ∨ t' o i v H Q) := fun pins s σ H o i v ov iv u Q I ro ri rv q => q.elim (h pins s σ H o i v ov iv u Q I ro ri rv) (h' pins s σ H o i v ov iv u Q I ro ri rv)
theorem ref_set {K : Fg} {G H : Hp} {M : Mem} {x y z : V} {o i v : D} {post : Mem → Prop} {Q : Hp → Prop} (hr : HRel K F G H M) (ro : Rep K G x o) (ri : Rep K G y i) (rv : Rep K G z v) (d : f_set o i v M post)
    (k : ∀ H' M', HRel K F G H' M' → post M' → Q H') : rSetL x y z H Q ∨ rSetD x y z H Q := by
  unfold f_set at d
  cases o with
  | obj a =>
    cases ro
    dsimp only at d
    split at d
    · rename_i ds e
      split at d
      · rename_i n
        split at d
        · rename_i j ej
          obtain ⟨ys, h1, h2⟩ := (hr.cell a _ e).1
          cases ri
          exact .inl ⟨a, ys, n, j, rfl, rfl, h1, by rw [h2.length]; exact ej, k _ _ (hr.write (c' := .lst _) e ⟨_, upd_same, h2.set rv j⟩) d⟩
        · exact d.elim
      · exact d.elim
    · rename_i kvs e
      split at d
      · rename_i key ek
        obtain ⟨ys, h1, h2, h3⟩ := (hr.cell a _ e).1
        have el := congrArg List.length h2
        rw [List.length_map, List.length_map] at el
        rw [ri.key ek]
        refine .inr ⟨a, _, rfl, .k h1 (by rw [el]; exact d.1), ?_⟩
        rw [putK_dput]
        exact k _ _ (hr.write (c' := .dk _) e ⟨_, upd_same, dput_fst key v z h2, Reps.dput rv h2 h3⟩) d.2
      · exact d.elim
    · rename_i kvs e
      split at d
      · rename_i key ek
        obtain ⟨ys, h1, h2, h3⟩ := (hr.cell a _ e).1
        have el := congrArg List.length h2
        rw [List.length_map, List.length_map] at el
        obtain ⟨b, rfl, hb⟩ := ri.keyT ek
        refine .inr ⟨a, _, rfl, .t h1 (hr.sub _ _ hb) (by rw [el]; exact d.1), ?_⟩
        rw [putK_dput]
        exact k _ _ (hr.write (c' := .dt _) e ⟨_, upd_same, dput_fst key v z h2, Reps.dput rv h2 h3⟩) d.2
      · exact d.elim
    · exact d.elim
  | _ => exact d.elim
theorem pdg_sub {o i : Expr} {do_ di : DE} (hu : X.A.units + 64 < cLine) (ho : PD X F o do_) (hi : PD X F i di)
    (ha : ∀ v, assign (.Subscript o i pos) X.env v = (do
      let ov ← holding [v] (eval o X.env)
      let iv ← holding [v, ov] (eval i X.env)
      standAt pos
      holding [v, ov, iv] (setItem ov iv v)
      release [v, ov, iv] []) := by intro _; rfl) : PDG X F (.Subscript o i pos) (dgSub do_ di) :=
  pg_imp (pg_sub ho hi (set_or set_list (set_dict hu)) ha) fun x σ H Q ⟨G, ρ, M, v, post, hr, sr, r, d, q⟩ =>
    ⟨G, ρ, M, _, hr, sr, d, fun G1 H1 M1 y o s1 h1 ro q1 => ⟨G1, ρ, M1, _, h1, sr.mono s1, q1, fun G2 H2 M2 z i s2 h2 ri q2 =>
      ref_set h2 (ro.mono s2) ri ((r.mono s1).mono s2) q2 fun H' M' h3 q3 => q G2 σ H' ρ M' (s1.trans s2) h3 (sr.mono (s1.trans s2)) q3⟩⟩
/-- o[i] = e -/
theorem pds_setitem {o i : Expr} {do_ di : DE} {pos' : Pos} (hu : X.A.units + 64 < cLine) (ho : PD X F o do_) (hi : PD X F i di) (he : PD X F e da)
    (ha : ∀ v, assign (.Subscript o i pos') X.env v = (do
      let ov ← holding [v] (eval o X.env)
      let iv ← holding [v, ov] (eval i X.env)
      standAt pos'
      holding [v, ov, iv] (setItem ov iv v)
      release [v, ov, iv] []) := by intro _; rfl)
    (hs : swapsWithSole [.Subscript o i pos'] e pos.line X.env = pure false := by rfl) (hw : swappedStores [.Subscript o i pos'] e X.env = pure none := by rfl) (h1 : (assignEach [.Subscript o i pos'] X.env).map (·.2) = [assign (.Subscript o i pos') X.env] := by rfl) :
    PDS X F (.Assign [.Subscript o i pos'] e pos) (dAsg da (dgSub do_ di)) := pds_asg he (pdg_sub hu ho hi ha) hs hw h1
end

/-! ### exceptions wished for, defs called -/
structure DX where
  cls : Value
  fs : List (Str × D)
def XRep (K : Fg) (G H : Hp) (o : Option Addr) (fs : List (Str × D)) : Prop := (o = none ∧ fs = []) ∨ ∃ d ys, o = some d ∧ fs ≠ [] ∧ H d = some (.xd ys) ∧ ys.map (·.1) = fs.map (·.1) ∧ Reps K G (ys.map (·.2)) (fs.map (·.2))
abbrev DW := DX → Rho → Mem → Prop
def LW (K : Fg) (F : Fm) (pw : DW) : WX := fun c o σ H => ∃ G ρ M fs, HRel K F G H M ∧ SRel K G σ ρ ∧ XRep K G H o fs ∧ pw ⟨c, fs⟩ ρ M
abbrev TkD (X : Cx) (F : Fm) (pw : DW) : Prop := Takes X (LW X.K F pw)
theorem TkD.up {X : Cx} {F F' : Fm} {pw : DW} (t : TkD X F pw) (l : Fm.Le F F') : TkD X F' pw := Takes.imp t fun c d σ H ⟨G, ρ, M, fs, hr, sr, xr, p⟩ => ⟨G, ρ, M, fs, hr.down l, sr, xr, p⟩
/-- nothing is let out -/
def dw0 : DW := fun _ _ _ => False
theorem tk0 {X : Cx} {F : Fm} : TkD X F dw0 := Takes.imp takes0 fun c d σ H ⟨G, ρ, M, fs, hr, sr, xr, p⟩ => p
abbrev DSp := List D → Mem → (D → Mem → Prop) → (DX → Mem → Prop) → Prop
def QX (K : Fg) (F : Fm) (G : Hp) (pox : DX → Mem → Prop) (E : XK) : Prop := ∀ G' H' M' c o fs, Same G G' → HRel K F G' H' M' → XRep K G' H' o fs → pox ⟨c, fs⟩ M' → E c o H'
def LSp (K : Fg) (sp : DSp) : Sp := fun vs H Q E => ∃ R G ds M post pox, HRel K ⟨G, R⟩ G H M ∧ Reps K G vs ds ∧ sp ds M post pox ∧ QE K ⟨G, R⟩ G post Q ∧ QX K ⟨G, R⟩ G pox E
/-- a def that keeps its promise, as a caller sees it -/
structure Cal (P : Program) (w : World) (K : Fg) (mg : Str → Option Value) (base : Heap) (k : Nat) (x : Str) (sp : DSp) : Prop where
  ex : ∃ (f : Addr) (fd : FuncData) (ps : List Str), FnOk P w K mg base (L2.CX P w) k f fd ps (LSp K sp) ∧ mg x = some (.ref f) ∧ PySem.W.keepIn K (.ref f) = true ∧ Binds K fd ps []
theorem Cal.up {P : Program} {w : World} {K : Fg} {mg : Str → Option Value} {base : Heap} {j k : Nat} {x : Str} {sp : DSp} (c : Cal P w K mg base j x sp) (h : j ≤ k) : Cal P w K mg base k x sp :=
  let ⟨f, fd, ps, h1, h2, h3, h4⟩ := c.ex; ⟨f, fd, ps, h1.mono h, h2, h3, h4⟩
def dCall (sp : DSp) (pw : DW) (dA : DA) : DE := fun ρ M Q => dA ρ M fun vs M1 => sp vs M1 Q fun x M2 => pw x ρ M2
theorem HRel.at {K : Fg} {F : Fm} {G H : Hp} {M : Mem} (h : HRel K F G H M) : HRel K ⟨G, F.R⟩ G H M := ⟨Same.refl _, h.sub, h.rs, h.rgt, h.cell⟩
theorem HRel.back {K : Fg} {F : Fm} {G G' H H' : Hp} {M M' : Mem} (h0 : HRel K F G H M) (h : HRel K ⟨G, F.R⟩ G' H' M') : HRel K F G' H' M' := ⟨h0.base.trans h.base, h.sub, h.rs, h.rgt, h.cell⟩
section
variable {X : Cx} {F : Fm} {e : Expr} {es : List Expr} {dA : DA} {k : Nat} {x : Str} {sp : DSp} {pw : DW} {p pos : Pos}
theorem pd_call (c : Cal X.prog X.w X.K X.mg X.base k x sp) (hr : Room k X.A) (tk : TkD X F pw) (ha : PDA X F (e :: es) dA) (hg : Gl X x := by rfl) (hdb : (x == ("__debug__" : Str)) = false := by decide)
    (he : starEach (e :: es) X.env = (false, eval e X.env) :: starEach es X.env := by rfl) (hpl : (backTo pos (starEach es X.env)).any (·.1) = false := by rfl) : PD X F (.Call (.Name x p) (e :: es) [] pos) (dCall sp pw dA) := by
  obtain ⟨f, fd, ps, h1, h2, h3, h4⟩ := c.ex
  refine pe_imp (pe_callS (E := WE (LW X.K F pw)) h1 hr hg h2 h3 h4 (fun σ => passAt tk σ) ha hdb he hpl) fun σ H Q ⟨G, ρ, M, post, hr, sr, d, k⟩ => ?_
  exact ⟨G, ρ, M, _, hr, sr, d, fun G1 H1 M1 xs vs s1 h1 rs q1 => ⟨F.R, G1, vs, M1, post, _, h1.at, rs, q1, fun G2 H2 M2 x v s2 h2 r q2 => k G2 H2 M2 x v (s1.trans s2) (h1.back h2) r q2,
    fun G2 H2 M2 c o fs s2 h2 xr q2 => ⟨G2, ρ, M2, fs, h1.back h2, sr.mono (s1.trans s2), xr, q2⟩⟩⟩
/-- f() that raises nothing -/
def dCall0 (sp : DSp) : DE := fun _ M Q => sp [] M Q fun _ _ => False
theorem pd_call0 (c : Cal X.prog X.w X.K X.mg X.base k x sp) (hr : Room k X.A) (hg : Gl X x := by rfl) (hdb : (x == ("__debug__" : Str)) = false := by decide) : PD X F (.Call (.Name x p) [] [] pos) (dCall0 sp) := by
  obtain ⟨f, fd, ps, h1, h2, h3, h4⟩ := c.ex
  refine pe_imp (pe_call0 (E := E0) h1 hr hg h2 h3 h4 .nil passL hdb) fun σ H Q ⟨G, ρ, M, post, hr, sr, d, k⟩ => ?_
  exact ⟨F.R, G, [], M, post, _, hr.at, .nil, d, fun G2 H2 M2 x v s2 h2 r q2 => k G2 H2 M2 x v s2 (hr.back h2) r q2, fun G2 H2 M2 c o fs s2 h2 xr q2 => q2⟩
end
/-- the slots at the entry -/
def dstart (n : Nat) (ds : List D) : Rho := ds.map some ++ List.replicate (n - ds.length) none
theorem start_rel {K : Fg} {G : Hp} {N : List Str} {vs : List V} {ds : List D} (r : Reps K G vs ds) : SRel K G (L2.start N vs) (dstart N.length ds) := by
  have hl := r.length
  refine ⟨by unfold L2.start dstart; rw [List.length_append, List.length_append, List.length_map, List.length_map, List.length_replicate, List.length_replicate, hl], fun i d e => ?_⟩
  unfold dstart at e
  by_cases hi : i < ds.length
  · rw [List.getElem?_append_left (by rw [List.length_map]; exact hi), List.getElem?_map] at e
    cases q : ds[i]? with
    | none => rw [q] at e; cases e
    | some d' =>
      rw [q] at e
      have e2 : d' = d := Option.some.inj (Option.some.inj e)
      subst e2
      obtain ⟨x, e1, rx⟩ := r.get q
      refine ⟨x, ?_, rx⟩
      unfold L2.start
      rw [List.getElem?_append_left (by rw [List.length_map, hl]; exact hi), List.getElem?_map, e1]
      rfl
  · rw [List.getElem?_append_right (by rw [List.length_map]; omega), List.getElem?_replicate] at e
    split at e <;> cases e
section
variable {P : Program} {w : World} {K : Fg} {mg : Str → Option Value} {base : Heap}
/-- the context of a def's body -/
abbrev bodyX (P : Program) (w : World) (K : Fg) (mg : Str → Option Value) (base : Heap) (N : List Str) (qual : Str) (stm : Stmt) (f : Addr) (cdv : Value) (A : Around) (outer : List Env) (s : Shared) (H : Hp) (E : XK) : Cx :=
  cxOf (L2.CX P w) P w K mg base N qual (defScope stm) f cdv A outer s H E
theorem fn_d {x qual : Str} {stm : Stmt} {f : Addr} {fd : FuncData} {N ps : List Str} {k : Nat} {sp : DSp} (Fn : Fun K x qual stm f fd) (S : FnScope N ps (defScope stm)) (len : ∀ ds M Q E, sp ds M Q E → ds.length = ps.length) (d : DW → DS)
    (hd : ∀ (cdv : Value) (A : Around) (outer : List Env) (s : Shared) (H : Hp) (E : XK) (F : Fm) (pw : DW), Room k (A.deeper (envOfC qual (defScope stm) s.heap.objs.size f cdv)) → TkD (bodyX P w K mg base N qual stm f cdv A outer s H E) F pw →
      PassesOwn (model P w) (bodyX P w K mg base N qual stm f cdv A outer s H E).A (bodyX P w K mg base N qual stm f cdv A outer s H E).env (bodyX P w K mg base N qual stm f cdv A outer s H E).xe →
      PDSs (bodyX P w K mg base N qual stm f cdv A outer s H E) F (defBody stm) (d pw))
    (hs : ∀ ds M post pox, sp ds M post pox → d (fun x _ M => pox x M) { nx := fun _ M => post .non M, rt := post } (dstart N.length ds) M) : FnOk P w K mg base (L2.CX P w) (k + 1) f fd ps (LSp K sp) := by
  refine Fn.okX S (fun vs H Q E h => ?_) (fun cdv A outer s H vs Q E hr h => ?_)
  · obtain ⟨R, G, ds, M, post, pox, _, rs, h, _⟩ := h
    rw [rs.length]; exact len _ _ _ _ h
  · obtain ⟨R, G, ds, M, post, pox, h0, rs, h, kq, kx⟩ := h
    have tk : TkD (bodyX P w K mg base N qual stm f cdv A outer s H E) ⟨G, R⟩ (fun x _ M => pox x M) :=
      Takes.imp (takes_of (E := E) rfl rfl rfl rfl) fun c o σ H' ⟨G', ρ, M', fs, h1, sr, xr, p⟩ => kx G' H' M' c o fs h1.base h1 xr p
    refine ⟨_, hd cdv A outer s H E ⟨G, R⟩ (fun x _ M => pox x M) hr tk (passes_of rfl), ?_⟩
    refine ⟨G, dstart N.length ds, M, { nx := fun _ M => post .non M, rt := post }, h0, start_rel rs, hs ds M post pox h, ⟨fun G' σ' H' ρ' M' s h sr q => kq.later s |>.here h .non q, kq, fun _ _ _ _ _ _ _ _ z => z.elim, fun _ _ _ _ _ _ _ _ z => z.elim⟩⟩
end
end Dl

/-! Dl7: what is walked, for, while, comprehensions, raise. -/
namespace Dl
open L2 PySem PyProof.Rows PySem.Spec

/-- what is walked: its items, what stands still meanwhile -/
abbrev DI := Rho → Mem → (List D → (Mem → Prop) → Mem → Prop) → Prop
structure IterOk (K : Fg) (G : Hp) (J : It) (items : List D) (stay : Mem → Prop) : Prop where
  ex : ∃ (Gp : Hp → Prop) (Y : Nat → Hp → V → Hp → Prop), Walk J items.length Gp Y ∧ (∀ F G' H' M', Same G G' → HRel K F G' H' M' → stay M' → Gp H') ∧
    ∀ i F G' H' M' x H'', i < items.length → Same G G' → HRel K F G' H' M' → stay M' → Y i H' x H'' → ∃ G'' d, Same G' G'' ∧ HRel K F G'' H'' M' ∧ items[i]? = some d ∧ Rep K G'' x d
def LI (K : Fg) (F : Fm) (d : DI) : TI := fun σ H R => ∃ G ρ M post, HRel K F G H M ∧ SRel K G σ ρ ∧ d ρ M post ∧ ∀ G' H' M' items stay J, Same G G' → HRel K F G' H' M' → IterOk K G' J items stay → post items stay M' → R J H'
abbrev PDI (X : Cx) (F : Fm) (tg e : Expr) (d : DI) : Prop := PI X tg e (LI X.K F d)
theorem pi_imp {X : Cx} {tg e : Expr} {t t' : TI} (h : PI X tg e t) (i : ∀ σ H Q, t' σ H Q → t σ H Q) : PI X tg e t' := ⟨fun pins s σ H Q I q => h.run pins s σ H Q I (i σ H Q q)⟩
section
variable {X : Cx} {F : Fm} {tg e a b : Expr} {da : DE} {dA : DA} {pos p : Pos}
/-- a list -/
def diList (da : DE) : DI := fun ρ M Q => da ρ M fun x M1 => match x with
  | .lst ds => Q ds (fun _ => True) M1
  | .ro ds => Q ds (fun _ => True) M1
  | .obj a => (match M1 a with
    | some (.lst ds) => Q ds (fun M => M a = some (.lst ds)) M1
    | _ => False)
  | _ => False
theorem iter_list {K : Fg} {G : Hp} {a : Addr} {xs : List V} {ds : List D} (h : ∀ G' H', Same G G' → Same G' H' → SqL K H' a xs) (rs : Reps K G xs ds) : IterOk K G (Itl K a) ds (fun _ => True) := by
  refine ⟨fun H => SqL K H a xs, YAt xs, by rw [← rs.length]; exact walk_list, fun F G' H' M' s hr _ => h G' H' s hr.sub, fun i F G' H' M' x H'' hi s hr _ y => ?_⟩
  obtain ⟨rfl, y⟩ := y
  obtain ⟨d, e, r⟩ := rs.get' y
  exact ⟨G', d, Same.refl _, hr, e, r.mono s⟩
theorem pdi_list (ha : PD X F e da) : PDI X F tg e (diList da) := pi_imp (pi_list ha) fun σ H R ⟨G, ρ, M, post, hr, sr, d, k⟩ => ⟨G, ρ, M, _, hr, sr, d, fun G1 H1 M1 x v s1 h1 rx q1 => by
  cases v with
  | lst ds =>
    cases rx with
    | lst h r => exact ⟨_, rfl, ⟨_, .inl (.inl (h1.sub _ _ h))⟩, k _ _ _ _ _ _ s1 h1 (iter_list (fun G' H' s s' => .inl (.inl (s' _ _ (s _ _ h)))) r) q1⟩
  | ro ds =>
    cases rx with
    | ro h r => exact ⟨_, rfl, ⟨_, Same.seq h1.sub h⟩, k _ _ _ _ _ _ s1 h1 (iter_list (fun G' H' s s' => Same.seq s' (Same.seq s h)) r) q1⟩
  | obj a =>
    cases rx
    have q1 : (match M1 a with
      | some (.lst ds) => post ds (fun M => M a = some (.lst ds)) M1
      | _ => False) := q1
    split at q1
    · rename_i ds ea
      obtain ⟨xs, e1, e2⟩ := (h1.cell a _ ea).1
      refine ⟨a, rfl, ⟨_, .inl (.inl e1)⟩, k _ _ _ ds (fun M => M a = some (.lst ds)) _ s1 h1 ?_ q1⟩
      refine ⟨fun H => ∃ ys, H a = some (.lst ys) ∧ ys.length = ds.length, fun i H x H' => H' = H ∧ ∃ ys, H a = some (.lst ys) ∧ ys[i]? = some x, ⟨fun i H hi ⟨ys, g1, g2⟩ => ⟨ys, ys[i]'(by omega), .inl (.inl g1), by simp [g2, hi]⟩, fun H ⟨ys, g1, g2⟩ => ⟨ys, .inl (.inl g1), Nat.le_of_eq g2⟩,
        fun i H x H' hi ⟨ys, g1, g2⟩ y => ⟨y.1, ys, g1, y.2 ys (.inl (.inl g1))⟩⟩, fun F G' H' M' s hr st => ?_, fun i F G' H' M' x H'' hi s hr st y => ?_⟩
      · obtain ⟨ys, g1, g2⟩ := (hr.cell a _ st).1
        exact ⟨ys, g1, g2.length⟩
      · obtain ⟨rfl, ys, y1, y2⟩ := y
        obtain ⟨zs, g1, g2⟩ := (hr.cell a _ st).1
        rw [y1] at g1
        have ez : ys = zs := by injection g1 with g; injection g
        subst ez
        obtain ⟨d, e, r⟩ := g2.get' y2
        exact ⟨G', d, Same.refl _, hr, e, r⟩
    · exact q1.elim
  | _ => exact (show False from q1).elim⟩
/-- a tuple -/
def diTup (da : DE) : DI := fun ρ M Q => da ρ M fun x M1 => match x with
  | .tup ds => Q ds (fun _ => True) M1
  | .rt ds => Q ds (fun _ => True) M1
  | _ => False
theorem pdi_tup (ha : PD X F e da) : PDI X F tg e (diTup da) := pi_imp (pi_tup ha) fun σ H R ⟨G, ρ, M, post, hr, sr, d, k⟩ => ⟨G, ρ, M, _, hr, sr, d, fun G1 H1 M1 x v s1 h1 rx q1 => by
  cases v with
  | tup ds =>
    cases rx with
    | tup h r =>
      rename_i xs
      refine ⟨_, rfl, ⟨_, .inl (.inl (h1.sub _ _ h))⟩, k _ _ _ ds (fun _ => True) _ s1 h1 ?_ q1⟩
      refine ⟨fun H => SqT X.K H _ xs, YAt xs, by rw [← r.length]; exact walk_tup, fun F G' H' M' s hr _ => .inl (.inl (hr.sub _ _ (s _ _ h))), fun i F G' H' M' x H'' hi s hr _ y => ?_⟩
      obtain ⟨rfl, y⟩ := y
      obtain ⟨d, e, r⟩ := r.get' y
      exact ⟨G', d, Same.refl _, hr, e, r.mono s⟩
  | rt ds =>
    cases rx with
    | rt h r =>
      rename_i xs
      refine ⟨_, rfl, ⟨_, SqT.mono h1.sub h⟩, k _ _ _ ds (fun _ => True) _ s1 h1 ?_ q1⟩
      refine ⟨fun H => SqT X.K H _ xs, YAt xs, by rw [← r.length]; exact walk_tup, fun F G' H' M' s hr _ => SqT.mono hr.sub (SqT.mono s h), fun i F G' H' M' x H'' hi s hr _ y => ?_⟩
      obtain ⟨rfl, y⟩ := y
      obtain ⟨d, e, r⟩ := r.get' y
      exact ⟨G', d, Same.refl _, hr, e, r.mono s⟩
  | _ => exact (show False from q1).elim⟩
/-- the signs of a text -/
def signsD (z : Str) : List D := z.cps.toList.map fun c => .str ⟨#[c]⟩
def diStr (da : DE) : DI := fun ρ M Q => da ρ M fun x M1 => match x with
  | .str z => Q (signsD z) (fun _ => True) M1
  | _ => False
theorem pdi_str (ha : PD X F e da) : PDI X F tg e (diStr da) := pi_imp (pi_str ha) fun σ H R ⟨G, ρ, M, post, hr, sr, d, k⟩ => ⟨G, ρ, M, _, hr, sr, d, fun G1 H1 M1 x v s1 h1 rx q1 => by
  cases v with
  | str z =>
    cases rx
    refine ⟨z, rfl, k _ _ _ (signsD z) (fun _ => True) _ s1 h1 ?_ q1⟩
    have hl : (signsD z).length = z.cps.size := by unfold signsD; rw [List.length_map, Array.length_toList]
    refine ⟨fun _ => True, _, by rw [hl]; exact walk_str, fun _ _ _ _ _ _ _ => trivial, fun i F G' H' M' x H'' hi s hr _ y => ?_⟩
    obtain ⟨rfl, c, hc, rfl⟩ := y
    refine ⟨G', _, Same.refl _, hr, ?_, .str⟩
    unfold signsD
    rw [List.getElem?_map, Array.getElem?_toList, hc]
    rfl
  | _ => exact (show False from q1).elim⟩
/-- range(n), range(a, b) -/
def rangeD (lo : Int) (n : Nat) : List D := (List.range n).map fun i => .int (lo + (i : Nat))
theorem iter_range {K : Fg} {G : Hp} {lo : Int} {n : Nat} : IterOk K G (Itr lo n) (rangeD lo n) (fun _ => True) := by
  have hl : (rangeD lo n).length = n := by unfold rangeD; rw [List.length_map, List.length_range]
  refine ⟨fun _ => True, YFn fun i => .int (lo + i), by rw [hl]; exact walk_range, fun _ _ _ _ _ _ _ => trivial, fun i F G' H' M' x H'' hi s hr _ y => ?_⟩
  obtain ⟨rfl, rfl⟩ := y
  rw [hl] at hi
  refine ⟨G', _, Same.refl _, hr, ?_, .int⟩
  unfold rangeD
  rw [List.getElem?_map, List.getElem?_range hi]
  rfl
def diRng1 (dA : DA) : DI := fun ρ M Q => dA ρ M fun vs M1 => match vs with
  | [.int j] => (-(2 ^ 62) ≤ j ∧ j < 2 ^ 62) ∧ Q (rangeD 0 j.toNat) (fun _ => True) M1
  | _ => False
def diRng2 (dA : DA) : DI := fun ρ M Q => dA ρ M fun vs M1 => match vs with
  | [.int i, .int j] => (-(2 ^ 62) ≤ i ∧ i < 2 ^ 62 ∧ -(2 ^ 62) ≤ j ∧ j < 2 ^ 62) ∧ Q (rangeD i (j - i).toNat) (fun _ => True) M1
  | _ => False
theorem pdi_range1 (hm : X.mg "range" = none) (ha : PDA X F [a] dA) (hg : Gl X "range" := by rfl) (hs : starEach [a] X.env = [(false, eval a X.env)] := by rfl) : PDI X F tg (.Call (.Name "range" p) [a] [] pos) (diRng1 dA) :=
  pi_imp (pi_range1 hg hm ha hs) fun σ H R ⟨G, ρ, M, post, hr, sr, d, k⟩ => ⟨G, ρ, M, _, hr, sr, d, fun G1 H1 M1 xs vs s1 h1 rs q1 => by
    cases rs with
    | nil => exact (show False from q1).elim
    | cons r t =>
      cases t with
      | cons _ _ => cases r <;> exact (show False from q1).elim
      | nil => cases r <;> first
        | exact (show False from q1).elim
        | exact ⟨_, rfl, q1.1.1, q1.1.2, k _ _ _ _ _ _ s1 h1 iter_range q1.2⟩⟩
theorem pdi_range2 (hm : X.mg "range" = none) (ha : PDA X F [a, b] dA) (hg : Gl X "range" := by rfl) (hs : starEach [a, b] X.env = [(false, eval a X.env), (false, eval b X.env)] := by rfl) (hs2 : starEach [b] X.env = [(false, eval b X.env)] := by rfl) :
    PDI X F tg (.Call (.Name "range" p) [a, b] [] pos) (diRng2 dA) :=
  pi_imp (pi_range2 hg hm ha hs hs2) fun σ H R ⟨G, ρ, M, post, hr, sr, d, k⟩ => ⟨G, ρ, M, _, hr, sr, d, fun G1 H1 M1 xs vs s1 h1 rs q1 => by
    cases rs with
    | nil => exact (show False from q1).elim
    | cons r t =>
      cases t with
      | nil => cases r <;> exact (show False from q1).elim
      | cons r' t => cases t with
        | cons _ _ => cases r <;> cases r' <;> exact (show False from q1).elim
        | nil => cases r <;> first
          | exact (show False from q1).elim
          | (cases r' <;> first
            | exact (show False from q1).elim
            | exact ⟨_, _, rfl, q1.1, k _ _ _ _ _ _ s1 h1 iter_range q1.2⟩)⟩

/-! ### for -/
def dForL (g : DG) (db : DS) (E : DEnds) (stay : Mem → Prop) : List D → Rho → Mem → Prop
  | [] => fun ρ M => stay M ∧ E.nx ρ M
  | d :: ds => fun ρ M => stay M ∧ g d ρ M fun ρ1 M1 => db { nx := dForL g db E stay ds, rt := E.rt, ct := dForL g db E stay ds, bk := E.nx } ρ1 M1
theorem dForL_stay {g : DG} {db : DS} {E : DEnds} {stay : Mem → Prop} {ds : List D} {ρ : Rho} {M : Mem} (h : dForL g db E stay ds ρ M) : stay M := by
  cases ds with
  | nil => exact h.1
  | cons d ds => exact h.1
def dFor (di : DI) (g : DG) (db : DS) : DS := fun E ρ M => di ρ M fun items stay M1 => dForL g db E stay items ρ M1
theorem pds_for {iter : Expr} {body : List Stmt} {di : DI} {g : DG} {db : DS} (hp : PassesOwn (model X.prog X.w) X.A X.env X.xe) (hc : X.calm = true) (hi : PDI X F tg iter di) (hg : PDG X F tg g) (hb : PDSs X F body db)
    (hs : ∀ x, foldedSetIterable iter X.env x = pure x := by intro _; rfl) : PDS X F (.For tg iter body [] pos) (dFor di g db) :=
  ps_imp (ps_for hp hc hi hg hb hs) fun Dn σ H ⟨G, ρ, M, E, hr, sr, d, q⟩ => ⟨G, ρ, M, _, hr, sr, d, fun G1 H1 M1 items stay J s1 h1 io q1 => by
    obtain ⟨Gp, Y, wk, w1, w2⟩ := io.ex
    refine for_it wk (fun i σ' H' => ∃ G' ρ' M', Same G1 G' ∧ HRel X.K F G' H' M' ∧ SRel X.K G' σ' ρ' ∧ dForL g db E stay (items.drop i) ρ' M') ⟨G1, ρ, M1, Same.refl _, h1, sr.mono s1, q1⟩ ?_ ?_ ?_
    · rintro i σ' H' hi ⟨G', ρ', M', s, hr', sr', h⟩
      exact w1 F G' H' M' s hr' (dForL_stay h)
    · rintro i x σ' H' H'' hi ⟨G', ρ', M', s, hr', sr', h⟩ y
      obtain ⟨G2, dd, s2, hr2, e, rx⟩ := w2 i F G' H' M' x H'' hi s hr' (dForL_stay h) y
      have ed : items.drop i = dd :: items.drop (i + 1) := by
        rw [List.drop_eq_getElem_cons hi]
        rw [List.getElem?_eq_getElem hi] at e
        rw [Option.some.inj e]
      rw [ed] at h
      refine ⟨G2, ρ', M', dd, _, hr2, sr'.mono s2, rx, h.2, fun G3 σ3 H3 ρ3 M3 s3 hr3 sr3 q3 => ⟨G3, ρ3, M3, _, hr3, sr3, q3, ⟨?_, q.rt.later (s1.trans (s.trans (s2.trans s3))), ?_, ?_⟩⟩⟩
      · intro G4 σ4 H4 ρ4 M4 s4 hr4 sr4 q4
        exact ⟨G4, ρ4, M4, s.trans (s2.trans (s3.trans s4)), hr4, sr4, q4⟩
      · intro G4 σ4 H4 ρ4 M4 s4 hr4 sr4 q4
        exact q.nx G4 σ4 H4 ρ4 M4 (s1.trans (s.trans (s2.trans (s3.trans s4)))) hr4 sr4 q4
      · intro G4 σ4 H4 ρ4 M4 s4 hr4 sr4 q4
        exact ⟨G4, ρ4, M4, s.trans (s2.trans (s3.trans s4)), hr4, sr4, q4⟩
    · rintro σ' H' ⟨G', ρ', M', s, hr', sr', h⟩
      rw [List.drop_length] at h
      exact q.nx G' σ' H' ρ' M' (s1.trans s) hr' sr' h.2⟩

/-! ### while -/
def dWhileN (t : DT) (db : DS) (E : DEnds) : Nat → Rho → Mem → Prop
  | 0 => fun _ _ => False
  | n + 1 => fun ρ M => t ρ M fun b M1 => if b = true then db { nx := dWhileN t db E n, rt := E.rt, ct := dWhileN t db E n, bk := E.nx } ρ M1 else E.nx ρ M1
def dWhile (t : DT) (db : DS) : DS := fun E ρ M => ∃ n, dWhileN t db E n ρ M
theorem pds_while {c : Expr} {body : List Stmt} {dt : DT} {db : DS} (hp : PassesOwn (model X.prog X.w) X.A X.env X.xe) (hc : PDT X F c dt) (hb : PDSs X F body db) : PDS X F (.While c body [] pos) (dWhile dt db) :=
  ps_imp (ps_while hp hc hb) fun Dn σ H ⟨G, ρ, M, E, hr, sr, ⟨n, d⟩, q⟩ => by
    refine ⟨fun m σ' H' => ∃ G' ρ' M', Same G G' ∧ HRel X.K F G' H' M' ∧ SRel X.K G' σ' ρ' ∧ dWhileN dt db E m ρ' M', ⟨n, G, ρ, M, Same.refl _, hr, sr, d⟩, ?_⟩
    rintro m σ' H' ⟨G', ρ', M', s, hr', sr', h⟩
    cases m with
    | zero => exact h.elim
    | succ m =>
      refine ⟨G', ρ', M', _, hr', sr', h, fun G2 H2 M2 b s2 hr2 q2 => ?_⟩
      cases b with
      | false => exact q.nx G2 σ' H2 ρ' M2 (s.trans s2) hr2 (sr'.mono s2) q2
      | true =>
        refine ⟨fun σ4 H4 => ∃ G4 ρ4 M4, Same G G4 ∧ HRel X.K F G4 H4 M4 ∧ SRel X.K G4 σ4 ρ4 ∧ dWhileN dt db E m ρ4 M4, fun σ4 H4 h4 => ⟨m, Nat.lt_succ_self m, h4⟩, ?_⟩
        refine ⟨G2, ρ', M2, _, hr2, sr'.mono s2, q2, ⟨fun G4 σ4 H4 ρ4 M4 s4 hr4 sr4 q4 => ⟨G4, ρ4, M4, s.trans (s2.trans s4), hr4, sr4, q4⟩, q.rt.later (s.trans s2), fun G4 σ4 H4 ρ4 M4 s4 hr4 sr4 q4 => q.nx G4 σ4 H4 ρ4 M4 (s.trans (s2.trans s4)) hr4 sr4 q4, fun G4 σ4 H4 ρ4 M4 s4 hr4 sr4 q4 => ⟨G4, ρ4, M4, s.trans (s2.trans s4), hr4, sr4, q4⟩⟩⟩

/-! ### comprehensions -/
abbrev PDTs (X : Cx) (F : Fm) (ifs : List Expr) (d : DT) : Prop := PTs X ifs (LT X.K F d)
def dYes : DT := fun _ M Q => Q true M
theorem pdts_nil : PDTs X F [] dYes := ⟨fun pins s σ H Q I ⟨G, ρ, M, post, hr, sr, d, k⟩ => pts_nil.run pins s σ H Q I (k G H M true (Same.refl _) hr d)⟩
theorem pdts_one {c : Expr} {dt : DT} (h : PDT X F c dt) : PDTs X F [c] dt := pts_one h
/-- the slots of the block's own names forgotten -/
def dwipe (ρ : Rho) : List Nat → Rho
  | [] => ρ
  | v :: vs => (dwipe ρ vs).set v none
theorem wipe_rel {K : Fg} {G : Hp} {σ : L2.St} {ρ : Rho} (h : SRel K G σ ρ) : ∀ vs : List Nat, SRel K G (wipe σ vs) (dwipe ρ vs)
  | [] => h
  | v :: vs => (wipe_rel h vs).setN v none
def dLcL (g : DG) (dt : DT) (de : DE) (vs : List Nat) (stay : Mem → Prop) (ρ : Rho) (Q : List D → Mem → Prop) : List D → List D → Mem → Prop
  | [], acc, M => stay M ∧ Q acc M
  | d :: ds, acc, M => stay M ∧ g d (dwipe ρ vs) M fun ρ1 M1 => dt ρ1 M1 fun b M2 => if b = true then de ρ1 M2 fun y M3 => acc.length < sizeLine ∧ dLcL g dt de vs stay ρ Q ds (acc ++ [y]) M3 else dLcL g dt de vs stay ρ Q ds acc M2
theorem dLcL_stay {g : DG} {dt : DT} {de : DE} {vs : List Nat} {stay : Mem → Prop} {ρ : Rho} {Q : List D → Mem → Prop} {ds acc : List D} {M : Mem} (h : dLcL g dt de vs stay ρ Q ds acc M) : stay M := by
  cases ds with
  | nil => exact h.1
  | cons d ds => exact h.1
/-- the new list: one that never changes, or a cell -/
def dLc (fresh : Bool) (di : DI) (g : DG) (dt : DT) (de : DE) (vs : List Nat) : DE := fun ρ M Q => di ρ M fun items stay M1 => dLcL g dt de vs stay ρ (fun acc M2 => if fresh then ∀ p, M2 p = none → Q (.obj p) (Dl.st M2 p (.lst acc)) else Q (.lst acc) M2) items [] M1
end
end Dl

/-! Dl8: comprehensions, raise, try .. except .. as. -/
namespace Dl
open L2 PySem PyProof.Rows PySem.Spec

theorem wipe_get (σ : L2.St) : ∀ (vs : List Nat) (j : Nat), (wipe σ vs)[j]? = if j ∈ vs ∧ j < σ.length then some none else σ[j]?
  | [], j => by simp [wipe]
  | v :: vs, j => by
    unfold wipe
    by_cases hj : v = j
    · subst hj
      by_cases hl : v < σ.length
      · rw [List.getElem?_set_self (by rw [wipe_length]; exact hl), if_pos ⟨List.mem_cons_self, hl⟩]
      · rw [List.getElem?_eq_none (by rw [List.length_set, wipe_length]; omega), if_neg (fun z => hl z.2), List.getElem?_eq_none (by omega)]
    · rw [List.getElem?_set_ne hj, wipe_get σ vs j]
      have e : (j ∈ v :: vs) = (j ∈ vs) := by
        refine propext ⟨fun h => ?_, List.mem_cons_of_mem _⟩
        rcases List.mem_cons.mp h with h | h
        · exact absurd h.symm hj
        · exact h
      by_cases h : j ∈ vs ∧ j < σ.length
      · rw [if_pos h, if_pos ⟨e ▸ h.1, h.2⟩]
      · rw [if_neg h, if_neg fun z => h ⟨e ▸ z.1, z.2⟩]
/-- but for the slots vs all is as it was -/
def OnlyIn (vs : List Nat) (σ σ' : L2.St) : Prop := σ'.length = σ.length ∧ ∀ j : Nat, j ∉ vs → σ'[j]? = σ[j]?
theorem OnlyIn.refl (vs : List Nat) (σ : L2.St) : OnlyIn vs σ σ := ⟨rfl, fun _ _ => rfl⟩
theorem OnlyIn.trans {vs : List Nat} {σ σ1 σ2 : L2.St} (a : OnlyIn vs σ σ1) (b : OnlyIn vs σ1 σ2) : OnlyIn vs σ σ2 := ⟨b.1.trans a.1, fun j h => (b.2 j h).trans (a.2 j h)⟩
theorem OnlyIn.wipe {vs : List Nat} {σ σ' : L2.St} (a : OnlyIn vs σ σ') : wipe σ' vs = wipe σ vs := by
  refine List.ext_getElem? fun j => ?_
  rw [wipe_get, wipe_get, a.1]
  by_cases h : j ∈ vs ∧ j < σ.length
  · rw [if_pos h, if_pos h]
  · rw [if_neg h, if_neg h]
    by_cases h2 : j ∈ vs
    · have h3 : ¬ j < σ.length := fun z => h ⟨h2, z⟩
      rw [List.getElem?_eq_none (by rw [a.1]; omega), List.getElem?_eq_none (by omega)]
    · exact a.2 j h2
/-- targets of a comprehension: they store in the slots vs alone -/
def LGv (K : Fg) (F : Fm) (vs : List Nat) (g : DG) : TG := fun x σ H Q => ∃ G ρ M v post, HRel K F G H M ∧ SRel K G σ ρ ∧ Rep K G x v ∧ g v ρ M post ∧ ∀ G' σ' H' ρ' M', Same G G' → HRel K F G' H' M' → SRel K G' σ' ρ' → OnlyIn vs σ σ' → post ρ' M' → Q σ' H'
def LGsv (K : Fg) (F : Fm) (us : List Nat) (g : DGs) : TGs := fun xs σ H Q => ∃ G ρ M vs post, HRel K F G H M ∧ SRel K G σ ρ ∧ Reps K G xs vs ∧ g vs ρ M post ∧ ∀ G' σ' H' ρ' M', Same G G' → HRel K F G' H' M' → SRel K G' σ' ρ' → OnlyIn us σ σ' → post ρ' M' → Q σ' H'
abbrev PDGv (X : Cx) (F : Fm) (vs : List Nat) (tg : Expr) (g : DG) : Prop := PG X tg (LGv X.K F vs g)
abbrev PDGsv (X : Cx) (F : Fm) (vs : List Nat) (tgs : List Expr) (g : DGs) : Prop := PGs X tgs (LGsv X.K F vs g)
section
variable {X : Cx} {F : Fm} {us : List Nat} {pos : Pos} {e : Expr}
theorem pdgv_name (i : Nat) {x : Str} (hN : X.N.Nodup) (hu : i ∈ us := by decide) (hi : X.N[i]? = some x := by rfl) (hx : Loc X.env.scope x := by first | exact Or.inl rfl | exact Or.inr rfl) (hf : X.fn x = true ∨ X.env.scope.names.lookup x = some .local := by first | exact .inl rfl | exact .inr rfl | assumption) : PDGv X F us (.Name x pos) (dgName i) :=
  pg_imp (pg_name hN hi hx hf) fun x σ H Q ⟨G, ρ, M, v, post, hr, sr, r, d, q⟩ => q G _ H _ M (Same.refl _) hr (sr.set r i) ⟨List.length_set, fun j hj => List.getElem?_set_ne (fun z : i = j => hj (by rw [← z]; exact hu))⟩ d
theorem pdgsv_nil : PDGsv X F us [] dgNil := pgs_imp pgs_nil fun xs σ H Q ⟨G, ρ, M, vs, post, hr, sr, r, d, q⟩ => by
  obtain ⟨rfl, d⟩ := d
  cases r
  exact ⟨rfl, q G σ H ρ M (Same.refl _) hr sr (.refl _ _) d⟩
theorem pdgsv_cons {es : List Expr} {g : DG} {gs : DGs} (h1 : PDGv X F us e g) (h2 : PDGsv X F us es gs) (hs : (assignEach (e :: es) X.env).map (·.2) = assign e X.env :: (assignEach es X.env).map (·.2) := by rfl) : PDGsv X F us (e :: es) (dgCons g gs) :=
  pgs_imp (pgs_cons h1 h2 hs) fun xs σ H Q ⟨G, ρ, M, vs, post, hr, sr, r, d, q⟩ => by
    cases r with
    | nil => exact (show False from d).elim
    | cons rx t =>
      exact ⟨_, _, rfl, G, ρ, M, _, _, hr, sr, rx, d, fun G' σ' H' ρ' M' s h s' o' q' => ⟨G', ρ', M', _, post, h, s', t.mono s, q', fun G2 σ2 H2 ρ2 M2 s2 h2 sr2 o2 q2 => q G2 σ2 H2 ρ2 M2 (s.trans s2) h2 sr2 (o'.trans o2) q2⟩⟩
theorem pdgv_tup {es : List Expr} {k n : Nat} {gs : DGs} (hc : X.calm = true) (h : PDGsv X F us es gs) (hn : (assignEach es X.env).length = n := by rfl) (hst : (assignEach es X.env).findIdx? (·.1) = none := by rfl) : PDGv X F us (.Tuple es k pos) (dgTup n gs) :=
  pg_imp (pg_tup hc h hn hst) fun x σ H Q ⟨G, ρ, M, v, post, hr, sr, r, d, q⟩ => by
    cases v with
    | tup ds =>
      cases r with
      | tup ht rs => exact ⟨_, _, rfl, .inl (.inl (hr.sub _ _ ht)), by rw [rs.length]; exact d.1, G, ρ, M, _, post, hr, sr, rs, d.2, q⟩
    | rt ds =>
      cases r with
      | rt ht rs => exact ⟨_, _, rfl, SqT.mono hr.sub ht, by rw [rs.length]; exact d.1, G, ρ, M, _, post, hr, sr, rs, d.2, q⟩
    | _ => exact (show False from d).elim
end
/-- .. for some frame with more left alone -/
def LXT (K : Fg) (F : Fm) (d : DT) : TT := fun σ H Q => ∃ F', Fm.Le F F' ∧ LT K F' d σ H Q
def LXG (K : Fg) (F : Fm) (vs : List Nat) (g : DG) : TG := fun x σ H Q => ∃ F', Fm.Le F F' ∧ LGv K F' vs g x σ H Q
section
variable {X : Cx} {F : Fm} {tg elt iter : Expr} {ifs : List Expr} {scope : Scope} {own : List (Str × Nat)} {pos : Pos} {di : DI} {g : DG} {dt : DT} {de : DE}
/-- the context of a comprehension's block -/
abbrev blkX (X : Cx) (s : Shared) (H : Hp) (scope : Scope) (C : Addr) (cl : List (Str × Addr)) (fp : List Addr) : Cx := X.blk s H scope (compEnvC scope cl C X.env) fp
theorem lc_imp (fresh : Bool) : ∀ σ H Q, LE X.K F (dLc fresh di g dt de (own.map (·.2))) σ H Q → tLc (LI X.K F di) (LXG X.K F (own.map (·.2)) g) (LXT X.K F dt) (LX X.K F de) (own.map (·.2)) σ H Q :=
  fun σ H Q ⟨G, ρ, M, post, hr, sr, d, k⟩ => ⟨G, ρ, M, _, hr, sr, d, fun G1 H1 M1 items stay J s1 h1 io q1 => fun D hD => by
    obtain ⟨Gp, Y, wk, w1, w2⟩ := io.ex
    have hrr := (h1.mnone hD).2.2
    refine lc_it wk (fun i H' => ∃ G' M' acc xs, Same G1 G' ∧ HRel X.K ⟨F.B, upd F.R D (.lst xs)⟩ G' H' M' ∧ Reps X.K G' xs acc ∧ dLcL g dt de (own.map (·.2)) stay ρ (fun acc M2 => if fresh then ∀ p, M2 p = none → post (.obj p) (Dl.st M2 p (.lst acc)) else post (.lst acc) M2) (items.drop i) acc M')
      ⟨G1, M1, [], [], Same.refl _, h1.hide hD (fun _ z => nomatch z), .nil, q1⟩ ?_ ?_ ?_
    · rintro i H' hi ⟨G', M', acc, xs, s, hr', rs, h⟩
      exact w1 _ G' H' M' s hr' (dLcL_stay h)
    · rintro i x H' H'' hi ⟨G', M', acc, xs, s, hr', rs, h⟩ y
      have l : ∀ ys : List V, Fm.Le F ⟨F.B, upd F.R D (.lst ys)⟩ := fun ys => ⟨rfl, same_upd hrr⟩
      obtain ⟨G2, dd, s2, hr2, e, rx⟩ := w2 i _ G' H' M' x H'' hi s hr' (dLcL_stay h) y
      have ed : items.drop i = dd :: items.drop (i + 1) := by
        rw [List.drop_eq_getElem_cons hi]
        rw [List.getElem?_eq_getElem hi] at e
        rw [Option.some.inj e]
      rw [ed] at h
      have sr2 : SRel X.K G2 σ ρ := sr.mono (s1.trans (s.trans s2))
      refine ⟨_, l xs, G2, dwipe ρ _, M', dd, _, hr2, wipe_rel sr2 _, rx, h.2, fun G3 σ3 H3 ρ3 M3 s3 hr3 sr3 o3 q3 => ⟨?_, _, l xs, G3, ρ3, M3, _, hr3, sr3, q3, fun G4 H4 M4 b s4 hr4 q4 => ?_⟩⟩
      · rw [o3.wipe]
        refine List.ext_getElem? fun j => ?_
        rw [wipe_get, wipe_length]
        by_cases hj : j ∈ own.map (·.2) ∧ j < σ.length
        · rw [if_pos hj, wipe_get, if_pos hj]
        · rw [if_neg hj]
      · cases b with
        | false => exact ⟨G4, M4, acc, xs, s.trans (s2.trans (s3.trans s4)), hr4, rs.mono (s2.trans (s3.trans s4)), q4⟩
        | true =>
          refine ⟨_, l xs, G4, ρ3, M4, _, hr4, sr3.mono s4, q4, fun G5 H5 M5 z v s5 hr5 rz q5 => ⟨xs, hr5.rs D _ upd_same, by rw [rs.length]; exact q5.1, ?_⟩⟩
          exact ⟨G5, M5, acc ++ [v], xs ++ [z], s.trans (s2.trans (s3.trans (s4.trans s5))), hr5.hidden (fun _ z => nomatch z), (rs.mono (s2.trans (s3.trans (s4.trans s5)))).app (.cons rz .nil), q5.2⟩
    · rintro H' ⟨G', M', acc, xs, s, hr', rs, h⟩
      rw [List.drop_length] at h
      obtain ⟨_, h⟩ := h
      cases fresh with
      | false =>
        obtain ⟨s3, h3⟩ := hr'.shown hrr
        exact k _ _ _ _ _ (s1.trans (s.trans s3)) h3 (.lst upd_same (rs.mono s3)) h
      | true =>
        have hh : H' D = some (.lst xs) := hr'.rs D _ upd_same
        have hm1 : M' D = none := by
          cases q : M' D with
          | none => rfl
          | some c =>
            have z : upd F.R D (.lst xs) D = none := (hr'.cell D c q).2.2
            rw [upd_same] at z; cases z
        exact k _ _ _ _ _ (s1.trans s) (hr'.shownC (c := .lst acc) hrr ⟨_, hh, rs⟩) .obj (h D hm1)⟩
variable (hc : X.calm = true) (hN : X.N.Nodup) (hi : PDI X F tg iter di) (ok : BlkOk X.N X.env.scope scope own)
    (hg : ∀ (s : Shared) (H : Hp) (C : Addr) (cl : List (Str × Addr)) (fp : List Addr) (F' : Fm), Fm.Le F F' → PDGv (blkX X s H scope C cl fp) F' (own.map (·.2)) tg g)
    (ht : ∀ (s : Shared) (H : Hp) (C : Addr) (cl : List (Str × Addr)) (fp : List Addr) (F' : Fm), Fm.Le F F' → PDTs (blkX X s H scope C cl fp) F' ifs dt)
    (he : ∀ (s : Shared) (H : Hp) (C : Addr) (cl : List (Str × Addr)) (fp : List Addr) (F' : Fm), Fm.Le F F' → PD (blkX X s H scope C cl fp) F' elt de)
include hc hN hi ok hg ht he
theorem pd_lc (fresh : Bool) (hs : ∀ x, foldedSetIterable iter X.env x = pure x := by intro _; rfl) : PD X F (.ListComp elt [⟨tg, iter, ifs, 0⟩] scope pos) (dLc fresh di g dt de (own.map (·.2))) :=
  pe_imp (pe_lc hc hN hi ok (g := LXG X.K F (own.map (·.2)) g) (tt := LXT X.K F dt) (te := LX X.K F de)
    (fun s H C cl fp => ⟨fun pins s' σ H' v u Q I r ⟨F', l, q⟩ => (hg s H C cl fp F' l).run pins s' σ H' v u Q I r q⟩)
    (fun s H C cl fp => ⟨fun pins s' σ H' Q I ⟨F', l, q⟩ => (ht s H C cl fp F' l).run pins s' σ H' Q I q⟩)
    (fun s H C cl fp => ⟨fun pins s' σ H' Q I ⟨F', l, q⟩ => (he s H C cl fp F' l).run pins s' σ H' Q I q⟩) hs) (lc_imp fresh)
/-- name = [..] on one line -/
theorem pds_setlc (fresh : Bool) (i : Nat) {y : Str} {py spos : Pos} (hy : X.N[i]? = some y) (hyl : X.env.scope.names.lookup y = some .local) (hsw : swapsWith (.ListComp elt [⟨tg, iter, ifs, 0⟩] scope pos) (some (.Name y py)) spos.line X.env = pure true)
    (hs : ∀ x, foldedSetIterable iter X.env x = pure x := by intro _; rfl) : PDS X F (.Assign [.Name y py] (.ListComp elt [⟨tg, iter, ifs, 0⟩] scope pos) spos) (dSet i (dLc fresh di g dt de (own.map (·.2)))) :=
  ps_imp (ps_setLc (i := i) hc hN hy hyl hsw hi ok (g := LXG X.K F (own.map (·.2)) g) (tt := LXT X.K F dt) (te := LX X.K F de)
    (fun s H C cl fp => ⟨fun pins s' σ H' v u Q I r ⟨F', l, q⟩ => (hg s H C cl fp F' l).run pins s' σ H' v u Q I r q⟩)
    (fun s H C cl fp => ⟨fun pins s' σ H' Q I ⟨F', l, q⟩ => (ht s H C cl fp F' l).run pins s' σ H' Q I q⟩)
    (fun s H C cl fp => ⟨fun pins s' σ H' Q I ⟨F', l, q⟩ => (he s H C cl fp F' l).run pins s' σ H' Q I q⟩) hs) fun Dn σ H ⟨G, ρ, M, E, hr, sr, d, q⟩ =>
      lc_imp fresh σ H _ ⟨G, ρ, M, _, hr, sr, d, fun G' H' M' x v s h r q' => q.nx G' _ H' _ M' s h ((sr.mono s).set r i) q'⟩
end
end Dl

/-! Dl9: raise, try .. except. -/
namespace Dl
open L2 PySem PyProof.Rows PySem.Spec

section
variable {X : Cx} {F : Fm} {pw : DW} {pos p p2 p3 : Pos}
/-- raise C('m'), C an own class without own __init__ -/
def dRaise (pw : DW) (C : Addr) : DS := fun _ ρ M => pw ⟨.ref C, []⟩ ρ M
theorem pds_raise {C : Addr} {bmB : List Value} {B newId initId : String} {x m : Str} {j : Nat} (Fx : ExcBaseFacts B newId initId bmB) (q : PySem.W.excIn X.K C bmB newId = true) (gC : X.mg x = some (.ref C)) (kC : PySem.W.keepIn X.K (.ref C) = true)
    (s1 : PySem.W.subIn X.K (.ref C) (.type "BaseException") = some true) (s2 : PySem.W.typeIn X.K (.ref C) = some (.type "type")) (hc : X.calm = true) (tk : TkD X F pw) (hg : Gl X x := by rfl) (hdb : (x == ("__debug__" : Str)) = false := by decide) :
    PDS X F (.Raise (some (.Call (.Name x p) [.Constant (.str m) j p2] [] p3)) none pos) (dRaise pw C) :=
  ps_imp (ps_raise hc tk (pmk_own Fx q gC kC (raises_own s1 s2) hg hdb)) fun D σ H ⟨G, ρ, M, E, hr, sr, d, q⟩ => ⟨G, ρ, M, [], hr, sr, .inl ⟨rfl, rfl⟩, d⟩
/-- what the suite may know of the fields of the exception that it holds -/
def XF (K : Fg) (F : Fm) (o : Option Addr) (fs : List (Str × D)) : Prop := (o = none ∧ fs = []) ∨ ∃ d ys, o = some d ∧ fs ≠ [] ∧ (∀ G H M, HRel K F G H M → H d = some (.xd ys)) ∧ ys.map (·.1) = fs.map (·.1) ∧ Reps K F.B (ys.map (·.2)) (fs.map (·.2))
theorem xf_of {K : Fg} {G H : Hp} {M : Mem} {o : Option Addr} {fs : List (Str × D)} (hr : HRel K F G H M) (xr : XRep K G H o fs) : ∃ G', Same G G' ∧ HRel K ⟨G', F.R⟩ G' H M ∧ XF K ⟨G', F.R⟩ o fs := by
  rcases xr with ⟨e1, e2⟩ | ⟨d, ys, e1, ne, hd, e2, rs⟩
  · exact ⟨G, Same.refl _, hr.at, .inl ⟨e1, e2⟩⟩
  · cases qg : G d with
    | some u =>
      have hu := hr.sub d u qg
      rw [hd] at hu; cases hu
      exact ⟨G, Same.refl _, hr.at, .inr ⟨d, ys, e1, ne, fun G' H' M' h => h.sub d _ (h.base d _ qg), e2, rs⟩⟩
    | none =>
      cases qr : F.R d with
      | some u =>
        have hu := hr.rs d u qr
        rw [hd] at hu; cases hu
        exact ⟨G, Same.refl _, hr.at, .inr ⟨d, ys, e1, ne, fun G' H' M' h => h.rs d _ qr, e2, rs⟩⟩
      | none =>
        have s : Same G (upd G d (.xd ys)) := same_upd qg
        have hm : ∀ c, M d = some c → False := fun c qc => by
          obtain ⟨h1, _⟩ := hr.cell d c qc
          cases c with
          | lst ds => obtain ⟨xs, h2, _⟩ := h1; rw [hd] at h2; cases h2
          | dk ds => obtain ⟨xs, h2, _⟩ := h1; rw [hd] at h2; cases h2
          | dt ds => obtain ⟨xs, h2, _⟩ := h1; rw [hd] at h2; cases h2
          | ins C ds => obtain ⟨dx, xs, h2, _⟩ := h1; rw [hd] at h2; cases h2
        refine ⟨upd G d (.xd ys), s, ⟨Same.refl _, fun b u q => ?_, hr.rs, fun b u q => ?_, fun b c q => ?_⟩, .inr ⟨d, ys, e1, ne, fun G' H' M' h => h.sub d _ (h.base d _ upd_same), e2, rs.mono s⟩⟩
        · by_cases hb : b = d
          · subst hb; rw [upd_same] at q; rw [hd]; exact q
          · rw [upd_ne hb] at q; exact hr.sub b u q
        · rw [upd_ne (ne_of_none q qr)]; exact hr.rgt b u q
        · obtain ⟨h1, h2, h3⟩ := hr.cell b c q
          have hb : b ≠ d := fun z => hm c (z ▸ q)
          exact ⟨h1.mono s rfl, by rw [upd_ne hb]; exact h2, h3⟩
def dEndsN (i : Nat) (E : DEnds) : DEnds := { nx := fun ρ M => E.nx (ρ.set i none) M, rt := E.rt, bk := fun ρ M => E.bk (ρ.set i none) M, ct := fun ρ M => E.ct (ρ.set i none) M }
/-- try: body, except c as (slot i): suite -/
def dTryAs (K : Fg) (c : Value) (i : Nat) (db : DW → DS) (dsu : Addr → DX → DS) (pw : DW) : DS := fun E ρ M =>
  db (fun x ρ' M' => ∃ b, PySem.W.exmOne K x.cls c = some b ∧ (b = true → ∀ a, dsu a x (dEndsN i E) (ρ'.set i (some (.obj a))) M') ∧ (b = false → pw x ρ' M')) E ρ M
variable {x n : Str} {c : Value} {body suite : List Stmt} {b₀ : Stmt} {np pos' : Pos} {db : DW → DS} {dsu : Addr → DX → DS}
theorem pds_tryas (i : Nat) (hs : X.stack = X.env :: X.outer) (hf : X.env.frame = some X.env.locals) (hN : X.N.Nodup) (hc : Names X x c) (tk : TkD X F pw)
    (hb : ∀ (F' : Fm) (pw' : DW) (pn : List (Addr × Obj)) (xe : Value → Shared → Prop), TkD (X.tr pn xe) F' pw' → PassesOwn (model X.prog X.w) X.A X.env xe → PDSs (X.tr pn xe) F' body (db pw'))
    (hsu : ∀ (F' : Fm) (a : Addr) (oe : Obj) (cls : Value) (o : Option Addr) (fs : List (Str × D)) (pn : List (Addr × Obj)), Zc cls o oe → (∃ vs, oe.data = .fields vs) → XF X.K F' o fs → PDSs (X.suite a ((a, oe) :: pn)) F' (b₀ :: suite) (dsu a ⟨cls, fs⟩))
    (hi : X.N[i]? = some n := by rfl) (hln : X.env.kindOf n = some .local := by rfl) :
    PDS X F (.Try body [.ExceptHandler (some (.Name x np)) (some n) (b₀ :: suite) pos'] [] [] pos) (dTryAs X.K c i db dsu pw) := by
  refine ps_imp (ps_try_as (i := i) (Wout := LW X.K F pw) (tb := fun W Dn σ H => ∃ F' pw', (∀ c o σ H, LW X.K F' pw' c o σ H → W c o σ H) ∧ LS X.K F' (db pw') Dn σ H)
    (ts := fun a cls o Dn σ H => ∃ F' fs, XF X.K F' o fs ∧ LS X.K F' (dsu a ⟨cls, fs⟩) Dn σ H) hs hf hN hi hln hc tk ?_ ?_) ?_
  · exact fun W pn xe tW hp => ⟨fun pins s σ H Dn I ⟨F', pw', hle, ls⟩ => (hb F' pw' pn xe (Takes.imp tW hle) hp).run pins s σ H Dn I ls⟩
  · exact fun a oe cls o pn hz hv => ⟨fun pins s σ H Dn I ⟨F', fs, xf, ls⟩ => (hsu F' a oe cls o fs pn hz hv xf).run pins s σ H Dn I ls⟩
  · rintro Dn σ H ⟨G, ρ, M, E, hr, sr, d, q⟩
    refine ⟨⟨G, F.R⟩, (fun x ρ' M' => ∃ b, PySem.W.exmOne X.K x.cls c = some b ∧ (b = true → ∀ a, dsu a x (dEndsN i E) (ρ'.set i (some (.obj a))) M') ∧ (b = false → pw x ρ' M')), fun cls o σ' H' hh => ?_, G, ρ, M, E, hr.at, sr, d, ⟨fun G' σ' H' ρ' M' s h => q.nx G' σ' H' ρ' M' s (hr.back h), fun G' H' M' x v s h => q.rt G' H' M' x v s (hr.back h), fun G' σ' H' ρ' M' s h => q.bk G' σ' H' ρ' M' s (hr.back h), fun G' σ' H' ρ' M' s h => q.ct G' σ' H' ρ' M' s (hr.back h)⟩⟩
    obtain ⟨G', ρ', M', fs, hr', sr', xr, b, e1, yes, no⟩ := hh
    refine ⟨b, e1, fun hb a ha => ?_, fun hb => ?_⟩
    · have hrF := hr.back hr'
      obtain ⟨G2, s2, h2, xf⟩ := xf_of hrF xr
      have sb : Same G G2 := Same.trans hr'.base s2
      have bk : ∀ {G3 H3 : Hp} {M3 : Mem}, HRel X.K ⟨G2, F.R⟩ G3 H3 M3 → HRel X.K F G3 H3 M3 := fun h3 => hr.back ⟨Same.trans sb h3.base, h3.sub, h3.rs, h3.rgt, h3.cell⟩
      refine ⟨⟨G2, F.R⟩, fs, xf, G2, ρ'.set i (some (.obj a)), M', dEndsN i E, h2, (sr'.mono s2).set .obj i, yes hb a, ⟨fun G3 σ3 H3 ρ3 M3 s3 h3 sr3 q3 => ?_, fun G3 H3 M3 x v s3 h3 => q.rt G3 H3 M3 x v (sb.trans s3) (bk h3), fun G3 σ3 H3 ρ3 M3 s3 h3 sr3 q3 => ?_, fun G3 σ3 H3 ρ3 M3 s3 h3 sr3 q3 => ?_⟩⟩
      · exact q.nx G3 _ H3 _ M3 (sb.trans s3) (bk h3) (sr3.setN i none) q3
      · exact q.bk G3 _ H3 _ M3 (sb.trans s3) (bk h3) (sr3.setN i none) q3
      · exact q.ct G3 _ H3 _ M3 (sb.trans s3) (bk h3) (sr3.setN i none) q3
    · exact ⟨G', ρ', M', fs, hr.back hr', sr', xr, no hb⟩
/-- isinstance(e, C), e the exception that the suite holds -/
def f_isE (K : Fg) (a : Addr) (x : DX) : DN := fun vs M Q => match vs with
  | [.obj a', .obj C] => a' = a ∧ x.fs = [] ∧ ∃ D b, x.cls = .ref D ∧ ExcC K D ∧ PySem.W.kitOne K (.ref D) (.ref C) = some b ∧ Q (.bl b) M
  | _ => False
theorem pd_isE {a : Addr} {oe : Obj} {cls : Value} {o : Option Addr} {fs : List (Str × D)} {pn : List (Addr × Obj)} {e1 e2 : Expr} {dA : DA} (hz : Zc cls o oe) (hv : ∃ vs, oe.data = .fields vs) (xf : XF X.K F o fs) (hm : X.mg "isinstance" = none)
    (ha : PDA (X.suite a ((a, oe) :: pn)) F [e1, e2] dA) (hg : Gl X "isinstance" := by rfl)
    (he : starEach [e1, e2] X.env = (false, eval e1 X.env) :: starEach [e2] X.env := by rfl) (hpl : (backTo pos (starEach [e2] X.env)).any (·.1) = false := by rfl) : PD (X.suite a ((a, oe) :: pn)) F (.Call (.Name "isinstance" p) [e1, e2] [] pos) (dCB (f_isE X.K a ⟨cls, fs⟩) dA) := by
  refine pd_cB (X := X.suite a ((a, oe) :: pn)) (id := "isinstance") (r := fun xs H Q => ∃ D, cls = .ref D ∧ o = none ∧ ExcC X.K D ∧ rIsE X.K D a xs H Q) ?_ ?_ hm ha (by decide +kernel) hg (by decide) (by decide) he hpl
  · intro pins s σ H xs us Q I r h
    obtain ⟨D, rfl, rfl, C, h⟩ := h
    exact call_isE C hz hv pins s σ H xs us Q I r h
  · intro G H M xs vs post Q hr rs d k
    unfold f_isE at d
    split at d
    · rename_i a' C
      obtain ⟨rfl, e0, D, b, e3, hC, e4, d⟩ := d
      have e0 : fs = [] := e0
      have e3 : cls = .ref D := e3
      have eo : o = none := by
        rcases xf with ⟨h, _⟩ | ⟨dd, ys, h1, h2, h3, h4⟩
        · exact h
        · exact absurd e0 h2
      cases rs with
      | cons r1 t => cases t with
        | cons r2 t =>
          cases t; cases r1; cases r2
          exact ⟨D, e3, eo, hC, .ref C, .ref C, b, rfl, fun u hu => hu, e4, k.here hr .bl d⟩
    · exact d.elim
end
end Dl

/-! Dl10: freezing, invariants of loops, module constants, defs told by the head. -/
namespace Dl
open L2 PySem PyProof.Rows PySem.Spec

section
variable {X : Cx} {F : Fm} {pos p : Pos} {e : Expr} {da : DE}
/-- a cell that nobody writes any more becomes data -/
def dFrz (da : DE) : DE := fun ρ M Q => da ρ M fun v M1 => match v with
  | .obj a => (match M1 a with
    | some (.lst ds) => Q (.lst ds) (rm M1 a)
    | some (.dk kvs) => Q (.dk kvs) (rm M1 a)
    | some (.dt kvs) => Q (.dt kvs) (rm M1 a)
    | _ => Q (.obj a) M1)
  | v => Q v M1
/-- a dict may be locked at any time -/
theorem pe_lock {ta : TE} (h : PE X e ta) : PE X e (fun σ H Q => ta σ H fun x H1 => Q x H1 ∨ ∃ a u, x = .ref a ∧ H1 a = some u ∧ Mut (some u) ∧ ∀ od, Q x (upd H1 a (.frz od u))) := by
  refine ⟨fun pins s σ H Q I q => ?_⟩
  refine thn (h.run pins s σ H _ I q) fun v s1 ⟨x, H1, I1, rx, q1⟩ => ?_
  rcases q1 with q1 | ⟨a, u, ex, ea, mu, q1⟩
  · exact ⟨x, H1, I1, rx, q1⟩
  · obtain ⟨od, I2⟩ := I1.lock ea mu
    exact ⟨x, _, I2, rx, q1 od⟩
theorem pss_lock {sts : List Stmt} {t : TS} (h : PSs X sts t) : PSs X sts (fun D σ H => t D σ H ∨ ∃ a u, H a = some u ∧ Mut (some u) ∧ ∀ od, t D σ (upd H a (.frz od u))) := by
  refine ⟨fun pins s σ H D I q => ?_⟩
  rcases q with q | ⟨a, u, ea, mu, q⟩
  · exact h.run pins s σ H D I q
  · obtain ⟨od, I2⟩ := I.lock ea mu
    exact h.run pins s σ _ D I2 (q od)
theorem pd_frz (h : PD X F e da) : PD X F e (dFrz da) := pe_imp (pe_lock h) fun σ H Q ⟨G, ρ, M, post, hr, sr, d, k⟩ => ⟨G, ρ, M, _, hr, sr, d, fun G1 H1 M1 x v s1 h1 rx q1 => by
  cases v with
  | obj a =>
    dsimp only at q1
    cases rx
    cases q : M1 a with
    | none => rw [q] at q1; exact .inl ((k.later s1).here h1 .obj q1)
    | some c =>
      rw [q] at q1
      cases c with
      | lst ds =>
        obtain ⟨xs, e1, r⟩ := (h1.cell a _ q).1
        obtain ⟨s2, h2⟩ := h1.freeze q e1
        exact .inl ((k.later (s1.trans s2)).here h2 (.lst upd_same (r.mono s2)) q1)
      | dk kvs =>
        obtain ⟨xs, e1, e2, r⟩ := (h1.cell a _ q).1
        refine .inr ⟨a, _, rfl, e1, trivial, fun od => ?_⟩
        obtain ⟨s2, h2⟩ := h1.lock (o := .frz od (.dK xs)) q
        exact (k.later (s1.trans s2)).here h2 (.dk ⟨od, upd_same⟩ e2 (r.mono s2)) q1
      | dt kvs =>
        obtain ⟨xs, e1, e2, r⟩ := (h1.cell a _ q).1
        refine .inr ⟨a, _, rfl, e1, trivial, fun od => ?_⟩
        obtain ⟨s2, h2⟩ := h1.lock (o := .frz od (.dT xs)) q
        exact (k.later (s1.trans s2)).here h2 (.dt ⟨od, upd_same⟩ e2 (r.mono s2)) q1
      | ins C fs => exact .inl ((k.later s1).here h1 .obj q1)
  | _ => exact .inl ((k.later s1).here h1 rx q1)⟩
theorem set_same {α : Type} {l : List α} {i : Nat} {x : α} (h : l[i]? = some x) : l.set i x = l := by
  refine List.ext_getElem? fun j => ?_
  by_cases e : i = j
  · subst e
    have hl := (List.getElem?_eq_some_iff.mp h).1
    rw [List.getElem?_set_self hl, h]
  · rw [List.getElem?_set_ne e]
/-- from here on the cell that the slot i holds is data -/
def dFz (i : Nat) (d : DS) : DS := fun E ρ M => match ρ[i]? with
  | some (some (.obj a)) => (match M a with
    | some (.lst ds) => d E (ρ.set i (some (.lst ds))) (rm M a)
    | some (.dk kvs) => d E (ρ.set i (some (.dk kvs))) (rm M a)
    | some (.dt kvs) => d E (ρ.set i (some (.dt kvs))) (rm M a)
    | _ => False)
  | _ => False
theorem pds_fz (i : Nat) {sts : List Stmt} {d : DS} (h : PDSs X F sts d) : PDSs X F sts (dFz i d) := pss_imp (pss_lock h) fun Dn σ H ⟨G, ρ, M, E, hr, sr, dd, q⟩ => by
  unfold dFz at dd
  split at dd
  · rename_i a ea
    obtain ⟨x, e1, rx⟩ := sr.slot i _ ea
    cases rx
    cases qa : M a with
    | none => rw [qa] at dd; exact dd.elim
    | some c =>
      rw [qa] at dd
      have keep : ∀ {G' : Hp} {d' : D}, Same G G' → Rep X.K G' (.ref a) d' → SRel X.K G' σ (ρ.set i (some d')) := fun {G' d'} s r => by
        have := (sr.mono s).set r i
        rw [set_same e1] at this
        exact this
      cases c with
      | lst ds =>
        obtain ⟨xs, e2, r⟩ := (hr.cell a _ qa).1
        obtain ⟨s2, h2⟩ := hr.freeze qa e2
        exact .inl ⟨_, _, _, E, h2, keep s2 (.lst upd_same (r.mono s2)), dd, q.later s2⟩
      | dk kvs =>
        obtain ⟨xs, e2, e3, r⟩ := (hr.cell a _ qa).1
        refine .inr ⟨a, _, e2, trivial, fun od => ?_⟩
        obtain ⟨s2, h2⟩ := hr.lock (o := .frz od (.dK xs)) qa
        exact ⟨_, _, _, E, h2, keep s2 (.dk ⟨od, upd_same⟩ e3 (r.mono s2)), dd, q.later s2⟩
      | dt kvs =>
        obtain ⟨xs, e2, e3, r⟩ := (hr.cell a _ qa).1
        refine .inr ⟨a, _, e2, trivial, fun od => ?_⟩
        obtain ⟨s2, h2⟩ := hr.lock (o := .frz od (.dT xs)) qa
        exact ⟨_, _, _, E, h2, keep s2 (.dt ⟨od, upd_same⟩ e3 (r.mono s2)), dd, q.later s2⟩
      | ins C fs => exact dd.elim
  · exact dd.elim
/-- module constants -/
theorem pd_gstr {x z : Str} (hm : ∃ t, X.mg x = some (.str z t)) (hg : Gl X x := by rfl) (hd : (x == ("__debug__" : Str)) = false := by decide) : PD X F (.Name x pos) (dC (.str z)) := by
  obtain ⟨t, hm⟩ := hm
  exact pd_glob (v := .str z) hm ⟨t, rfl⟩ (fun _ => .str) hg hd
theorem pd_gint {x : Str} {z : Int} (hm : ∃ t, X.mg x = some (.int z t)) (hg : Gl X x := by rfl) (hd : (x == ("__debug__" : Str)) = false := by decide) : PD X F (.Name x pos) (dC (.int z)) := by
  obtain ⟨t, hm⟩ := hm
  exact pd_glob (v := .int z) hm ⟨t, rfl⟩ (fun _ => .int) hg hd
theorem names_own {x : Str} {c : Value} (hm : X.mg x = some c) (hg : Gl X x) (hd : (x == ("__debug__" : Str)) = false := by decide) : Names X x c := ⟨hg, hd, .inl hm⟩
/-- three names at once -/
def dPar3 (i j l : Nat) (dA : DA) : DS := fun E ρ M => dA ρ M fun vs M1 => match vs with
  | [u, v, w] => E.nx (((ρ.set i (some u)).set j (some v)).set l (some w)) M1
  | _ => False
theorem pds_par3 (i j l : Nat) {dA : DA} {x y z : Str} {a b c : Expr} {px py pz pt : Pos} {kt k2 : Nat} {pt2 : Pos} (hc : X.calm = true) (hN : X.N.Nodup) (ha : PDA X F [a, b, c] dA) (hi : X.N[i]? = some x := by rfl) (hj : X.N[j]? = some y := by rfl) (hl : X.N[l]? = some z := by rfl)
    (hij : i ≠ j := by decide) (hil : i ≠ l := by decide) (hjl : j ≠ l := by decide)
    (hx : X.env.scope.names.lookup x = some .local := by rfl) (hy : X.env.scope.names.lookup y = some .local := by rfl) (hz : X.env.scope.names.lookup z = some .local := by rfl) (hw : swappedStores [.Tuple [.Name x px, .Name y py, .Name z pz] kt pt] (.Tuple [a, b, c] k2 pt2) X.env = pure (some [x, y, z]) := by rfl)
    (hs : swapsWithSole [.Tuple [.Name x px, .Name y py, .Name z pz] kt pt] (.Tuple [a, b, c] k2 pt2) pos.line X.env = pure false := by rfl) : PDS X F (.Assign [.Tuple [.Name x px, .Name y py, .Name z pz] kt pt] (.Tuple [a, b, c] k2 pt2) pos) (dPar3 i j l dA) :=
  ps_imp (ps_par3 hc hN hi hj hl hij hil hjl hx hy hz ha hw hs) fun D σ H ⟨G, ρ, M, E, hr, sr, d, q⟩ => ⟨G, ρ, M, _, hr, sr, d, fun G' H' M' xs vs s h rs q' => by
    cases rs with
    | nil => exact (show False from q').elim
    | cons r1 t => cases t with
      | nil => exact (show False from q').elim
      | cons r2 t => cases t with
        | nil => exact (show False from q').elim
        | cons r3 t => cases t with
          | nil => exact ⟨_, _, _, rfl, q.nx G' _ H' _ M' s h ((((sr.mono s).set r1 i).set r2 j).set r3 l) q'⟩
          | cons _ _ => exact (show False from q').elim⟩

/-! ### loops by invariants -/
theorem dForL_inv {g : DG} {db : DS} {E : DEnds} {stay : Mem → Prop} {items : List D} (I : Nat → Rho → Mem → Prop) (hs : ∀ i ρ M, I i ρ M → stay M)
    (step : ∀ i d ρ M, items[i]? = some d → I i ρ M → ∀ nx : Rho → Mem → Prop, (∀ ρ' M', I (i + 1) ρ' M' → nx ρ' M') → g d ρ M fun ρ1 M1 => db { nx := nx, rt := E.rt, ct := nx, bk := E.nx } ρ1 M1)
    (out : ∀ ρ M, I items.length ρ M → E.nx ρ M) {ρ : Rho} {M : Mem} (h0 : I 0 ρ M) : dForL g db E stay items ρ M := by
  have key : ∀ (n i : Nat) (ρ : Rho) (M : Mem), items.length = i + n → I i ρ M → dForL g db E stay (items.drop i) ρ M := by
    intro n
    induction n with
    | zero =>
      intro i ρ M e h
      rw [List.drop_eq_nil_of_le (by omega)]
      exact ⟨hs _ _ _ h, out ρ M (by rw [e]; exact h)⟩
    | succ n ih =>
      intro i ρ M e h
      have hi : i < items.length := by omega
      rw [List.drop_eq_getElem_cons hi]
      exact ⟨hs _ _ _ h, step i _ ρ M (List.getElem?_eq_getElem hi) h _ fun ρ' M' h' => ih (i + 1) ρ' M' (by omega) h'⟩
  exact key items.length 0 ρ M (by omega) h0
/-- a while loop by its invariant, over a number that falls -/
def dWhileI (t : DT) (db : DS) : DS := fun E ρ M => ∃ I : Nat → Rho → Mem → Prop, (∃ n, I n ρ M) ∧ ∀ n ρ M, I n ρ M → ∀ nx : Rho → Mem → Prop, (∀ m ρ' M', m < n → I m ρ' M' → nx ρ' M') →
  t ρ M fun b M1 => if b = true then db { nx := nx, rt := E.rt, ct := nx, bk := E.nx } ρ M1 else E.nx ρ M1
theorem pds_whileI {c : Expr} {body : List Stmt} {dt : DT} {db : DS} (hp : PassesOwn (model X.prog X.w) X.A X.env X.xe) (hc : PDT X F c dt) (hb : PDSs X F body db) : PDS X F (.While c body [] pos) (dWhileI dt db) :=
  ps_imp (ps_while hp hc hb) fun Dn σ H ⟨G, ρ, M, E, hr, sr, ⟨I, ⟨n, d⟩, step⟩, q⟩ => by
    refine ⟨fun m σ' H' => ∃ G' ρ' M', Same G G' ∧ HRel X.K F G' H' M' ∧ SRel X.K G' σ' ρ' ∧ I m ρ' M', ⟨n, G, ρ, M, Same.refl _, hr, sr, d⟩, ?_⟩
    rintro m σ' H' ⟨G', ρ', M', s, hr', sr', h⟩
    refine ⟨G', ρ', M', _, hr', sr', step m ρ' M' h (fun ρ4 M4 => ∃ k, k < m ∧ I k ρ4 M4) (fun k ρ4 M4 l i => ⟨k, l, i⟩), fun G2 H2 M2 b s2 hr2 q2 => ?_⟩
    cases b with
    | false => exact q.nx G2 σ' H2 ρ' M2 (s.trans s2) hr2 (sr'.mono s2) q2
    | true =>
      refine ⟨fun σ4 H4 => ∃ k, k < m ∧ ∃ G4 ρ4 M4, Same G G4 ∧ HRel X.K F G4 H4 M4 ∧ SRel X.K G4 σ4 ρ4 ∧ I k ρ4 M4, fun σ4 H4 h4 => h4, ?_⟩
      exact ⟨G2, ρ', M2, _, hr2, sr'.mono s2, q2, ⟨fun G4 σ4 H4 ρ4 M4 s4 hr4 sr4 ⟨k, l, i⟩ => ⟨k, l, G4, ρ4, M4, s.trans (s2.trans s4), hr4, sr4, i⟩, q.rt.later (s.trans s2), fun G4 σ4 H4 ρ4 M4 s4 hr4 sr4 q4 => q.nx G4 σ4 H4 ρ4 M4 (s.trans (s2.trans s4)) hr4 sr4 q4, fun G4 σ4 H4 ρ4 M4 s4 hr4 sr4 ⟨k, l, i⟩ => ⟨k, l, G4, ρ4, M4, s.trans (s2.trans s4), hr4, sr4, i⟩⟩⟩
theorem dSeq_inv {d1 d2 : DS} {E : DEnds} {ρ : Rho} {M : Mem} (I : Rho → Mem → Prop) (h1 : ∀ nx : Rho → Mem → Prop, (∀ ρ M, I ρ M → nx ρ M) → d1 { E with nx := nx } ρ M) (h2 : ∀ ρ M, I ρ M → d2 E ρ M) : dSeq d1 d2 E ρ M := h1 _ h2
theorem dLcL_by {g : DG} {dt : DT} {de : DE} {vs : List Nat} {stay : Mem → Prop} {ρ : Rho} {Q : List D → Mem → Prop} {items : List D} (I : Nat → List D → Mem → Prop) (hs : ∀ i acc M, I i acc M → stay M)
    (step : ∀ i d acc M, items[i]? = some d → I i acc M → ∀ nx : List D → Mem → Prop, (∀ acc' M', I (i + 1) acc' M' → nx acc' M') → g d (dwipe ρ vs) M fun ρ1 M1 => dt ρ1 M1 fun b M2 => if b = true then de ρ1 M2 fun y M3 => acc.length < sizeLine ∧ nx (acc ++ [y]) M3 else nx acc M2)
    (out : ∀ acc M, I items.length acc M → Q acc M) {M : Mem} (h0 : I 0 [] M) : dLcL g dt de vs stay ρ Q items [] M := by
  have key : ∀ (n i : Nat) (acc : List D) (M : Mem), items.length = i + n → I i acc M → dLcL g dt de vs stay ρ Q (items.drop i) acc M := by
    intro n
    induction n with
    | zero =>
      intro i acc M e h
      rw [List.drop_eq_nil_of_le (by omega)]
      exact ⟨hs _ _ _ h, out acc M (by rw [e]; exact h)⟩
    | succ n ih =>
      intro i acc M e h
      have hi : i < items.length := by omega
      rw [List.drop_eq_getElem_cons hi]
      exact ⟨hs _ _ _ h, step i _ acc M (List.getElem?_eq_getElem hi) h _ fun acc' M' h' => ih (i + 1) acc' M' (by omega) h'⟩
  exact key items.length 0 [] M (by omega) h0
theorem dLcL_inv {g : DG} {dt : DT} {de : DE} {vs : List Nat} {stay : Mem → Prop} {ρ : Rho} {Q : List D → Mem → Prop} {items : List D} (I : Nat → List D → Mem → Prop) (hs : ∀ i acc M, I i acc M → stay M) (hl : ∀ i acc M, I i acc M → acc.length < sizeLine)
    (step : ∀ i d acc M, items[i]? = some d → I i acc M → g d (dwipe ρ vs) M fun ρ1 M1 => dt ρ1 M1 fun b M2 => if b = true then de ρ1 M2 fun y M3 => I (i + 1) (acc ++ [y]) M3 else I (i + 1) acc M2)
    (mono : ∀ d ρ M (P P' : Rho → Mem → Prop), (∀ ρ M, P ρ M → P' ρ M) → g d ρ M P → g d ρ M P') (monot : ∀ ρ M (P P' : Bool → Mem → Prop), (∀ b M, P b M → P' b M) → dt ρ M P → dt ρ M P') (monoe : ∀ ρ M (P P' : D → Mem → Prop), (∀ b M, P b M → P' b M) → de ρ M P → de ρ M P')
    (out : ∀ acc M, I items.length acc M → Q acc M) {M : Mem} (h0 : I 0 [] M) : dLcL g dt de vs stay ρ Q items [] M := by
  have key : ∀ (n i : Nat) (acc : List D) (M : Mem), items.length = i + n → I i acc M → dLcL g dt de vs stay ρ Q (items.drop i) acc M := by
    intro n
    induction n with
    | zero =>
      intro i acc M e h
      rw [List.drop_eq_nil_of_le (by omega)]
      exact ⟨hs _ _ _ h, out acc M (by rw [e]; exact h)⟩
    | succ n ih =>
      intro i acc M e h
      have hi : i < items.length := by omega
      rw [List.drop_eq_getElem_cons hi]
      refine ⟨hs _ _ _ h, mono _ _ _ _ _ (fun ρ1 M1 h1 => ?_) (step i _ acc M (List.getElem?_eq_getElem hi) h)⟩
      refine monot _ _ _ _ (fun b M2 h2 => ?_) h1
      cases b with
      | false => exact ih (i + 1) acc M2 (by omega) h2
      | true => exact monoe _ _ _ _ (fun y M3 h3 => ⟨hl _ _ _ h, ih (i + 1) (acc ++ [y]) M3 (by omega) h3⟩) h2
  exact key items.length 0 [] M (by omega) h0
end

/-! ### promises by the number of arguments -/
abbrev W0 := Mem → (D → Mem → Prop) → (DX → Mem → Prop) → Prop
def sp0 (f : W0) : DSp := fun ds M Q E => ds = [] ∧ f M Q E
def sp1 (f : D → W0) : DSp := fun ds M Q E => ∃ a, ds = [a] ∧ f a M Q E
def sp2 (f : D → D → W0) : DSp := fun ds M Q E => ∃ a b, ds = [a, b] ∧ f a b M Q E
def sp3 (f : D → D → D → W0) : DSp := fun ds M Q E => ∃ a b c, ds = [a, b, c] ∧ f a b c M Q E
def sp4 (f : D → D → D → D → W0) : DSp := fun ds M Q E => ∃ a b c d, ds = [a, b, c, d] ∧ f a b c d M Q E
def sp5 (f : D → D → D → D → D → W0) : DSp := fun ds M Q E => ∃ a b c d e, ds = [a, b, c, d, e] ∧ f a b c d e M Q E
def sp6 (f : D → D → D → D → D → D → W0) : DSp := fun ds M Q E => ∃ a b c d e g, ds = [a, b, c, d, e, g] ∧ f a b c d e g M Q E
theorem sp0_app {f : W0} {M : Mem} {Q : D → Mem → Prop} {E : DX → Mem → Prop} : sp0 f [] M Q E = f M Q E := propext ⟨fun h => h.2, fun h => ⟨rfl, h⟩⟩
theorem sp1_app {f : D → W0} {a : D} {M : Mem} {Q : D → Mem → Prop} {E : DX → Mem → Prop} : sp1 f [a] M Q E = f a M Q E := propext ⟨fun ⟨_, e, h⟩ => by cases e; exact h, fun h => ⟨_, rfl, h⟩⟩
theorem sp2_app {f : D → D → W0} {a b : D} {M : Mem} {Q : D → Mem → Prop} {E : DX → Mem → Prop} : sp2 f [a, b] M Q E = f a b M Q E := propext ⟨fun ⟨_, _, e, h⟩ => by cases e; exact h, fun h => ⟨_, _, rfl, h⟩⟩
theorem sp3_app {f : D → D → D → W0} {a b c : D} {M : Mem} {Q : D → Mem → Prop} {E : DX → Mem → Prop} : sp3 f [a, b, c] M Q E = f a b c M Q E := propext ⟨fun ⟨_, _, _, e, h⟩ => by cases e; exact h, fun h => ⟨_, _, _, rfl, h⟩⟩
theorem sp4_app {f : D → D → D → D → W0} {a b c d : D} {M : Mem} {Q : D → Mem → Prop} {E : DX → Mem → Prop} : sp4 f [a, b, c, d] M Q E = f a b c d M Q E := propext ⟨fun ⟨_, _, _, _, e, h⟩ => by cases e; exact h, fun h => ⟨_, _, _, _, rfl, h⟩⟩
theorem sp5_app {f : D → D → D → D → D → W0} {a b c d e : D} {M : Mem} {Q : D → Mem → Prop} {E : DX → Mem → Prop} : sp5 f [a, b, c, d, e] M Q E = f a b c d e M Q E := propext ⟨fun ⟨_, _, _, _, _, e, h⟩ => by cases e; exact h, fun h => ⟨_, _, _, _, _, rfl, h⟩⟩
theorem sp6_app {f : D → D → D → D → D → D → W0} {a b c d e g : D} {M : Mem} {Q : D → Mem → Prop} {E : DX → Mem → Prop} : sp6 f [a, b, c, d, e, g] M Q E = f a b c d e g M Q E := propext ⟨fun ⟨_, _, _, _, _, _, e, h⟩ => by cases e; exact h, fun h => ⟨_, _, _, _, _, _, rfl, h⟩⟩

/-! ### defs told by the head -/
abbrev cA (K : Fg) (x : Str) : Addr := He.ga K x
structure Df (K : Fg) (mg : Str → Option Value) (x : Str) (stm : Stmt) : Prop where
  ex : ∃ fd, FunD K x x (defArgs stm) (defBody stm) (defScope stm) [] [] (He.ga K x) fd
  g : mg x = some (.ref (He.ga K x))
/-- what a def's derivation says -/
abbrev Der (P : Program) (w : World) (K : Fg) (mg : Str → Option Value) (base : Heap) (N : List Str) (qual : Str) (stm : Stmt) (k : Nat) (d : DW → DS) : Prop :=
  ∀ (f : Addr) (cdv : Value) (A : Around) (outer : List Env) (s : Shared) (H : Hp) (E : XK) (F : Fm) (pw : DW), Room k (A.deeper (envOfC qual (defScope stm) s.heap.objs.size f cdv)) → TkD (bodyX P w K mg base N qual stm f cdv A outer s H E) F pw →
    PassesOwn (model P w) (bodyX P w K mg base N qual stm f cdv A outer s H E).A (bodyX P w K mg base N qual stm f cdv A outer s H E).env (bodyX P w K mg base N qual stm f cdv A outer s H E).xe →
    PDSs (bodyX P w K mg base N qual stm f cdv A outer s H E) F (defBody stm) (d pw)
section
variable {P : Program} {w : World} {K : Fg} {mg : Str → Option Value} {base : Heap}
theorem fn_dD {x qual : Str} {stm : Stmt} {f : Addr} {fd : FuncData} {N ps : List Str} {k : Nat} {sp : DSp} (Fn : FunD K x qual (defArgs stm) (defBody stm) (defScope stm) [] [] f fd) (S : FnScope N ps (defScope stm)) (len : ∀ ds M Q E, sp ds M Q E → ds.length = ps.length) (d : DW → DS)
    (hd : Der P w K mg base N qual stm k d) (hs : ∀ ds M post pox, sp ds M post pox → d (fun x _ M => pox x M) { nx := fun _ M => post .non M, rt := post } (dstart N.length ds) M) : FnOk P w K mg base (L2.CX P w) (k + 1) f fd ps (LSp K sp) := by
  refine Fn.ok S (fun vs H Q E h => ?_) (fun cdv A outer s H vs Q E hr h => ?_)
  · obtain ⟨R, G, ds, M, post, pox, _, rs, h, _⟩ := h
    rw [rs.length]; exact len _ _ _ _ h
  · obtain ⟨R, G, ds, M, post, pox, h0, rs, h, kq, kx⟩ := h
    have tk : TkD (bodyX P w K mg base N qual stm f cdv A outer s H E) ⟨G, R⟩ (fun x _ M => pox x M) :=
      Takes.imp (takes_of (E := E) rfl rfl rfl rfl) fun c o σ H' ⟨G', ρ, M', fs, h1, sr, xr, p⟩ => kx G' H' M' c o fs h1.base h1 xr p
    refine ⟨_, hd f cdv A outer s H E ⟨G, R⟩ (fun x _ M => pox x M) hr tk (passes_of rfl), ?_⟩
    refine ⟨G, dstart N.length ds, M, { nx := fun _ M => post .non M, rt := post }, h0, start_rel rs, hs ds M post pox h, ⟨fun G' σ' H' ρ' M' s h sr q => kq.later s |>.here h .non q, kq, fun _ _ _ _ _ _ _ _ z => z.elim, fun _ _ _ _ _ _ _ _ z => z.elim⟩⟩
theorem cal_d {x : Str} {stm : Stmt} {N ps : List Str} {k : Nat} {sp : DSp} (Dx : Df K mg x stm) (S : FnScope N ps (defScope stm))
    (hb : ∀ (kV doc pm : Value) (an : Option Addr) (cdv ct : Value) (us : List Value), us.length = ps.length → bindArgs (PySem.W.fnOf x x (defArgs stm) (defBody stm) (defScope stm) .none kV doc pm an cdv ct) ⟨us, []⟩ = pure (ps.zip us))
    (len : ∀ ds M Q E, sp ds M Q E → ds.length = ps.length) (d : DW → DS) (hd : Der P w K mg base N x stm k d)
    (hs : ∀ ds M post pox, sp ds M post pox → d (fun x _ M => pox x M) { nx := fun _ M => post .non M, rt := post } (dstart N.length ds) M) : Cal P w K mg base (k + 1) x sp := by
  obtain ⟨fd, F⟩ := Dx.ex
  exact ⟨⟨_, fd, ps, fn_dD F S len d hd hs, Dx.g, F.kp, F.bindsN hb⟩⟩
end
end Dl

/-! Dl11: code that is never reached, instances, methods, try without a name, join, exceptions as values. -/
namespace Dl
open L2 PySem PyProof.Rows PySem.Spec

section
variable {X : Cx} {F : Fm} {pos pos' p np : Pos} {e o value tg : Expr} {es : List Expr} {da do_ dv : DE} {dA : DA} {C : Addr} {f m x : Str}
/-! ### what is never reached -/
def dNo : DE := fun _ _ _ => False
def dNoS : DS := fun _ _ _ => False
def dNoT : DT := fun _ _ _ => False
theorem pd_no : PD X F e dNo := ⟨fun pins s σ H Q I ⟨_, _, _, _, _, _, d, _⟩ => d.elim⟩
theorem pt_no : PDT X F e dNoT := ⟨fun pins s σ H Q I ⟨_, _, _, _, _, _, d, _⟩ => d.elim⟩
theorem pds_no {sts : List Stmt} : PDSs X F sts dNoS := ⟨fun pins s σ H D I ⟨_, _, _, _, _, _, d, _⟩ => d.elim⟩
theorem pds_no1 {st : Stmt} : PDS X F st dNoS := ⟨fun pins s σ H D I ⟨_, _, _, _, _, _, d, _⟩ => d.elim⟩

/-! ### attributes of instances -/
theorem lookup_dget {α : Type} : ∀ (ys : List (Str × α)) (f : Str), ys.lookup f = dget ys f
  | [], _ => rfl
  | (g, x) :: r, f => by
    unfold dget
    by_cases h : g = f
    · subst h
      rw [if_pos rfl, List.lookup_cons, beq_self_eq_true]
    · rw [if_neg h, List.lookup_cons, beq_eq_false_iff_ne.mpr (fun z => h z.symm)]
      exact lookup_dget r f
def dputF (f : Str) (v : D) : List (Str × D) → List (Str × D)
  | [] => [(f, v)]
  | (g, x) :: r => if g = f then (g, v) :: r else (g, x) :: dputF f v r
theorem putF_rel {K : Fg} {G : Hp} {f : Str} {v : V} {d : D} (h : Rep K G v d) : ∀ {ys : List (Str × V)} {fs : List (Str × D)}, ys.map (·.1) = fs.map (·.1) → Reps K G (ys.map (·.2)) (fs.map (·.2)) →
    (putF f v ys).map (·.1) = (dputF f d fs).map (·.1) ∧ Reps K G ((putF f v ys).map (·.2)) ((dputF f d fs).map (·.2))
  | [], [], _, _ => ⟨rfl, .cons h .nil⟩
  | [], _ :: _, e, _ => by cases e
  | _ :: _, [], e, _ => by cases e
  | (g, x) :: ys, (g', x') :: fs, e, rs => by
    rw [List.map_cons, List.map_cons] at e
    injection e with e1 e2
    have e1 : g = g' := e1
    subst e1
    cases rs with
    | cons h1 t =>
      unfold putF dputF
      by_cases q : g = f
      · rw [if_pos q, if_pos q]
        exact ⟨by rw [List.map_cons, List.map_cons, e2], .cons h t⟩
      · rw [if_neg q, if_neg q]
        obtain ⟨i1, i2⟩ := putF_rel (f := f) h e2 t
        exact ⟨by rw [List.map_cons, List.map_cons, i1], .cons h1 i2⟩
def f_fld (C : Addr) (f : Str) : D1 := fun x M Q => match x with
  | .obj a => (match M a with
    | some (.ins C' fs) => C' = C ∧ (match dget fs f with
      | some d => Q d M
      | none => False)
    | _ => False)
  | _ => False
def dFld (C : Addr) (f : Str) (da : DE) : DE := fun ρ M Q => da ρ M fun x M1 => f_fld C f x M1 Q
theorem pd_fld (c : Cls X.K C) (n : NoAttr X.K C f) (ha : PD X F e da) (hb : attributeBase e f X.env (eval e X.env) = eval e X.env := by rfl) : PD X F (.Attribute e f pos) (dFld C f da) :=
  pe_imp (pe_fld ha hb) fun σ H Q ⟨G, ρ, M, post, hr, sr, d, k⟩ => ⟨G, ρ, M, _, hr, sr, d, fun G1 H1 M1 x v s1 h1 rx q1 => by
    unfold f_fld at q1
    cases v with
    | obj a =>
      cases rx
      dsimp only at q1
      cases qa : M1 a with
      | none => rw [qa] at q1; exact q1.elim
      | some cc =>
        rw [qa] at q1
        cases cc with
        | ins C' fs =>
          obtain ⟨rfl, q1⟩ := q1
          obtain ⟨dx, ys, h2, h3, h4⟩ := (h1.cell a _ qa).1
          cases ql : dget fs f with
          | none => rw [ql] at q1; exact q1.elim
          | some dd =>
            rw [ql] at q1
            obtain ⟨z, h5, h6⟩ := Reps.dget h3 h4 ql
            exact ⟨a, _, dx, ys, z, rfl, h2, c, n, by rw [lookup_dget]; exact h5, (k.later s1).here h1 h6 q1⟩
        | _ => exact q1.elim
    | _ => exact q1.elim⟩
def f_setF (C : Addr) (f : Str) : D → D → Mem → (Mem → Prop) → Prop := fun x y M Q => match x with
  | .obj a => (match M a with
    | some (.ins C' fs) => C' = C ∧ fs.length < 1000 ∧ Q (st M a (.ins C (dputF f y fs)))
    | _ => False)
  | _ => False
def dsFld (C : Addr) (f : Str) (do_ dv : DE) : DS := fun E ρ M => dv ρ M fun y M1 => do_ ρ M1 fun x M2 => f_setF C f x y M2 fun M3 => E.nx ρ M3
theorem pds_fld (c : Cls X.K C) (n : NoAttr X.K C f) (ho : PD X F o do_) (hv : PD X F value dv) (hs : swapsWith value (some (.Attribute o f pos')) pos.line X.env = pure false := by rfl) : PDS X F (.Assign [.Attribute o f pos'] value pos) (dsFld C f do_ dv) :=
  ps_imp (ps_fld ho hv hs) fun D σ H ⟨G, ρ, M, E, hr, sr, d, q⟩ => ⟨G, ρ, M, _, hr, sr, d, fun G1 H1 M1 y w s1 h1 ry q1 => ⟨G1, ρ, M1, _, h1, sr.mono s1, q1, fun G2 H2 M2 x v s2 h2 rx q2 => by
    have q2 : f_setF C f v w M2 (fun M3 => E.nx ρ M3) := q2
    unfold f_setF at q2
    cases v with
    | obj a =>
      cases rx
      dsimp only at q2
      cases qa : M2 a with
      | none => rw [qa] at q2; exact q2.elim
      | some cc =>
        rw [qa] at q2
        cases cc with
        | ins C' fs =>
          obtain ⟨rfl, hl, q2⟩ := q2
          obtain ⟨dx, ys, h3, h4, h5⟩ := (h2.cell a _ qa).1
          have el : ys.length = fs.length := by simpa using congrArg List.length h4
          obtain ⟨i1, i2⟩ := putF_rel (f := f) (ry.mono s2) h4 h5
          exact ⟨a, _, dx, ys, rfl, h3, c, n, by omega, q.nx G2 σ _ ρ _ (s1.trans s2) (h2.write (c' := .ins _ _) qa ⟨dx, _, upd_same, i1, i2⟩) (sr.mono (s1.trans s2)) q2⟩
        | _ => exact q2.elim
    | _ => exact q2.elim⟩⟩

/-! ### methods -/
structure CalM (P : Program) (w : World) (K : Fg) (mg : Str → Option Value) (base : Heap) (k : Nat) (C : Addr) (m : Str) (sp : DSp) : Prop where
  ex : ∃ (g : Addr) (fd : FuncData) (ps : List Str), FnOk P w K mg base (L2.CX P w) k g fd ps (LSp K sp) ∧ Meth K C m g ∧ Binds K fd ps []
def insOf (C : Addr) (m : Str) (x : D) (M : Mem) : Prop := ∃ a fs, x = .obj a ∧ M a = some (.ins C fs) ∧ dget fs m = none
def dMeth (C : Addr) (m : Str) (sp : DSp) (pw : DW) (da : DE) (dA : DA) : DE := fun ρ M Q => da ρ M fun x M1 => insOf C m x M1 ∧ dA ρ M1 fun vs M2 => sp (x :: vs) M2 Q fun x M3 => pw x ρ M3
variable {k : Nat} {sp : DSp} {pw : DW} {apos : Pos} {pl : Sem Bool}
theorem insOf.to {K : Fg} {G H : Hp} {M : Mem} {v : V} {x : D} (hr : HRel K F G H M) (rx : Rep K G v x) (h : insOf C m x M) : ∃ a dx fs, v = .ref a ∧ H a = some (.ins C dx fs) ∧ fs.lookup m = none := by
  obtain ⟨a, fs, rfl, h1, h2⟩ := h
  cases rx
  obtain ⟨dx, ys, h3, h4, h5⟩ := (hr.cell a _ h1).1
  exact ⟨a, dx, ys, rfl, h3, by rw [lookup_dget]; exact Reps.dnone h4 h2⟩
theorem pd_meth (c : Cls X.K C) (cm : CalM X.prog X.w X.K X.mg X.base k C m sp) (hr : Room k X.A) (tk : TkD X F pw) (ho : PD X F o do_) (ha : PDA X F (e :: es) dA)
    (hst : starEach (e :: es) X.env = (false, eval e X.env) :: starEach es X.env := by rfl) (hpl : (backTo pos (starEach es X.env)).any (·.1) = false := by rfl)
    (ht : eval (.Call (.Attribute o m apos) (e :: es) [] pos) X.env = (do
      let ov ← eval o X.env
      standAt apos.atName
      let (f, first) ← holding [ov] (getMethod ov m pl)
      callWith pos f first (backTo pos (starEach (e :: es) X.env)) (backToKw pos (keywordEach [] X.env))) := by rfl) :
    PD X F (.Call (.Attribute o m apos) (e :: es) [] pos) (dMeth C m sp pw do_ dA) := by
  obtain ⟨g, fd, ps, h1, h2, h3⟩ := cm.ex
  refine ⟨fun pins s σ H Q I hq => ?_⟩
  obtain ⟨G, ρ, M, post, hrr, sr, d, kk⟩ := hq
  refine PySem.W.methodCall_KW (pl := pl) (thn (ho.run pins s σ H _ I ⟨G, ρ, M, _, hrr, sr, d, fun G1 H1 M1 x v s1 hh1 rx q1 => (⟨G1, M1, v, s1, hh1, rx, q1⟩ : ∃ G1 M1 v, Same G G1 ∧ HRel X.K F G1 H1 M1 ∧ Rep X.K G1 x v ∧ insOf C m v M1 ∧ dA ρ M1 fun vs M2 => sp (v :: vs) M2 post fun x M3 => pw x ρ M3)⟩) fun u s1 ⟨x, H1, I1, rx0, G1, M1, v, ss1, hh1, rx, qi, q1⟩ => ?_) ht
  obtain ⟨a, dx, fs, rfl, e2, e3⟩ := qi.to hh1 rx
  obtain rfl : u = Value.ref a := rx0
  refine getmeth_ok I1 e2 c h2 e3 ?_
  refine PySem.W.callWith_K (first := [.ref a]) (h₀ := X.base) I1.ok.mod.kin h2.kp (thn (ha.run pos pins s1 σ H1 _ I1 ⟨G1, ρ, M1, _, hh1, sr.mono ss1, q1, fun G2 H2 M2 xs vs s2 hh2 rs q2 => (⟨G2, M2, vs, s2, hh2, rs, q2⟩ : ∃ G2 M2 vs, Same G1 G2 ∧ HRel X.K F G2 H2 M2 ∧ Reps X.K G2 xs vs ∧ sp (v :: vs) M2 post fun x M3 => pw x ρ M3)⟩) fun us s2 ⟨xs, H2, I2, r, G2, M2, vs, ss2, hh2, rs, q2⟩ => ⟨I2.kIn, ?_⟩) hst hpl
  exact run_fnS (E := WE (LW X.K F pw)) (us := .ref a :: us) (vs := .ref a :: xs) h1 hr h3 (passAt tk σ) I2 (.cons rfl r) ⟨F.R, G2, v :: vs, M2, post, _, hh2.at, .cons (rx.mono ss2) rs, q2, fun G3 H3 M3 y u s3 hh3 r q3 => kk G3 H3 M3 y u (ss1.trans (ss2.trans s3)) (hh2.back hh3) r q3,
    fun G3 H3 M3 c o fs s3 hh3 xr q3 => ⟨G3, ρ, M3, fs, hh2.back hh3, sr.mono (ss1.trans (ss2.trans s3)), xr, q3⟩⟩
theorem pd_meth0 (c : Cls X.K C) (cm : CalM X.prog X.w X.K X.mg X.base k C m sp) (hr : Room k X.A) (tk : TkD X F pw) (ho : PD X F o do_)
    (ht : eval (.Call (.Attribute o m apos) [] [] pos) X.env = (do
      let ov ← eval o X.env
      standAt apos.atName
      let (f, first) ← holding [ov] (getMethod ov m pl)
      callWith pos f first (backTo pos (starEach [] X.env)) (backToKw pos (keywordEach [] X.env))) := by rfl) :
    PD X F (.Call (.Attribute o m apos) [] [] pos) (dMeth C m sp pw do_ daNil) := by
  obtain ⟨g, fd, ps, h1, h2, h3⟩ := cm.ex
  refine ⟨fun pins s σ H Q I hq => ?_⟩
  obtain ⟨G, ρ, M, post, hrr, sr, d, kk⟩ := hq
  refine PySem.W.methodCall_KW (pl := pl) (thn (ho.run pins s σ H _ I ⟨G, ρ, M, _, hrr, sr, d, fun G1 H1 M1 x v s1 hh1 rx q1 => (⟨G1, M1, v, s1, hh1, rx, q1⟩ : ∃ G1 M1 v, Same G G1 ∧ HRel X.K F G1 H1 M1 ∧ Rep X.K G1 x v ∧ insOf C m v M1 ∧ sp [v] M1 post fun x M3 => pw x ρ M3)⟩) fun u s1 ⟨x, H1, I1, rx0, G1, M1, v, ss1, hh1, rx, qi, q1⟩ => ?_) ht
  obtain ⟨a, dx, fs, rfl, e2, e3⟩ := qi.to hh1 rx
  obtain rfl : u = Value.ref a := rx0
  refine getmeth_ok I1 e2 c h2 e3 ?_
  exact PySem.W.callWith_K0 (first := [.ref a]) I1.kIn h2.kp (run_fnS (E := WE (LW X.K F pw)) (us := [.ref a]) (vs := [.ref a]) h1 hr h3 (passAt tk σ) I1 (.cons rfl .nil) ⟨F.R, G1, [v], M1, post, _, hh1.at, .cons rx .nil, q1, fun G3 H3 M3 y u s3 hh3 r q3 => kk G3 H3 M3 y u (ss1.trans s3) (hh1.back hh3) r q3,
    fun G3 H3 M3 c o fs s3 hh3 xr q3 => ⟨G3, ρ, M3, fs, hh1.back hh3, sr.mono (ss1.trans s3), xr, q3⟩⟩)
/-- a new instance -/
structure CalI (P : Program) (w : World) (K : Fg) (mg : Str → Option Value) (base : Heap) (k : Nat) (x : Str) (sp : DSp) : Prop where
  ex : ∃ (g : Addr) (fd : FuncData) (ps : List Str), FnOk P w K mg base (L2.CX P w) k g fd ps (LSp K sp) ∧ Mk K (He.ga K x) g ∧ Binds K fd ps []
  gl : mg x = some (.ref (He.ga K x))
def dMake (C : Addr) (sp : DSp) (dA : DA) : DE := fun ρ M Q => dA ρ M fun vs M1 => ∀ p, M1 p = none → sp (.obj p :: vs) (Dl.st M1 p (.ins C [])) (fun v M2 => v = .non ∧ Q (.obj p) M2) fun _ _ => False
theorem HRel.made {K : Fg} {G H : Hp} {M : Mem} {a dx : Addr} (h : HRel K F G H M) (e : H a = none) (e2 : H dx = none) (ne : dx ≠ a) : HRel K F G (upd (upd H dx (.own a)) a (.ins C dx [])) (Dl.st M a (.ins C [])) := by
  obtain ⟨hm, hg, hrr⟩ := h.mnone e2
  have h1 : HRel K F G (upd H dx (.own a)) M := by
    refine ⟨h.base, fun b u q => ?_, fun b u q => ?_, h.rgt, fun b c q => ?_⟩
    · rw [upd_ne (ne_of_none q hg)]; exact h.sub b u q
    · rw [upd_ne (ne_of_none q hrr)]; exact h.rs b u q
    · obtain ⟨h1, h2, h3⟩ := h.cell b c q
      have hb : b ≠ dx := fun z => by rw [z, hm] at q; cases q
      exact ⟨h1.mono (Same.refl _) (upd_ne hb), h2, h3⟩
  exact h1.newC (c := .ins C []) (by rw [upd_ne (fun z => ne z.symm)]; exact e) ⟨dx, [], upd_same, rfl, .nil⟩
theorem pd_make0 (cm : CalI X.prog X.w X.K X.mg X.base k x sp) (hr : Room (k + 1) X.A) (hg : Gl X x := by rfl) (hdb : (x == ("__debug__" : Str)) = false := by decide) : PD X F (.Call (.Name x p) [] [] pos) (dMake (He.ga X.K x) sp daNil) := by
  obtain ⟨g, fd, ps, h1, h2, h3⟩ := cm.ex
  refine pe_imp (pe_make0 (E := E0) (dvs := []) (ds := []) h2 h1 hr hg cm.gl h3 .nil passL hdb) fun σ H Q ⟨G, ρ, M, post, hr, sr, d, kk⟩ => ?_
  intro a dx ea ed ne
  have hm := hr.made (C := He.ga X.K x) ea ed ne
  refine ⟨F.R, G, [.obj a], _, _, _, hm.at, .cons .obj .nil, d a (hr.mnone ea).1, fun G3 H3 M3 y u s3 hh3 r q3 => ?_, fun G3 H3 M3 c o fs s3 hh3 xr q3 => q3⟩
  obtain ⟨rfl, q3⟩ := q3
  cases r
  exact ⟨rfl, kk G3 H3 M3 _ _ s3 (hm.back hh3) .obj q3⟩

/-! ### try .. except C: .. -/
def dTryO (K : Fg) (c : Value) (db : DW → DS) (dsu : DX → DS) (pw : DW) : DS := fun E ρ M =>
  db (fun x ρ' M' => ∃ b, PySem.W.exmOne K x.cls c = some b ∧ (b = true → dsu x E ρ' M') ∧ (b = false → pw x ρ' M')) E ρ M
variable {c : Value} {body suite : List Stmt} {b₀ : Stmt} {db : DW → DS} {dsu : DX → DS}
theorem pds_tryo (hs : X.stack = X.env :: X.outer) (hf : X.env.frame = some X.env.locals) (hc : Names X x c) (tk : TkD X F pw)
    (hb : ∀ (F' : Fm) (pw' : DW) (pn : List (Addr × Obj)) (xe : Value → Shared → Prop), TkD (X.tr pn xe) F' pw' → PassesOwn (model X.prog X.w) X.A X.env xe → PDSs (X.tr pn xe) F' body (db pw'))
    (hsu : ∀ (F' : Fm) (a : Addr) (oe : Obj) (cls : Value) (o : Option Addr) (fs : List (Str × D)) (pn : List (Addr × Obj)), Zc cls o oe → (∃ vs, oe.data = .fields vs) → XF X.K F' o fs → PDSs (X.suite a ((a, oe) :: pn)) F' (b₀ :: suite) (dsu ⟨cls, fs⟩)) :
    PDS X F (.Try body [.ExceptHandler (some (.Name x np)) none (b₀ :: suite) pos'] [] [] pos) (dTryO X.K c db dsu pw) := by
  refine ps_imp (ps_try_only (Wout := LW X.K F pw) (tb := fun W Dn σ H => ∃ F' pw', (∀ c o σ H, LW X.K F' pw' c o σ H → W c o σ H) ∧ LS X.K F' (db pw') Dn σ H)
    (ts := fun a cls o Dn σ H => ∃ F' fs, XF X.K F' o fs ∧ LS X.K F' (dsu ⟨cls, fs⟩) Dn σ H) hs hf hc tk ?_ ?_) ?_
  · exact fun W pn xe tW hp => ⟨fun pins s σ H Dn I ⟨F', pw', hle, ls⟩ => (hb F' pw' pn xe (Takes.imp tW hle) hp).run pins s σ H Dn I ls⟩
  · exact fun a oe cls o pn hz hv => ⟨fun pins s σ H Dn I ⟨F', fs, xf, ls⟩ => (hsu F' a oe cls o fs pn hz hv xf).run pins s σ H Dn I ls⟩
  · rintro Dn σ H ⟨G, ρ, M, E, hr, sr, d, q⟩
    refine ⟨⟨G, F.R⟩, (fun x ρ' M' => ∃ b, PySem.W.exmOne X.K x.cls c = some b ∧ (b = true → dsu x E ρ' M') ∧ (b = false → pw x ρ' M')), fun cls o σ' H' hh => ?_, G, ρ, M, E, hr.at, sr, d, ⟨fun G' σ' H' ρ' M' s h => q.nx G' σ' H' ρ' M' s (hr.back h), fun G' H' M' x v s h => q.rt G' H' M' x v s (hr.back h), fun G' σ' H' ρ' M' s h => q.bk G' σ' H' ρ' M' s (hr.back h), fun G' σ' H' ρ' M' s h => q.ct G' σ' H' ρ' M' s (hr.back h)⟩⟩
    obtain ⟨G', ρ', M', fs, hr', sr', xr, b, e1, yes, no⟩ := hh
    refine ⟨b, e1, fun hb a ha => ?_, fun hb => ?_⟩
    · have hrF := hr.back hr'
      obtain ⟨G2, s2, h2, xf⟩ := xf_of hrF xr
      have sb : Same G G2 := Same.trans hr'.base s2
      have bk : ∀ {G3 H3 : Hp} {M3 : Mem}, HRel X.K ⟨G2, F.R⟩ G3 H3 M3 → HRel X.K F G3 H3 M3 := fun h3 => hr.back ⟨Same.trans sb h3.base, h3.sub, h3.rs, h3.rgt, h3.cell⟩
      refine ⟨⟨G2, F.R⟩, fs, xf, G2, ρ', M', E, h2, sr'.mono s2, yes hb, ⟨fun G3 σ3 H3 ρ3 M3 s3 h3 sr3 q3 => ?_, fun G3 H3 M3 x v s3 h3 => q.rt G3 H3 M3 x v (sb.trans s3) (bk h3), fun G3 σ3 H3 ρ3 M3 s3 h3 sr3 q3 => ?_, fun G3 σ3 H3 ρ3 M3 s3 h3 sr3 q3 => ?_⟩⟩
      · exact q.nx G3 _ H3 _ M3 (sb.trans s3) (bk h3) sr3 q3
      · exact q.bk G3 _ H3 _ M3 (sb.trans s3) (bk h3) sr3 q3
      · exact q.ct G3 _ H3 _ M3 (sb.trans s3) (bk h3) sr3 q3
    · exact ⟨G', ρ', M', fs, hr.back hr', sr', xr, no hb⟩

/-! ### join -/
def strsD : List D → Option (List Str)
  | [] => some []
  | .str i :: r => (strsD r).map (i :: ·)
  | _ => none
theorem strsD_ok : ∀ {ds : List D} {ns : List Str}, strsD ds = some ns → ds = ns.map D.str
  | [], _, e => by simp only [strsD] at e; cases e; rfl
  | d :: r, ns, e => by
    cases d <;> simp only [strsD] at e <;> first
      | (cases e; done)
      | (obtain ⟨ms, e1, e2⟩ := Option.map_eq_some_iff.mp e; subst e2; rw [strsD_ok e1]; rfl)
def f_join : DM := fun v vs M Q => match v, vs with
  | .str a, [w] => (match seqD w M with
    | some ds => (match strsD ds with
      | some ys => (ys.map (·.length)).sum + ys.length * a.length ≤ 16777216 ∧ Q (.str (Txt.join a ys)) M
      | none => False)
    | none => False)
  | _, _ => False
theorem ref_join {K : Fg} : RefM K F (fun x xs H Q => ∃ a p, ∃ ys : List Str, x = .str a ∧ xs = [.ref p] ∧ (SqL K H p (ys.map V.str) ∨ SqT K H p (ys.map V.str)) ∧
    (ys.map (·.length)).sum + ys.length * a.length ≤ 16777216 ∧ Q (.str (Txt.join a ys)) H) f_join := by
  intro G H M x v xs vs post Q hr rx rs d k
  unfold f_join at d
  split at d
  · rename_i a w
    cases rx
    cases rs with
    | cons ry t =>
      cases t
      cases e1 : seqD w M with
      | none => rw [e1] at d; exact d.elim
      | some ds =>
        rw [e1] at d
        dsimp only at d
        cases e2 : strsD ds with
        | none => rw [e2] at d; exact d.elim
        | some ys =>
          rw [e2] at d
          obtain ⟨b, zs, rfl, hq, rr⟩ := seqD_ok hr ry e1
          rw [strsD_ok e2] at rr
          have := rr.of_strs
          subst this
          exact ⟨a, b, ys, rfl, rfl, hq, d.1, k.here hr .str d.2⟩
  · exact d.elim
theorem pd_join {cpos apos : Pos} {a : Expr} (ho : PD X F a da) (ha : PDA X F [e] dA)
    (hbase : attributeBase a "join" X.env (eval a X.env) = eval a X.env := by rfl)
    (hfew : ((backTo cpos (starEach [e] X.env)).all (fun x => !x.1) && (backToKw cpos (keywordEach [] X.env)).all (fun x => x.1.isSome)
      && decide (([e] : List Expr).length + ([] : List Keyword).length + (if ([] : List Keyword).isEmpty then 0 else 1) < 30)) = true := by rfl)
    (hline : (apos.endLine == cpos.line) = true := by rfl) (hs : starEach [e] X.env = (false, eval e X.env) :: starEach [] X.env := by rfl) :
    PD X F (.Call (.Attribute a "join" apos) [e] [] cpos) (dMt "str" f_join da dA) :=
  pd_mt PySem.F.plainAttrs_str PySem.F.slot_str_join PySem.F.type_str_join mt_join ref_join ho ha hbase hfew hline hs rfl

/-! ### isinstance(C('m'), T), C an own exception class -/
theorem HRel.ghost {K : Fg} {G H : Hp} {M : Mem} {a : Addr} {o : HO} (h : HRel K F G H M) (e : H a = none) : HRel K F G (upd H a o) M := by
  obtain ⟨hm, hg, hrr⟩ := h.mnone e
  refine ⟨h.base, fun b u q => ?_, fun b u q => ?_, h.rgt, fun b c q => ?_⟩
  · rw [upd_ne (ne_of_none q hg)]; exact h.sub b u q
  · rw [upd_ne (ne_of_none q hrr)]; exact h.rs b u q
  · obtain ⟨h1, h2, h3⟩ := h.cell b c q
    have hb : b ≠ a := fun z => by rw [z, hm] at q; cases q
    exact ⟨h1.mono (Same.refl _) (upd_ne hb), h2, h3⟩
def rIsX (K : Fg) (D : Addr) : List V → Hp → VK → Prop := fun xs H Q => ∃ (a : Addr) (c : V) (cv : Value) (b : Bool), xs = [.ref a, c] ∧ H a = some (ExO (.ref D) a) ∧ (∀ u, RelV c u → u = cv) ∧ PySem.W.kitOne K (.ref D) cv = some b ∧ Q (.bl b) H
theorem call_isX {D : Addr} (C : ExcC X.K D) : CallR X (.builtin "isinstance") (rIsX X.K D) := by
  intro pins s σ H xs us Q I r h
  obtain ⟨a, c, cv, b, rfl, ea, hcv, e, q⟩ := h
  cases r with
  | cons rx rr =>
    cases rr with
    | cons rt rr =>
      cases rr
      cases rx
      have ec := hcv _ rt
      subst ec
      obtain ⟨⟨oe, vs, ho, hz, hd, _⟩, _, _⟩ := I.hok a _ ea
      have J : PySem.W.InstAt s.heap a oe D none := by
        obtain ⟨oc, od, oda, osl⟩ := oe
        obtain ⟨h1, h2⟩ := hz
        dsimp only at h1 h2 hd
        subst h1 h2 hd
        exact ⟨ho, rfl, rfl, trivial⟩
      exact PySem.W.kia_one (PySem.W.handS_kitx_exc C.hg C.hk C.hs C.hd C.ha C.hn C.ht C.hm) I.kIn J e (fun z => nomatch z) fun tk => ⟨.bl b, H, I.kept (t' := tk) fun _ _ z => z, rfl, q⟩
def dIsX (b : Bool) : DE := fun _ M Q => Q (.bl b) M
theorem pd_isX {C : Addr} {bmB : List Value} {B newId initId : String} {x T : Str} {mm : Str} {jj : Nat} {n : String} {b : Bool} {p1 p2 p3 p4 p5 : Pos} (Fx : ExcBaseFacts B newId initId bmB) (q : PySem.W.excIn X.K C bmB newId = true) (gC : X.mg x = some (.ref C)) (kC : PySem.W.keepIn X.K (.ref C) = true)
    (hC : ExcC X.K C) (hT : X.mg T = none) (hi : X.mg "isinstance" = none) (hk : PySem.W.kitOne X.K (.ref C) (.type n) = some b) (hg : Gl X x := by rfl) (hgT : Gl X T := by rfl) (hgi : Gl X "isinstance" := by rfl) (hdb : (x == ("__debug__" : Str)) = false := by decide)
    (hv : bootBuiltins T = some (.type n) := by decide +kernel) (hn : T ≠ "__name__" := by decide) (hdT : (T == ("__debug__" : Str)) = false := by decide)
    (hs : starEach [.Constant (.str mm) jj p1] X.env = (false, eval (.Constant (.str mm) jj p1) X.env) :: starEach [] X.env := by rfl)
    (he : starEach [.Call (.Name x p2) [.Constant (.str mm) jj p1] [] p3, .Name T p4] X.env = (false, eval (.Call (.Name x p2) [.Constant (.str mm) jj p1] [] p3) X.env) :: starEach [.Name T p4] X.env := by rfl)
    (he2 : starEach [.Name T p4] X.env = (false, eval (.Name T p4) X.env) :: starEach [] X.env := by rfl) (hpl : (backTo pos (starEach [.Name T p4] X.env)).any (·.1) = false := by rfl) :
    PD X F (.Call (.Name "isinstance" p5) [.Call (.Name x p2) [.Constant (.str mm) jj p1] [] p3, .Name T p4] [] pos) (dIsX b) :=
  pe_imp (pe_callB (call_isX hC) hgi hi (by decide +kernel) (pa_cons (pe_exc1 Fx q gC kC hg pe_str hs hdb) (pa_cons (pe_bltn (v := .ty n) hgT hT hv rfl hn hdT) pa_nil he2) he) (by decide) (by decide) he hpl)
    fun σ H Q ⟨G, ρ, M, post, hr, sr, d, k⟩ => by
      intro a ha
      refine ⟨a, .ty n, .type n, b, rfl, upd_same, fun u hu => hu, hk, ?_⟩
      exact k _ _ M _ _ (Same.refl _) (hr.ghost ha) .bl d
end
/-! ### methods told by the head -/
structure DfM (K : Fg) (c m : Str) (qual : Str) (stm : Stmt) : Prop where
  ex : ∃ fd, FunD K m qual (defArgs stm) (defBody stm) (defScope stm) [] [] (He.ma K (He.ga K c) m) fd
section
variable {P : Program} {w : World} {K : Fg} {mg : Str → Option Value} {base : Heap}
theorem calM_d {c m qual : Str} {stm : Stmt} {N ps : List Str} {k : Nat} {sp : DSp} (Dx : DfM K c m qual stm) (Mt : Meth K (He.ga K c) m (He.ma K (He.ga K c) m)) (S : FnScope N ps (defScope stm))
    (hb : ∀ (kV doc pm : Value) (an : Option Addr) (cdv ct : Value) (us : List Value), us.length = ps.length → bindArgs (PySem.W.fnOf m qual (defArgs stm) (defBody stm) (defScope stm) .none kV doc pm an cdv ct) ⟨us, []⟩ = pure (ps.zip us))
    (len : ∀ ds M Q E, sp ds M Q E → ds.length = ps.length) (d : DW → DS) (hd : Der P w K mg base N qual stm k d)
    (hs : ∀ ds M post pox, sp ds M post pox → d (fun x _ M => pox x M) { nx := fun _ M => post .non M, rt := post } (dstart N.length ds) M) : CalM P w K mg base (k + 1) (He.ga K c) m sp := by
  obtain ⟨fd, F⟩ := Dx.ex
  exact ⟨⟨_, fd, ps, fn_dD F S len d hd hs, Mt, F.bindsN hb⟩⟩
theorem calI_d {c qual : Str} {stm : Stmt} {N ps : List Str} {k : Nat} {sp : DSp} (Dx : DfM K c "__init__" qual stm) (Mt : Mk K (He.ga K c) (He.ma K (He.ga K c) "__init__")) (gl : mg c = some (.ref (He.ga K c))) (S : FnScope N ps (defScope stm))
    (hb : ∀ (kV doc pm : Value) (an : Option Addr) (cdv ct : Value) (us : List Value), us.length = ps.length → bindArgs (PySem.W.fnOf "__init__" qual (defArgs stm) (defBody stm) (defScope stm) .none kV doc pm an cdv ct) ⟨us, []⟩ = pure (ps.zip us))
    (len : ∀ ds M Q E, sp ds M Q E → ds.length = ps.length) (d : DW → DS) (hd : Der P w K mg base N qual stm k d)
    (hs : ∀ ds M post pox, sp ds M post pox → d (fun x _ M => pox x M) { nx := fun _ M => post .non M, rt := post } (dstart N.length ds) M) : CalI P w K mg base (k + 1) c sp := by
  obtain ⟨fd, F⟩ := Dx.ex
  exact ⟨⟨_, fd, ps, fn_dD F S len d hd hs, Mt, F.bindsN hb⟩, gl⟩
/-- a promise that asks for nothing, at no depth -/
theorem cal_0 {x : Str} {stm : Stmt} {ps : List Str} (Dx : Df K mg x stm)
    (hb : ∀ (kV doc pm : Value) (an : Option Addr) (cdv ct : Value) (us : List Value), us.length = ps.length → bindArgs (PySem.W.fnOf x x (defArgs stm) (defBody stm) (defScope stm) .none kV doc pm an cdv ct) ⟨us, []⟩ = pure (ps.zip us)) {sp : DSp} (hf : ∀ ds M Q E, sp ds M Q E → False) : Cal P w K mg base 0 x sp := by
  obtain ⟨fd, F⟩ := Dx.ex
  have no : ∀ vs H Q E, LSp K sp vs H Q E → False := fun vs H Q E ⟨_, _, _, _, _, _, _, _, h, _⟩ => hf _ _ _ _ h
  exact ⟨⟨_, fd, ps, ⟨fun vs H Q E h => (no _ _ _ _ h).elim, fun A outer s H args us vs Q E _ _ _ _ h => (no _ _ _ _ h).elim⟩, Dx.g, F.kp, F.bindsN hb⟩⟩
end
end Dl

/-! Dl12: sorted(..) of a list of tuples of ints and texts, all of one shape. -/
namespace Dl
open L2 PySem PyProof.Rows PySem.Spec

/-! ### the order -/
def ltK : Key → Key → Bool
  | .inl i, .inl j => decide (i < j)
  | .inr x, .inr y => decide (x.cps.toList < y.cps.toList)
  | .inl _, .inr _ => true
  | .inr _, .inl _ => false
theorem ltK_irr (a : Key) : ltK a a = false := by
  cases a with
  | inl i => exact decide_eq_false (Int.lt_irrefl i)
  | inr x => exact decide_eq_false (List.lt_irrefl x.cps.toList)
theorem str_ext {x y : Str} (h : x.cps.toList = y.cps.toList) : x = y := Str.ext' (Array.toList_inj.mp h)
theorem ltK_trans {a b c : Key} (h : ltK a b = true) (h' : ltK b c = true) : ltK a c = true := by
  cases a <;> cases b <;> cases c <;> simp only [ltK, decide_eq_true_eq] at h h' ⊢ <;> first
    | (cases h; done)
    | (cases h'; done)
    | omega
    | exact List.lt_trans h h'
    | trivial
theorem ltK_tri {a b : Key} (h : a ≠ b) (h' : ltK a b = false) : ltK b a = true := by
  cases a <;> cases b <;> simp only [ltK, decide_eq_true_eq, decide_eq_false_iff_not] at h' ⊢
  · rename_i i j
    have : i ≠ j := fun z => h (by rw [z])
    omega
  · cases h'
  · rename_i x y
    have h1 : y.cps.toList ≤ x.cps.toList := List.not_lt.mp h'
    rcases Decidable.em (y.cps.toList < x.cps.toList) with h2 | h2
    · exact h2
    · have h3 : x.cps.toList ≤ y.cps.toList := List.not_lt.mp h2
      exact absurd (congrArg Sum.inr (str_ext (List.le_antisymm h3 h1))) h
def lexK : List Key → List Key → Bool
  | [], [] => false
  | [], _ :: _ => true
  | _ :: _, [] => false
  | a :: as, b :: bs => if a = b then lexK as bs else ltK a b
theorem lexK_irr : ∀ a : List Key, lexK a a = false
  | [] => rfl
  | a :: as => by unfold lexK; rw [if_pos rfl]; exact lexK_irr as
theorem lexK_trans : ∀ {a b c : List Key}, lexK a b = true → lexK b c = true → lexK a c = true
  | [], [], _, h, _ => by cases h
  | [], _ :: _, [], _, h => by cases h
  | [], _ :: _, _ :: _, _, _ => rfl
  | _ :: _, [], _, h, _ => by cases h
  | _ :: _, _ :: _, [], _, h => by cases h
  | a :: as, b :: bs, c :: cs, h, h' => by
    unfold lexK at h h' ⊢
    by_cases e : a = b
    · subst e
      rw [if_pos rfl] at h
      by_cases e2 : a = c
      · rw [if_pos e2] at h' ⊢
        exact lexK_trans h h'
      · rw [if_neg e2] at h' ⊢
        exact h'
    · rw [if_neg e] at h
      by_cases e2 : b = c
      · subst e2
        rw [if_neg e]
        exact h
      · rw [if_neg e2] at h'
        have t := ltK_trans h h'
        rw [if_neg (fun z => by subst z; rw [ltK_irr] at t; cases t)]
        exact t
theorem lexK_tri : ∀ {a b : List Key}, a ≠ b → lexK a b = false → lexK b a = true
  | [], [], h, _ => absurd rfl h
  | [], _ :: _, _, h => by cases h
  | _ :: _, [], _, _ => rfl
  | a :: as, b :: bs, h, h' => by
    unfold lexK at h' ⊢
    by_cases e : a = b
    · subst e
      rw [if_pos rfl] at h' ⊢
      exact lexK_tri (fun z => h (by rw [z])) h'
    · rw [if_neg e] at h'
      rw [if_neg (fun z => e z.symm)]
      exact ltK_tri e h'
theorem lexK_asym {a b : List Key} (h : lexK a b = true) : lexK b a = false := by
  cases q : lexK b a with
  | false => rfl
  | true =>
    have := lexK_trans h q
    rw [lexK_irr] at this; cases this
theorem swo_lexK {α : Type} (k : α → List Key) : SrtO.Swo fun x y => lexK (k x) (k y) := by
  refine ⟨fun x y h => lexK_asym h, fun x y z h1 h2 => ?_⟩
  cases q : lexK (k z) (k x) with
  | false => rfl
  | true =>
    by_cases e : k x = k y
    · rw [e] at q; rw [q] at h2; cases h2
    · have h3 := lexK_tri (fun z => e z.symm) h1
      have := lexK_trans q h3
      rw [this] at h2; cases h2
/-- of one shape: as long, at each place ints or texts alike -/
inductive Alike : List Key → List Key → Prop
  | nil : Alike [] []
  | int {i j as bs} (t : Alike as bs) : Alike (.inl i :: as) (.inl j :: bs)
  | str {x y as bs} (t : Alike as bs) : Alike (.inr x :: as) (.inr y :: bs)
section
variable {prog : Program} {w : World} {A : Around} {s : Shared}
theorem katK {Q : Bool → Shared → Prop} : ∀ {ks ms : List Key} {its jts : List Value} (i : Nat), Alike ks ms → L2.Vals (ks.map kV) its → L2.Vals (ms.map kV) jts → Q (lexK ks ms) s → PySem.W.KatLex prog w A true false Q (its.zip jts) i s
  | _, _, _, _, i, .nil, v, v', h => by
    cases v; cases v'
    exact PySem.W.kat_nil h
  | _, _, _, _, i, .int (i := a) (j := b) (as := as) (bs := bs) t, v, v', h => by
    cases v with
    | cons r1 v =>
      cases v' with
      | cons r2 v' =>
        obtain ⟨t1, rfl⟩ := r1
        obtain ⟨t2, rfl⟩ := r2
        refine PySem.W.kat_cons (SeqAt.EqAt.int_int a t1 b t2 prog w _ _ ?_)
        refine PySem.W.kat_go (fun e1 => ?_) (fun e1 => ?_)
        · have ex : a = b := by simpa using e1
          subst ex
          unfold lexK at h
          rw [if_pos rfl] at h
          exact PySem.W.kat_yes (katK (i + 1) t v v' h)
        · have ex : ¬ a = b := by simpa using e1
          unfold lexK at h
          rw [if_neg (fun z => ex (Sum.inl.inj z))] at h
          have h : Q (decide (a < b)) s := h
          cases i with
          | zero => exact PySem.W.kat_no (oneLt_int h)
          | succ i => exact PySem.W.kat_no (PySem.W.kat_one _ _ (PyProof.Rows.lt_int h))
  | _, _, _, _, i, .str (x := a) (y := b) (as := as) (bs := bs) t, v, v', h => by
    cases v with
    | cons r1 v =>
      cases v' with
      | cons r2 v' =>
        obtain ⟨t1, rfl⟩ := r1
        obtain ⟨t2, rfl⟩ := r2
        refine PySem.W.kat_cons (SeqAt.EqAt.str_str a t1 b t2 prog w _ _ ?_)
        refine PySem.W.kat_go (fun e1 => ?_) (fun e1 => ?_)
        · have ex : a = b := by simpa using e1
          subst ex
          unfold lexK at h
          rw [if_pos rfl] at h
          exact PySem.W.kat_yes (katK (i + 1) t v v' h)
        · have ex : ¬ a = b := by simpa using e1
          unfold lexK at h
          rw [if_neg (fun z => ex (Sum.inr.inj z))] at h
          have h : Q (decide (a.cps.toList < b.cps.toList)) s := h
          cases i with
          | zero => exact PySem.W.kat_no (oneLt_str h)
          | succ i => exact PySem.W.kat_no (PySem.W.kat_one _ _ (PyProof.Rows.lt_str h))
end

/-! ### sorted -/
/-- v is a tuple of keys -/
def IsK (h : Heap) (v : Value) (ks : List Key) : Prop := ∃ a o its n, v = .ref a ∧ h.get? a = some o ∧ o.cls = .type "tuple" ∧ o.data = .seq its n ∧ L2.Vals (ks.map kV) its.toList
theorem IsK.keeps {h h' : Heap} {v : Value} {ks : List Key} (p : IsK h v ks) (k : ∀ b o, h.get? b = some o → o.cls = .type "tuple" → h'.get? b = some o) : IsK h' v ks := by
  obtain ⟨a, o, its, n, e, ho, hc, hd, hv⟩ := p
  exact ⟨a, o, its, n, e, k _ _ ho hc, hc, hd, hv⟩
theorem vals_keys : ∀ {ks ms : List Key} {its : List Value}, L2.Vals (ks.map kV) its → L2.Vals (ms.map kV) its → ks = ms
  | [], [], _, _, _ => rfl
  | [], _ :: _, _, v, v' => by cases v; cases v'
  | _ :: _, [], _, v, v' => by cases v'; cases v
  | k :: ks, m :: ms, _, v, v' => by
    cases v with
    | cons r1 t1 =>
      cases v' with
      | cons r2 t2 =>
        have e : k = m := by
          cases k <;> cases m <;> obtain ⟨a, ha⟩ := r1 <;> obtain ⟨b, hb⟩ := r2 <;> rw [ha] at hb <;> first
            | (cases hb; rfl)
            | (cases hb; done)
        rw [e, vals_keys t1 t2]
theorem IsK.uniq {h : Heap} {v : Value} {ks ms : List Key} (p : IsK h v ks) (p' : IsK h v ms) : ks = ms := by
  obtain ⟨a, o, its, n, rfl, ho, hc, hd, hv⟩ := p
  obtain ⟨a', o', its', n', e', ho', hc', hd', hv'⟩ := p'
  cases e'
  rw [ho] at ho'
  cases ho'
  rw [hd] at hd'
  cases hd'
  exact vals_keys hv hv'
open Classical in
noncomputable def keysOf (h : Heap) (v : Value) : List Key := if x : ∃ ks, IsK h v ks then Classical.choose x else []
theorem keysOf_eq {h : Heap} {v : Value} {ks : List Key} (p : IsK h v ks) : keysOf h v = ks := by
  unfold keysOf
  rw [dif_pos ⟨ks, p⟩]
  exact (Classical.choose_spec (⟨ks, p⟩ : ∃ ks, IsK h v ks)).uniq p
/-- the first places are all ints, or all texts -/
def headK (b : Bool) : List Key → Prop
  | .inl _ :: _ => b = false
  | .inr _ :: _ => b = true
  | [] => False
theorem firstsK {h : Heap} {b : Bool} {kf : Value → List Key} : ∀ {vs : List Value}, (∀ v ∈ vs, IsK h v (kf v) ∧ headK b (kf v)) → ∃ fs : List Value, PySem.W.KatTups h vs fs ∧ fs.length = vs.length ∧ ∀ f ∈ fs, (b = false → ∃ i t, f = Value.int i t) ∧ (b = true → ∃ z t, f = Value.str z t)
  | [], _ => ⟨[], PySem.W.KatTups.nil, rfl, fun _ hm => by simp at hm⟩
  | v :: vs, hp => by
    obtain ⟨fs, h1, h2, h3⟩ := firstsK (vs := vs) fun v' hm => hp v' (List.mem_cons_of_mem _ hm)
    obtain ⟨⟨a, o, its, n, e, ho, hc, hd, hv⟩, hh⟩ := hp v List.mem_cons_self
    obtain ⟨k, ks, ek⟩ : ∃ k ks, kf v = k :: ks := by
      cases q : kf v with
      | nil => rw [q] at hh; exact hh.elim
      | cons k ks => exact ⟨k, ks, rfl⟩
    rw [ek] at hv hh
    generalize hl : its.toList = il at hv
    cases hv with
    | cons r t =>
      rename_i u us
      have e0 : its[0]? = some u := by
        rw [← Array.getElem?_toList, hl]; rfl
      refine ⟨u :: fs, ?_, congrArg (· + 1) h2, fun f hf => ?_⟩
      · exact ⟨⟨a, o, its, n, e, ho, hc, hd, e0⟩, h1⟩
      · rcases List.mem_cons.mp hf with rfl | hf
        · cases k with
          | inl i =>
            obtain ⟨t, rfl⟩ := r
            have hb : b = false := hh
            subst hb
            exact ⟨fun _ => ⟨i, t, rfl⟩, fun z => nomatch z⟩
          | inr x =>
            obtain ⟨t, rfl⟩ := r
            have hb : b = true := hh
            subst hb
            exact ⟨fun z => (nomatch z), fun _ => ⟨x, t, rfl⟩⟩
        · exact h3 f hf
section
variable {prog : Program} {w : World} {A : Around} {s : Shared} {E : Value → Shared → Prop}
theorem cmpK {h0 : Heap} {vs : List Value} (hp : ∀ v ∈ vs, IsK s.heap v (keysOf h0 v)) (al : ∀ v ∈ vs, ∀ u ∈ vs, Alike (keysOf h0 v) (keysOf h0 u)) : SrtO.Cmp prog w A s (tuples' true) (fun p => p.1 ∈ vs) (SrtO.lt2 fun v u => lexK (keysOf h0 v) (keysOf h0 u)) := by
  intro p q hm hm'
  obtain ⟨a, o, its, n, e, ho, hc, hd, hv⟩ := hp _ hm
  obtain ⟨a', o', its', n', e', ho', hc', hd', hv'⟩ := hp _ hm'
  have al' := al _ hm _ hm'
  show wpAny (model prog w) A (keyLt' (tuples' true) p.1 q.1) (fun r s' => s' = s ∧ r = lexK (keysOf h0 p.1) (keysOf h0 q.1)) (fun _ _ => False) s
  generalize keysOf h0 p.1 = ks at *
  generalize keysOf h0 q.1 = ms at *
  rw [e, e']
  refine PySem.W.kat_lt ho hd ho' hd' ?_
  have hl : ks.length = ms.length := by
    clear hv hv'
    induction al' with
    | nil => rfl
    | int _ ih => rw [List.length_cons, List.length_cons, ih]
    | str _ ih => rw [List.length_cons, List.length_cons, ih]
  have l1 := hv.length
  have l2 := hv'.length
  rw [List.length_map] at l1 l2
  have z1 : its.toList.length = its.size := Array.length_toList
  have z2 : its'.toList.length = its'.size := Array.length_toList
  have e3 : decide (its.size < its'.size) = false := decide_eq_false (by rw [← z1, ← z2, ← l1, ← l2, hl]; exact Nat.lt_irrefl _)
  rw [e3]
  exact katK 0 al' hv hv' ⟨rfl, rfl⟩
theorem sortableK {h0 : Heap} {a : Addr} {vs : List Value} {b : Bool} (h0' : 0 < vs.length) (hp : ∀ v ∈ vs, IsK s.heap v (keysOf h0 v)) (al : ∀ v ∈ vs, ∀ u ∈ vs, Alike (keysOf h0 v) (keysOf h0 u)) (hh : ∀ v ∈ vs, headK b (keysOf h0 v)) (ha : ∀ o, s.heap.get? a = some o → o.cls ≠ .type "tuple") :
    SrtO.SortableO prog w A s a vs fun v u => lexK (keysOf h0 v) (keysOf h0 u) := by
  intro h' keep
  have hp' : ∀ v ∈ vs, IsK h' v (keysOf h0 v) := fun v hm => (hp v hm).keeps fun b o e c => keep b o (fun z => by subst z; exact ha o e c) e
  obtain ⟨fs, h1, h2, h3⟩ := firstsK (b := b) (kf := keysOf h0) fun v hm => ⟨hp' v hm, hh v hm⟩
  refine ⟨tuples' true, fun Q E hq => ?_, cmpK (s := { s with heap := h' }) hp' al⟩
  cases b with
  | false =>
    refine PySem.W.kat_kind (T := .type "int") h1 (by omega) (fun f hm => ?_) (by rfl) ?_
    · obtain ⟨x, t, rfl⟩ := (h3 f hm).1 rfl
      exact PySem.W.Looks.now
    · have e : (Value.type "int" != Value.type "tuple") = true := by first | decide +kernel | rfl | decide
      rw [e]
      exact hq
  | true =>
    refine PySem.W.kat_kind (T := .type "str") h1 (by omega) (fun f hm => ?_) (by rfl) ?_
    · obtain ⟨x, t, rfl⟩ := (h3 f hm).2 rfl
      exact PySem.W.Looks.now
    · have e : (Value.type "str" != Value.type "tuple") = true := by first | decide +kernel | rfl | decide
      rw [e]
      exact hq
theorem sortedK {l : Addr} {vs : List Value} {b : Bool} {Q : Value → Shared → Prop} (hl : s.heap.IsList l vs.toArray) (hz : vs.length ≤ sizeLine) (hp : ∀ v ∈ vs, IsK s.heap v (keysOf s.heap v)) (al : ∀ v ∈ vs, ∀ u ∈ vs, Alike (keysOf s.heap v) (keysOf s.heap u)) (hh : ∀ v ∈ vs, headK b (keysOf s.heap v))
    (h : ∀ (h' : Heap) (d : Addr) (out : List Value), SrtO.Srtd (fun v u => lexK (keysOf s.heap v) (keysOf s.heap u)) out → out.Perm vs → (∀ b o, s.heap.get? b = some o → h'.get? b = some o) → s.heap.objs.size ≤ d → (∃ n, h'.get? d = some (seqObj "list" out.toArray n)) → Q (.ref d) { s with heap := h' }) :
    wpAny (model prog w) A (call (.builtin "sorted") [.ref l]) Q E s := by
  refine SrtO.sorted_ord (swo_lexK (keysOf s.heap)) hl hz (fun h2 h₁ a ha kk => ?_) fun out hs hb => ?_
  · refine sortableK (s := { s with heap := h₁ }) (h0 := s.heap) (by omega) (fun v hm => (hp v hm).keeps fun b o e _ => (kk b o e).2) al hh fun o e => ?_
    have e' : some o = some (seqObj "list" vs.toArray 0) := e.symm.trans ha
    cases e'
    intro c
    exact absurd (Value.type.inj c) (by decide)
  · exact h _ _ out hs hb.perm (fun b o e => PyProof.Rows.sortedAll_old e) (Nat.le_succ _) (PyProof.Rows.sortedAll_at s.heap vs out.toArray)
end

/-! ### the rule -/
def rSortK (K : Fg) : List V → Hp → VK → Prop := fun vs H Q => ∃ (a : Addr) (xs : List V) (kss : List (List Key)) (b : Bool), vs = [V.ref a] ∧ SqL K H a xs ∧ Paired (fun x ks => ∃ t, x = V.ref t ∧ SqT K H t (ks.map kV)) xs kss ∧
  (∀ k ∈ kss, ∀ m ∈ kss, Alike k m) ∧ (∀ k ∈ kss, headK b k) ∧ ∀ (ps : List (V × List Key)) (p : Addr), ps.Perm (xs.zip kss) → ps.Pairwise (fun x y => lexK y.2 x.2 = false) → H p = none → Q (.ref p) (upd H p (.lst (ps.map (·.1))))
section
variable {X : Cx}
theorem tupK_raw {pins : List (Addr × Obj)} {σ : L2.St} {H : Hp} {s : Shared} (I : Inv X pins σ H s) {t : Addr} {ks : List Key} (h : SqT X.K H t (ks.map kV)) : IsK s.heap (.ref t) ks := by
  obtain ⟨its, rv, ⟨o, ho, hc, n, hd⟩, _⟩ := I.tuple h
  exact ⟨t, o, its.toArray, n, rfl, ho, hc, hd, by simpa using rv⟩
theorem zip_of {s : Shared} : ∀ {xs : List V} {its : List Value} {kss : List (List Key)}, (∀ (u : Value), u ∈ its → ∃ a, u = Value.ref a) → xs = its.map bkV → Paired (fun u ks => IsK s.heap u ks) its kss → xs.zip kss = its.map (fun u => (bkV u, keysOf s.heap u)) ∧ kss = its.map (keysOf s.heap)
  | _, [], [], _, e, _ => by subst e; exact ⟨rfl, rfl⟩
  | _, u :: us, ks :: kss, hr, e, .cons p t => by
    subst e
    obtain ⟨i1, i2⟩ := zip_of (xs := us.map bkV) (fun v hv => hr v (List.mem_cons_of_mem _ hv)) rfl t
    have e2 := keysOf_eq p
    rw [List.map_cons, List.zip_cons_cons, i1, List.map_cons, List.map_cons, e2, ← i2]
    exact ⟨rfl, rfl⟩
theorem cr_sortedK : CallR X (.builtin "sorted") (rSortK X.K) := by
  intro pins s σ H vs us Q I r h
  obtain ⟨a, xs, kss, b, rfl, hs, hx, al, hh, q⟩ := h
  obtain ⟨its, rv, hl, hz⟩ := I.list hs
  rw [Vals.ref1 r]
  have refs0 : ∀ {xs : List V} {kss : List (List Key)}, Paired (fun x ks => ∃ t, x = V.ref t ∧ SqT X.K H t (ks.map kV)) xs kss → ∀ x ∈ xs, ∃ a, x = V.ref a := by
    intro xs kss hx
    induction hx with
    | nil => intro x m; cases m
    | cons p _ ih =>
      intro x m
      obtain ⟨t, e, _⟩ := p
      rcases List.mem_cons.mp m with rfl | m
      · exact ⟨t, e⟩
      · exact ih x m
  have refs := refs0 hx
  obtain ⟨e1, e2⟩ := bkV_refs rv refs
  have hk : Paired (fun u ks => IsK s.heap u ks) its kss := by
    have key : ∀ {xs : List V} {its : List Value} {kss : List (List Key)}, L2.Vals xs its → Paired (fun x ks => ∃ t, x = V.ref t ∧ SqT X.K H t (ks.map kV)) xs kss → Paired (fun u ks => IsK s.heap u ks) its kss := by
      intro xs its kss rv hx
      induction hx generalizing its with
      | nil => cases rv; exact .nil
      | cons p _ ih =>
        obtain ⟨t, rfl, ht⟩ := p
        cases rv with
        | cons r1 t1 =>
          cases r1
          exact .cons (tupK_raw I ht) (ih t1)
    exact key rv hx
  obtain ⟨z1, z2⟩ := zip_of e2 e1 hk
  have isk0 : ∀ {its : List Value} {kss : List (List Key)}, Paired (fun u ks => IsK s.heap u ks) its kss → ∀ v ∈ its, IsK s.heap v (keysOf s.heap v) := by
    intro its kss hk
    induction hk with
    | nil => intro v hv; cases hv
    | cons p _ ih =>
      intro v hv
      rcases List.mem_cons.mp hv with rfl | hv
      · rw [keysOf_eq p]; exact p
      · exact ih v hv
  have isk := isk0 hk
  have mem : ∀ v ∈ its, keysOf s.heap v ∈ kss := fun v hv => by rw [z2]; exact List.mem_map.mpr ⟨v, hv, rfl⟩
  refine sortedK (b := b) hl.isList (by rw [← rv.length]; exact hz) isk (fun v hv u hu => al _ (mem v hv) _ (mem u hu)) (fun v hv => hh _ (mem v hv)) fun h' d out h1 h2 keep hd hat => ?_
  obtain ⟨ep, he'⟩ := hat
  have h3 : ∀ u ∈ out, ∃ a, u = Value.ref a := fun u hu => e2 u (h2.mem_iff.mp hu)
  have hlen : (out.map bkV).length ≤ sizeLine := by
    rw [List.length_map, h2.length_eq, ← rv.length]
    exact hz
  have hfree : H d = none := I.hok.fresh hd
  refine ⟨.ref d, upd H d (.lst (out.map bkV)), I.laid (t' := s.toks) keep hd ⟨hlen, out, ep, bkV_vals h3, he'⟩, rfl, ?_⟩
  have hq := q (out.map fun u => (bkV u, keysOf s.heap u)) d (by rw [z1]; exact h2.map _) (by rw [List.pairwise_map]; exact h1) hfree
  rw [List.map_map] at hq
  exact hq
end
/-! ### over data -/
def kD : Key → D
  | .inl i => .int i
  | .inr x => .str x
def kT (ks : List Key) : D := .tup (ks.map kD)
theorem keysD_kD (ks : List Key) : keysD (ks.map kD) = some ks := by
  induction ks with
  | nil => rfl
  | cons k ks ih => rw [List.map_cons, keysD, ih]; cases k <;> rfl
def f_sortT : DN := fun vs M Q => match vs with
  | [v] => ∃ (kss : List (List Key)) (b : Bool), listD v M = some (kss.map kT) ∧ (∀ k ∈ kss, ∀ m ∈ kss, Alike k m) ∧ (∀ k ∈ kss, headK b k) ∧ ∀ out : List (List Key), out.Perm kss → out.Pairwise (fun x y => lexK y x = false) → Q (.lst (out.map kT)) M
  | _ => False
theorem ref_sortT {K : Fg} {F : Fm} : RefN K F (rSortK K) f_sortT := by
  intro G H M xs vs post Q hr rs d k
  unfold f_sortT at d
  split at d
  · rename_i v
    obtain ⟨kss, b, e, al, hh, d⟩ := d
    cases rs with
    | cons rx t =>
      cases t
      obtain ⟨a, ys, rfl, hq, rr⟩ := listD_ok hr rx e
      have pr : ∀ {ys : List V} {kss : List (List Key)}, Reps K G ys (kss.map kT) → Paired (fun x ks => ∃ t, x = V.ref t ∧ SqT K H t (ks.map kV)) ys kss ∧ ∀ p ∈ ys.zip kss, Rep K G p.1 (kT p.2) := by
        intro ys kss rr
        induction kss generalizing ys with
        | nil => cases rr; exact ⟨.nil, fun p hp => by cases hp⟩
        | cons ks kss ih =>
          cases rr with
          | cons h t =>
            obtain ⟨i1, i2⟩ := ih t
            refine ⟨.cons ?_ i1, fun p hp => ?_⟩
            · have h' := h
              unfold kT at h'
              cases h' with
              | tup ht rs => exact ⟨_, rfl, by rw [← Reps.keys rs (keysD_kD ks)]; exact .inl (.inl (hr.sub _ _ ht))⟩
            · rw [List.zip_cons_cons] at hp
              rcases List.mem_cons.mp hp with rfl | hp
              · exact h
              · exact i2 p hp
      obtain ⟨p1, p2⟩ := pr rr
      refine ⟨a, ys, kss, b, rfl, hq, p1, al, hh, fun ps p hp hs hfree => ?_⟩
      have hrep : Reps K G (ps.map (·.1)) ((ps.map (·.2)).map kT) := by
        have : ∀ q ∈ ps, Rep K G q.1 (kT q.2) := fun q hq => p2 q (hp.mem_iff.mp hq)
        clear hp hs
        induction ps with
        | nil => exact .nil
        | cons q ps ih => exact .cons (this q List.mem_cons_self) (ih fun r hr => this r (List.mem_cons_of_mem _ hr))
      have hl : ys.length = kss.length := by rw [rr.length, List.length_map]
      have hperm : (ps.map (·.2)).Perm kss := by
        have := hp.map (·.2)
        rw [List.map_snd_zip (by omega)] at this
        exact this
      exact k.new hr hfree (.lst upd_same (hrep.mono (hr.new hfree).1)) (d _ hperm (by rw [List.pairwise_map]; exact hs))
  · exact d.elim
section
variable {X : Cx} {F : Fm} {a : Expr} {dA : DA} {p pos : Pos}
theorem pd_sortT (hc : X.calm = true) (hm : X.mg "sorted" = none) (ha : PDA X F [a] dA) (hg : Gl X "sorted" := by rfl) (he : starEach [a] X.env = (false, eval a X.env) :: starEach [] X.env := by rfl) : PD X F (.Call (.Name "sorted" p) [a] [] pos) (dCB f_sortT dA) :=
  pd_cB cr_sortedK ref_sortT hm ha (by decide +kernel) hg (by decide) (by decide) he rfl
end
/-- sorted lists of keys with the same items are one list -/
theorem sort_uniq : ∀ {a b : List (List Key)}, a.Perm b → a.Pairwise (fun x y => lexK y x = false) → b.Pairwise (fun x y => lexK y x = false) → a = b := by
  intro a
  induction a with
  | nil => intro b hp _ _; exact (List.nil_perm.mp hp).symm
  | cons x a ih =>
    intro b hp ha hb
    cases b with
    | nil => exact absurd hp.length_eq (by simp)
    | cons y b =>
      have exy : x = y := by
        by_cases e : x = y
        · exact e
        have hx : x ∈ b := by
          rcases List.mem_cons.mp (hp.mem_iff.mp List.mem_cons_self) with z | z
          · exact absurd z e
          · exact z
        have hy : y ∈ a := by
          rcases List.mem_cons.mp (hp.symm.mem_iff.mp List.mem_cons_self) with z | z
          · exact absurd z.symm e
          · exact z
        have h1 := (List.pairwise_cons.mp ha).1 y hy
        have h2 := (List.pairwise_cons.mp hb).1 x hx
        have h3 := lexK_tri e h2
        rw [h1] at h3; cases h3
      subst exy
      rw [ih (List.Perm.cons_inv hp) (List.pairwise_cons.mp ha).2 (List.pairwise_cons.mp hb).2]
end Dl

/-! Dl13: dicts walked, d.get, list(d). -/
namespace Dl
open L2 PySem PyProof.Rows PySem.Spec

/-! ### walks over keys -/
section
variable {K : Fg} {G : Hp} {a : Addr} {o : Obj}
theorem kD_rep (k : Key) : Rep K G (kV k) (kD k) := by cases k <;> constructor
theorem kT_rep {q : Addr} {ks : List Key} (h : G q = some (.tup (ks.map kV))) : Rep K G (.ref q) (kT ks) := by
  have r : Reps K G (ks.map kV) (ks.map kD) := by
    clear h
    induction ks with
    | nil => exact .nil
    | cons k ks ih => exact .cons (kD_rep k) ih
  exact .tup h r
theorem iter_keysK {ys : List (Key × V)} {kvs : List (Key × D)} (h : G a = some (.frz o (.dK ys))) (e : ys.map (·.1) = kvs.map (·.1)) : IterOk K G (Itk a o ys) (kvs.map fun kv => kD kv.1) (fun _ => True) := by
  have el : ys.length = kvs.length := by simpa using congrArg List.length e
  refine ⟨fun H => H a = some (.frz o (.dK ys)), fun i H x H' => H' = H ∧ ∃ k v, ys[i]? = some (k, v) ∧ x = kV k, ⟨fun i H hi g => ⟨g, by rw [List.length_map] at hi; omega⟩, fun H g => ⟨g, by rw [List.length_map]; omega⟩, fun i H x H' hi g y => y⟩, fun F G' H' M' s hr _ => hr.sub _ _ (s _ _ h), fun i F G' H' M' x H'' hi s hr _ y => ?_⟩
  obtain ⟨rfl, k, v, hk, rfl⟩ := y
  refine ⟨G', kD k, Same.refl _, hr, ?_, kD_rep k⟩
  have e1 : (ys.map (·.1))[i]? = some k := by rw [List.getElem?_map, hk]; rfl
  rw [e, List.getElem?_map] at e1
  obtain ⟨p, e2, e3⟩ := Option.map_eq_some_iff.mp e1
  rw [List.getElem?_map, e2]
  show some (kD p.1) = _
  rw [e3]
theorem iter_keysT {ys : List (List Key × V)} {kvs : List (List Key × D)} (h : G a = some (.frz o (.dT ys))) (e : ys.map (·.1) = kvs.map (·.1)) : IterOk K G (Itkt a o ys) (kvs.map fun kv => kT kv.1) (fun _ => True) := by
  have el : ys.length = kvs.length := by simpa using congrArg List.length e
  refine ⟨fun H => H a = some (.frz o (.dT ys)), fun i H x H' => H' = H ∧ ∃ (k : List Key) (v : V) (q : Addr), ys[i]? = some (k, v) ∧ x = .ref q ∧ H q = some (.tup (k.map kV)), ⟨fun i H hi g => ⟨g, by rw [List.length_map] at hi; omega⟩, fun H g => ⟨g, by rw [List.length_map]; omega⟩, fun i H x H' hi g y => y⟩, fun F G' H' M' s hr _ => hr.sub _ _ (s _ _ h), fun i F G' H' M' x H'' hi s hr _ y => ?_⟩
  obtain ⟨rfl, k, v, q, hk, rfl, hq⟩ := y
  obtain ⟨G2, s2, hr2, g2⟩ := hr.know hq
  refine ⟨G2, kT k, s2, hr2, ?_, kT_rep g2⟩
  have e1 : (ys.map (·.1))[i]? = some k := by rw [List.getElem?_map, hk]; rfl
  rw [e, List.getElem?_map] at e1
  obtain ⟨p, e2, e3⟩ := Option.map_eq_some_iff.mp e1
  rw [List.getElem?_map, e2]
  show some (kT p.1) = _
  rw [e3]
end
section
variable {X : Cx} {F : Fm} {tg e f o : Expr} {da db dc : DE} {pos apos cpos p : Pos}
/-- the keys of a dict that never changes -/
def diKeys (da : DE) : DI := fun ρ M Q => da ρ M fun x M1 => match x with
  | .dk kvs => Q (kvs.map fun kv => kD kv.1) (fun _ => True) M1
  | .dt kvs => Q (kvs.map fun kv => kT kv.1) (fun _ => True) M1
  | _ => False
theorem pdi_keys (ha : PD X F e da) : PDI X F tg e (diKeys da) := pi_imp (pi_keys ha) fun σ H R ⟨G, ρ, M, post, hr, sr, d, k⟩ => ⟨G, ρ, M, _, hr, sr, d, fun G1 H1 M1 x v s1 h1 rx q1 => by
  cases v with
  | dk kvs =>
    cases rx with
    | dk h e r =>
      obtain ⟨ob, h⟩ := h
      exact ⟨_, ob, rfl, .inl ⟨_, h1.sub _ _ h, k _ _ _ _ _ _ s1 h1 (iter_keysK h e) q1⟩⟩
  | dt kvs =>
    cases rx with
    | dt h e r =>
      obtain ⟨ob, h⟩ := h
      exact ⟨_, ob, rfl, .inr ⟨_, h1.sub _ _ h, k _ _ _ _ _ _ s1 h1 (iter_keysT h e) q1⟩⟩
  | _ => exact (show False from q1).elim⟩
/-! ### d.get -/
def isDD (v : D) (M : Mem) : Prop := (∃ n, dictLen v M = some n)
def f_get (v w z : D) (M : Mem) (Q : D → Mem → Prop) : Prop := match dlook v w M with
  | some (some d) => Q d M
  | some none => Q z M
  | none => False
def dGet2 (da db dc : DE) : DE := fun ρ M Q => da ρ M fun v M1 => isDD v M1 ∧ db ρ M1 fun w M2 => dc ρ M2 fun z M3 => f_get v w z M3 Q
theorem pd_get2 (hu : X.A.units + 64 < cLine) (ho : PD X F o da) (he : PD X F e db) (hf : PD X F f dc) (m : M2 X o "get" apos e f cpos := by first | exact ⟨rfl, rfl, rfl, rfl⟩ | exact ⟨by rfl, by rfl, by rfl, by rfl⟩) : PD X F (.Call (.Attribute o "get" apos) [e, f] [] cpos) (dGet2 da db dc) :=
  pe_imp (pe_dget2 (by omega) ho he hf m) fun σ H Q ⟨G, ρ, M, post, hr, sr, d, k⟩ => ⟨G, ρ, M, _, hr, sr, d, fun G1 H1 M1 x v s1 h1 rx q1 => by
    obtain ⟨⟨n, hn⟩, q1⟩ := q1
    obtain ⟨a, rfl, hl⟩ := dlen_ok h1 rx hn
    refine ⟨a, rfl, hl.isD, G1, ρ, M1, _, h1, sr.mono s1, q1, fun G2 H2 M2 y w s2 h2 ry q2 => ⟨G2, ρ, M2, _, h2, sr.mono (s1.trans s2), q2, fun G3 H3 M3 z u s3 h3 rz q3 => ?_⟩⟩
    have q3 : f_get v w u M3 post := q3
    unfold f_get at q3
    cases ql : dlook v w M3 with
    | none => rw [ql] at q3; exact q3.elim
    | some oo =>
      obtain ⟨a', o', e1, g, hh⟩ := dlook_ok h3 (rx.mono (s2.trans s3)) (ry.mono s3) ql
      cases e1
      rw [ql] at q3
      refine ⟨o', g, ?_⟩
      rcases hh with ⟨rfl, rfl⟩ | ⟨d', z', rfl, rfl, rr⟩
      · exact (k.later (s1.trans (s2.trans s3))).here h3 rz q3
      · exact (k.later (s1.trans (s2.trans s3))).here h3 rr q3⟩
end
end Dl

/-! Dl14: list(d), sorted(d) of dicts with tuple keys. -/
namespace Dl
open L2 PySem PyProof.Rows PySem.Spec

section
variable {X : Cx} {F : Fm} {pos p : Pos} {a : Expr} {dA : DA}
/-- the dict of tuple keys at x -/
def dtD (v : D) (M : Mem) : Option (List (List Key × D)) := match v with
  | .dt kvs => some kvs
  | .obj a => (match M a with
    | some (.dt kvs) => some kvs
    | _ => none)
  | _ => none
theorem dtD_ok {K : Fg} {F : Fm} {G H : Hp} {M : Mem} {x : V} {v : D} {kvs : List (List Key × D)} (hr : HRel K F G H M) (rx : Rep K G x v) (e : dtD v M = some kvs) : ∃ a ys, x = .ref a ∧ Rd H a (.dT ys) ∧ ys.map (·.1) = kvs.map (·.1) := by
  unfold dtD at e
  cases rx with
  | dt h e1 _ => cases e; exact ⟨_, _, rfl, .inr (h.imp fun _ q => hr.sub _ _ q), e1⟩
  | obj =>
    rename_i a
    dsimp only at e
    cases q : M a with
    | none => rw [q] at e; cases e
    | some c =>
      rw [q] at e
      cases c with
      | dt kvs => cases e; obtain ⟨ys, h1, h2, _⟩ := (hr.cell a _ q).1; exact ⟨a, ys, rfl, .inl h1, h2⟩
      | _ => cases e
  | _ => cases e
/-- tuples that stand in the heap are known, all at once -/
theorem HRel.knows {K : Fg} {F : Fm} {H : Hp} {M : Mem} : ∀ {bs : List Addr} {kss : List (List Key)} {G : Hp}, HRel K F G H M → Paired (fun ks b => H b = some (.tup (ks.map kV))) kss bs → ∃ G', Same G G' ∧ HRel K F G' H M ∧ Reps K G' (bs.map V.ref) (kss.map kT)
  | _, _, G, h, .nil => ⟨G, Same.refl _, h, .nil⟩
  | _, _, G, h, .cons p t => by
    obtain ⟨G1, s1, h1, r1⟩ := h.knows t
    obtain ⟨G2, s2, h2, g2⟩ := h1.know p
    exact ⟨G2, s1.trans s2, h2, .cons (kT_rep g2) (r1.mono s2)⟩
theorem isKeys_pair {H : Hp} : ∀ {kvs : List (List Key × V)} {bs : List Addr}, IsKeys H kvs bs → Paired (fun ks b => H b = some (.tup (ks.map kV))) (kvs.map (·.1)) bs
  | _, _, .nil => .nil
  | _, _, .cons h t => .cons h (isKeys_pair t)
def f_listT : DN := fun vs M Q => match vs with
  | [v] => (match dtD v M with
    | some kvs => Q (.lst (kvs.map fun kv => kT kv.1)) M
    | none => False)
  | _ => False
theorem ref_listT {K : Fg} : RefN K F (fun xs H Q => ∃ d kvs, xs = [V.ref d] ∧ Rd H d (.dT kvs) ∧ ∀ p bs, H p = none → IsKeys H kvs bs → Q (.ref p) (upd H p (.lst (bs.map V.ref)))) f_listT := by
  intro G H M xs vs post Q hr rs d k
  unfold f_listT at d
  split at d
  · rename_i v
    cases rs with
    | cons rx t =>
      cases t
      cases e : dtD v M with
      | none => rw [e] at d; exact d.elim
      | some kvs =>
        rw [e] at d
        obtain ⟨a, ys, rfl, rd, e1⟩ := dtD_ok hr rx e
        refine ⟨a, ys, rfl, rd, fun p bs hp hk => ?_⟩
        obtain ⟨G2, s2, h2, r2⟩ := hr.knows (isKeys_pair hk)
        rw [e1, List.map_map] at r2
        exact (k.later s2).new h2 hp (.lst upd_same (r2.mono (h2.new hp).1)) d
  · exact d.elim
theorem pd_listT (hc : X.calm = true) (hm : X.mg "list" = none) (ha : PDA X F [a] dA) (hg : Gl X "list" := by rfl) (he : starEach [a] X.env = (false, eval a X.env) :: starEach [] X.env := by rfl) : PD X F (.Call (.Name "list" p) [a] [] pos) (dCB f_listT dA) :=
  pd_cTy (call_list_dT hc) ref_listT hm ha (by decide +kernel) hg (by decide) (by decide) he rfl
/-! ### sorted(d) -/
def rSortDT : List V → Hp → VK → Prop := fun vs H Q => ∃ (d : Addr) (kvs : List (List Key × V)) (b : Bool), vs = [V.ref d] ∧ Rd H d (.dT kvs) ∧ (∀ k ∈ kvs.map (·.1), ∀ m ∈ kvs.map (·.1), Alike k m) ∧ (∀ k ∈ kvs.map (·.1), headK b k) ∧
  ∀ (ps : List (Addr × List Key)) (p : Addr), (ps.map (·.2)).Perm (kvs.map (·.1)) → ps.Pairwise (fun x y => lexK y.2 x.2 = false) → (∀ q ∈ ps, H q.1 = some (.tup (q.2.map kV))) → H p = none → Q (.ref p) (upd H p (.lst (ps.map fun q => V.ref q.1)))
theorem cr_sortedDT (hc : X.calm = true) : CallR X (.builtin "sorted") rSortDT := by
  intro pins s σ H xs us Q I r h
  obtain ⟨d, kvs, b, rfl, hd, al, hh, q⟩ := h
  obtain ⟨u, rfl, rx⟩ := r.one
  cases rx
  obtain ⟨z, hs, ks, pr, o, es, ep, ho, hx, hdt, he, hn⟩ := (show ObjOk X.prog X.w H s.heap d (.dT kvs) from hd.ok I.hok)
  have l1 : es.size = ks.length := size_of_entries he
  have l2 : kvs.length = ks.length := Paired.length pr
  refine Calls.call_function_entry PyProof.Rows.kind_sorted PyProof.Rows.plain_sorted PyProof.Rows.entry_sorted (PyProof.Rows.args_sorted1 _) ?_
  unfold Builtin.«sorted»
  refine wpAny_bind (m := checkCount "sorted" 1 1 _) (wpAny_pure ?_)
  refine wpAny_bind (PySem.W.kdu_collect (A := X.A.in1) (kdl_raw hs hx hdt) (I.ok.hd hc) ho (by omega) fun h' tk acc kp it => ?_)
  have ea : acc.toList = ks.map fun x => Value.ref x.2.1 := by
    have hl : acc.toList.length = ks.length := by rw [Array.length_toList, it.1]; exact l1
    apply List.ext_getElem?
    intro j
    rw [List.getElem?_map]
    cases hj : acc.toList[j]? with
    | none =>
      have h1 := List.getElem?_eq_none_iff.mp hj
      rw [List.getElem?_eq_none (by omega)]
      all_goals rfl
    | some v =>
      obtain ⟨en, hen, hv⟩ := it.2 j v (by rw [← Array.getElem?_toList]; exact hj)
      have qe := entry_at he j
      rw [hen] at qe
      cases hb : ks[j]? with
      | none => rw [hb] at qe; exact nomatch (show some en = none from qe)
      | some b =>
        rw [hb] at qe
        have e2 : en = entryOfKey (tupleKind (mixKind X.prog X.w)) b := Option.some.inj qe
        rw [hv, e2]
        all_goals rfl
  have I1 : Inv X pins σ H { s with heap := h', toks := tk } := I.kept kp
  have facts : ∀ {kvs : List (List Key × V)} {ks : List (List Key × Addr × Value)}, KT H kvs ks → kvs.map (·.1) = ks.map (·.1) ∧ ∀ x ∈ ks, H x.2.1 = some (.tup (x.1.map kV)) := by
    intro kvs ks pr
    induction pr with
    | nil => exact ⟨rfl, fun x hx => by cases hx⟩
    | cons p _ ih =>
      refine ⟨by rw [List.map_cons, List.map_cons, ih.1, p.1], fun x hx => ?_⟩
      rcases List.mem_cons.mp hx with rfl | hx
      · rw [← p.1]; exact p.2.1
      · exact ih.2 x hx
  obtain ⟨f1, f2⟩ := facts pr
  have isk : ∀ x ∈ ks, IsK h' (.ref x.2.1) x.1 := fun x hx => tupK_raw I1 (.inl (.inl (f2 x hx)))
  have kof : ∀ x ∈ ks, keysOf h' (.ref x.2.1) = x.1 := fun x hx => keysOf_eq (isk x hx)
  have hal : acc.toList.length ≤ sizeLine := by rw [ea, List.length_map]; omega
  refine wpAny_bind (wpAny_newList ?_ hal)
  have hoL : (h'.push (seqObj "list" acc.toList.toArray 0)).get? h'.objs.size = some (seqObj "list" acc.toList.toArray 0) := Heap.get?_push_size _ rfl
  show wpAny _ _ _ _ _ { s with heap := h'.push (seqObj "list" acc.toList.toArray 0), toks := tk }
  have mem : ∀ v ∈ acc.toList, ∃ x ∈ ks, v = .ref x.2.1 := fun v hv => by
    rw [ea] at hv
    obtain ⟨x, hx, rfl⟩ := List.mem_map.mp hv
    exact ⟨x, hx, rfl⟩
  have keys : ∀ x ∈ ks, x.1 ∈ kvs.map (·.1) := fun x hx => by rw [f1]; exact List.mem_map.mpr ⟨x, hx, rfl⟩
  refine wpAny_bind (wpAny_holding (wpAny_call_entry PyProof.Rows.slot_list_sort ⟨_, hoL, rfl⟩ PyProof.Rows.entry_list_sort
    (SrtO.list_sort_ord (s := { s with heap := h'.push (seqObj "list" acc.toList.toArray 0), toks := tk }) (swo_lexK (keysOf h')) hoL hal (fun h2 => ?_) fun out hs hb => ⟨_, rfl, ?_⟩) (PyProof.Rows.args_list_sort _)))
  · refine sortableK (b := b) (s := { s with heap := h'.push (seqObj "list" acc.toList.toArray 0), toks := tk }) (h0 := h') (by omega) (fun v hv => ?_) (fun v hv u hu => ?_) (fun v hv => ?_) (fun o' e => ?_)
    · obtain ⟨x, hx, rfl⟩ := mem v hv
      rw [kof x hx]
      exact (isk x hx).keeps fun b o e _ => Heap.get?_push_of_some _ e
    · obtain ⟨x, hx, rfl⟩ := mem v hv
      obtain ⟨y, hy, rfl⟩ := mem u hu
      rw [kof x hx, kof y hy]
      exact al _ (keys x hx) _ (keys y hy)
    · obtain ⟨x, hx, rfl⟩ := mem v hv
      rw [kof x hx]
      exact hh _ (keys x hx)
    · have e' : some o' = some (seqObj "list" acc.toList.toArray 0) := e.symm.trans hoL
      cases e'
      intro c
      exact absurd (Value.type.inj c) (by decide)
  · obtain ⟨e', he'⟩ := PyProof.Rows.sortedHeap_at (vs := acc.toList) (out := out.toArray) hoL
    have hperm := hb.perm
    -- the sorted items as pairs
    have hmem : ∀ v ∈ out, ∃ x ∈ ks, v = .ref x.2.1 := fun v hv => mem v (hperm.mem_iff.mp hv)
    have key : ∀ {l : List Value}, (∀ v ∈ l, ∃ x ∈ ks, v = .ref x.2.1) → ∃ ps : List (Addr × List Key), l = ps.map (fun q => Value.ref q.1) ∧ ps.map (·.2) = l.map (keysOf h') ∧ ∀ q ∈ ps, H q.1 = some (.tup (q.2.map kV)) := by
      intro l hl
      induction l with
      | nil => exact ⟨[], rfl, rfl, fun q hq => by cases hq⟩
      | cons v l ih =>
        obtain ⟨ps, i1, i2, i3⟩ := ih fun w hw => hl w (List.mem_cons_of_mem _ hw)
        obtain ⟨x, hx, rfl⟩ := hl v List.mem_cons_self
        refine ⟨(x.2.1, x.1) :: ps, by rw [List.map_cons, ← i1], by rw [List.map_cons, List.map_cons, i2, kof x hx], fun q hq => ?_⟩
        rcases List.mem_cons.mp hq with rfl | hq
        · exact f2 x hx
        · exact i3 q hq
    obtain ⟨ps, p1, p2, p3⟩ := key hmem
    have hps : (ps.map (·.2)).Perm (kvs.map (·.1)) := by
      rw [p2, f1]
      have := hperm.map (keysOf h')
      rw [ea, List.map_map] at this
      refine this.trans (List.Perm.of_eq ?_)
      exact List.map_congr_left fun x hx => kof x hx
    have hpw : ps.Pairwise (fun x y => lexK y.2 x.2 = false) := by
      have h1 : (ps.map (·.2)).Pairwise (fun x y => lexK y x = false) := by
        rw [p2, List.pairwise_map]
        exact hs
      rw [List.pairwise_map] at h1
      exact h1
    have hlen : (ps.map fun q => V.ref q.1).length ≤ sizeLine := by
      have e1 := hperm.length_eq
      rw [p1, List.length_map] at e1
      rw [List.length_map, e1]
      exact hal
    have rv : Vals (ps.map fun q => V.ref q.1) out := by
      rw [p1]
      clear p1 p2 p3 hps hpw hlen
      induction ps with
      | nil => exact .nil
      | cons q ps ih => exact .cons rfl ih
    refine wpAny_pure ⟨_, rfl, .ref h'.objs.size, upd H h'.objs.size (.lst (ps.map fun q => V.ref q.1)), I1.laid (t' := tk) (fun b u e => ?_) (Nat.le_refl _) (show ObjOk X.prog X.w _ _ _ (.lst (ps.map fun q => V.ref q.1)) from ⟨hlen, out, e', rv, he'⟩), rfl, q ps _ hps hpw p3 (I1.hok.fresh (Nat.le_refl _))⟩
    have hb' : b < h'.objs.size := Heap.lt_size e
    rw [PyProof.Rows.sortedHeap_old (Nat.ne_of_lt hb') (by rw [PyProof.Rows.size_push']; exact Nat.lt_succ_of_lt hb')]
    exact Heap.get?_push_of_some _ e
def f_sortDT : DN := fun vs M Q => match vs with
  | [v] => ∃ (kvs : List (List Key × D)) (b : Bool), dtD v M = some kvs ∧ (∀ k ∈ kvs.map (·.1), ∀ m ∈ kvs.map (·.1), Alike k m) ∧ (∀ k ∈ kvs.map (·.1), headK b k) ∧ ∀ out : List (List Key), out.Perm (kvs.map (·.1)) → out.Pairwise (fun x y => lexK y x = false) → Q (.lst (out.map kT)) M
  | _ => False
theorem ref_sortDT {K : Fg} : RefN K F rSortDT f_sortDT := by
  intro G H M xs vs post Q hr rs d k
  unfold f_sortDT at d
  split at d
  · rename_i v
    obtain ⟨kvs, b, e, al, hh, d⟩ := d
    cases rs with
    | cons rx t =>
      cases t
      obtain ⟨a, ys, rfl, rd, e1⟩ := dtD_ok hr rx e
      rw [← e1] at al hh
      refine ⟨a, ys, b, rfl, rd, al, hh, fun ps p hp hs hk hfree => ?_⟩
      have pr : Paired (fun ks b => H b = some (.tup (ks.map kV))) (ps.map (·.2)) (ps.map (·.1)) := by
        clear hp hs
        induction ps with
        | nil => exact .nil
        | cons q ps ih => exact .cons (hk q List.mem_cons_self) (ih fun r hr => hk r (List.mem_cons_of_mem _ hr))
      obtain ⟨G2, s2, h2, r2⟩ := hr.knows pr
      rw [List.map_map] at r2
      exact (k.later s2).new h2 hfree (.lst upd_same (r2.mono (h2.new hfree).1)) (d _ (by rw [← e1]; exact hp) (by rw [List.pairwise_map]; exact hs))
  · exact d.elim
theorem pd_sortDT (hc : X.calm = true) (hm : X.mg "sorted" = none) (ha : PDA X F [a] dA) (hg : Gl X "sorted" := by rfl) (he : starEach [a] X.env = (false, eval a X.env) :: starEach [] X.env := by rfl) : PD X F (.Call (.Name "sorted" p) [a] [] pos) (dCB f_sortDT dA) :=
  pd_cB (cr_sortedDT hc) ref_sortDT hm ha (by decide +kernel) hg (by decide) (by decide) he rfl
end
end Dl

/-! Dl15: a module's tuples, list.index. -/
namespace Dl
open L2 PySem PyProof.Rows PySem.Spec

/-- a flat value as data -/
def flatOf : V → Option D
  | .non => some .non
  | .bl b => some (.bl b)
  | .int i => some (.int i)
  | .str z => some (.str z)
  | _ => none
theorem flatOf_rep {K : Fg} {G : Hp} {x : V} {d : D} (e : flatOf x = some d) : Rep K G x d := by
  cases x <;> simp only [flatOf] at e <;> cases e <;> constructor
/-- the tuple that stands in the written part: its items xs -/
def tupB (K : Fg) (a : Addr) (xs : List V) : Bool := match K.lookup a with
  | some ⟨.type c, _, .seq its _, _⟩ => decide (c = "tuple") && (decide (its.size ≤ 1000) && He.relAll xs its.toList)
  | _ => false
theorem tupB_ok {K : Fg} {G : Hp} {a : Addr} {xs : List V} (h : tupB K a xs = true) : SqT K G a xs := by
  unfold tupB at h
  split at h
  · rename_i c od its n sl e
    obtain ⟨h1, h2⟩ := He.ba h
    obtain ⟨h3, h4⟩ := He.ba h2
    have ec : c = "tuple" := of_decide_eq_true h1
    subst ec
    have hz : its.size ≤ 1000 := of_decide_eq_true h3
    exact .inr ⟨_, its, n, e, rfl, rfl, by rw [sizeLine_eq]; omega, He.relAll_ok h4⟩
  · cases h
theorem flats_rep {K : Fg} {G : Hp} : ∀ {xs : List V} {ds : List D}, xs.map flatOf = ds.map some → Reps K G xs ds
  | [], [], _ => .nil
  | [], _ :: _, e => by cases e
  | _ :: _, [], e => by cases e
  | x :: xs, d :: ds, e => by
    rw [List.map_cons, List.map_cons] at e
    injection e with e1 e2
    exact .cons (flatOf_rep e1) (flats_rep e2)
section
variable {X : Cx} {F : Fm} {pos p apos cpos : Pos} {a e : Expr} {da : DE} {dA : DA}
/-- a module's tuple of flat values -/
theorem pd_gtup {x : Str} {c : Addr} {xs : List V} {ds : List D} (hm : X.mg x = some (.ref c)) (ht : tupB X.K c xs = true) (hd : xs.map flatOf = ds.map some) (hg : Gl X x := by rfl) (hdb : (x == ("__debug__" : Str)) = false := by decide) : PD X F (.Name x pos) (dC (.rt ds)) :=
  pd_glob (v := .ref c) hm rfl (fun _ => .rt (tupB_ok ht) (flats_rep hd)) hg hdb
/-- where the first equal item stands -/
def f_index : DM := fun v vs M Q => match vs with
  | [y] => ∃ (ds : List D) (j : Nat) (z : D), listD v M = some ds ∧ flatD y = true ∧ ds.all flatD = true ∧ ds[j]? = some z ∧ eqF z y = true ∧ (∀ (m : Nat) (z' : D), m < j → ds[m]? = some z' → eqF z' y = false) ∧ Q (.int (j : Nat)) M
  | _ => False
theorem ref_index {K : Fg} : RefM K F (rIndex K) f_index := by
  intro G H M x v xs vs post Q hr rx rs d k
  unfold f_index at d
  split at d
  · rename_i y
    obtain ⟨ds, j, z, e, fy, fds, hz, hzy, hno, d⟩ := d
    cases rs with
    | cons ry t =>
      cases t
      obtain ⟨b, ys, rfl, hq, rr⟩ := listD_ok hr rx e
      have fl : ∀ (i : Nat) (q : D), ds[i]? = some q → flatD q = true := fun i q hq => List.all_eq_true.mp fds q (List.mem_of_getElem? hq)
      obtain ⟨u, hu, ru⟩ := rr.get hz
      refine ⟨b, ys, _, j, u, rfl, rfl, hq, ry.flat fy, rr.flat fds, hu, by rw [ru.eqf ry (fl _ _ hz) fy]; exact hzy, fun m z' hm hz' => ?_, k.here hr .int d⟩
      obtain ⟨d', hd', rd'⟩ := rr.get' hz'
      rw [rd'.eqf ry (fl _ _ hd') fy]
      exact hno m d' hm hd'
  · exact d.elim
theorem pd_index (ho : PD X F a da) (ha : PDA X F [e] dA)
    (hbase : attributeBase a "index" X.env (eval a X.env) = eval a X.env := by rfl)
    (hfew : ((backTo cpos (starEach [e] X.env)).all (fun x => !x.1) && (backToKw cpos (keywordEach [] X.env)).all (fun x => x.1.isSome)
      && decide (([e] : List Expr).length + ([] : List Keyword).length + (if ([] : List Keyword).isEmpty then 0 else 1) < 30)) = true := by rfl)
    (hline : (apos.endLine == cpos.line) = true := by rfl) (hs : starEach [e] X.env = (false, eval e X.env) :: starEach [] X.env := by rfl) :
    PD X F (.Call (.Attribute a "index" apos) [e] [] cpos) (dMt "list" f_index da dA) :=
  pd_mt PySem.F.plainAttrs_list PySem.F.slot_list_index PySem.F.type_list_index mt_index ref_index ho ha hbase hfew hline hs rfl
end
end Dl

/-! Dl16: dict comprehensions whose keys are tuples. -/
namespace Dl
open L2 PySem PyProof.Rows PySem.Spec

/-- a comprehension puts a value under a tuple -/
theorem dictSetT {X : Cx} {pins : List (Addr × Obj)} {σ : L2.St} {H : Hp} {s : Shared} {E : Value → Shared → Prop} {D b : Addr} {kvs : List (List Key × V)} {k : List Key} {v : V} {r : Value} {Q : Unit → Shared → Prop} (hu : X.A.units < cLine) (I : Inv X pins σ H s) (hD : H D = some (.dT kvs)) (hz : kvs.length < sizeLine)
    (hb : H b = some (.tup (k.map kV))) (rv : RelV v r) (h : ∀ s', Inv X pins σ (upd H D (.dT (putK kvs k v))) s' → Q () s') : wpAny (model X.prog X.w) X.A (dictSet D (.ref b) r) Q E s := by
  obtain ⟨z, hd, xs, rel, dd⟩ := dt_of I.hok hD
  have l1 : xs.length ≤ sizeLine := by rw [← Paired.length rel]; exact z
  have l2 : (putK kvs k v).length ≤ sizeLine := by have := length_putK kvs k v; omega
  refine wpAny_dictSet_heap (hsz := l1) hu (key_of I.hok hb) dd fun h' dd' hs => h _ ?_
  obtain ⟨q, es, ep, hq, h2, h3, h4, _, h5⟩ := dd'
  refine d_write I (by rw [hD]; exact True.intro) hs ⟨q, hq⟩ ⟨l2, hd, _, (rel.put k hb rv).keeps fun c ys ec => ?_, q, es, ep, hq, h2, h3, h4, h5⟩
  rw [upd_ne (ne_of ec hD (fun z => nomatch z))]
  exact ec
section
variable {X : Cx}
/-- {k: v for target in iter if ..}, keys tuples of ints and texts -/
def tDct (wi : TI) (g : TG) (tt : TT) (tk tv : TE) (vs : List Nat) : TE := fun σ H Q => wi σ H fun J H1 => ∀ D, H1 D = none → ∃ W : Nat → Nat → Hp → Prop, (∃ m, W 0 m (upd H1 D (.dT []))) ∧ ∀ i m H', W i m H' →
  (J.stop i H' ∧ Q (.ref D) H') ∨ (J.go i H' ∧ ∃ Nx : Hp → Prop, (∀ H2, Nx H2 → ∃ m', m' < m ∧ W (i + 1) m' H2) ∧ ∀ x H2, J.yld i H' x H2 → g x (wipe σ vs) H2 fun σ3 H3 => wipe σ3 vs = wipe σ vs ∧ tt σ3 H3 fun c H4 =>
    if c = true then tk σ3 H4 fun y H5 => tv σ3 H5 fun z H6 => ∃ kvs k b, y = .ref b ∧ H6 b = some (.tup (k.map kV)) ∧ H6 D = some (.dT kvs) ∧ kvs.length < sizeLine ∧ Nx (upd H6 D (.dT (putK kvs k z))) else Nx H4)
theorem dct_core {pins : List (Addr × Obj)} {s : Shared} {σ : L2.St} {H : Hp} {Q : VK} {kx vx tg iter : Expr} {ifs : List Expr} {scope : Scope} {own : List (Str × Nat)} {pos pos' : Pos} {wi : TI} {g : TG} {tt : TT} {tk tv : TE} {use : Option (Value → Sem Unit)} {Qf : Value → Shared → Prop} (hu : X.A.units < cLine) (hc : X.calm = true) (hN : X.N.Nodup) (I : Inv X pins σ H s) (hi : PI X tg iter wi) (ok : BlkOk X.N X.env.scope scope own)
    (hg : ∀ (s : Shared) (H : Hp) (C : Addr) (cl : List (Str × Addr)) (fp : List Addr), PG (X.blk s H scope (compEnvC scope cl C X.env) fp) tg g) (ht : ∀ (s : Shared) (H : Hp) (C : Addr) (cl : List (Str × Addr)) (fp : List Addr), PTs (X.blk s H scope (compEnvC scope cl C X.env) fp) ifs tt)
    (hk : ∀ (s : Shared) (H : Hp) (C : Addr) (cl : List (Str × Addr)) (fp : List Addr), PE (X.blk s H scope (compEnvC scope cl C X.env) fp) kx tk) (hv : ∀ (s : Shared) (H : Hp) (C : Addr) (cl : List (Str × Addr)) (fp : List Addr), PE (X.blk s H scope (compEnvC scope cl C X.env) fp) vx tv)
    (hs : ∀ x, foldedSetIterable iter X.env x = pure x) (h : tDct wi g tt tk tv (own.map (·.2)) σ H Q)
    (fini : ∀ D C t m H', Inv X pins σ H' t → Q (.ref D) H' → t.heap.Ns C m → FpOk X pins H' C → compPost (model X.prog X.w) X.A X.xe use Qf (.ref D) C (.ok .next) t) :
    wpAny (model X.prog X.w) X.A (comprehension (.DictComp kx vx [⟨tg, iter, ifs, 0⟩] scope pos) scope X.env pos' newDict false (eval iter X.env) use) Qf X.xe s := by
  have free : ∀ y ∈ scope.names, y.2 = .free → ∃ c, X.env.cells.lookup y.1 = some c := fun y hy e => (ok.free y hy e).elim (fun k => I.ok.has _ (.inl k)) fun k => I.ok.has _ (.inr k)
  refine wpAny_comprehension_free (use := use) rfl hs (closure_ok free) ok.kind (fun y hy e => by rw [ok.uniq y hy, e]) (thn (hi.run pins s σ H _ I h) fun _ sA hA => thn hA fun _ sB ⟨it, fp, tn, J, HB, e, IB, T, stB, fB, q⟩ => ?_)
  subst e
  refine wpAny_newObj_type (newEnv_comp ?_)
  obtain ⟨D, eD⟩ : ∃ D, D = sB.heap.objs.size := ⟨_, rfl⟩
  rw [← eD]
  obtain ⟨W, ⟨m0, w0⟩, turn⟩ := q D (IB.hok.fresh (Nat.le_of_eq eD.symm))
  obtain ⟨sC, eC⟩ : ∃ sC : Shared, sC = { sB with heap := sB.heap.push { cls := .type "dict", data := .dict #[] } } := ⟨_, rfl⟩
  have hC : sC.heap = sB.heap.push { cls := .type "dict", data := .dict #[] } := by rw [eC]
  have IC : Inv X pins σ (upd HB D (.dT [])) sC := by
    rw [eC, eD]
    exact IB.laid (t' := sB.toks) (fun _ _ e => Heap.get?_push_of_some _ e) (Nat.le_refl _) (dt_empty sB.heap IB.big)
  have small : ∀ b ∈ fp, b < sB.heap.objs.size := fun b hb => let ⟨_, e, _⟩ := T.obj _ _ stB b hb; Heap.lt_size e
  have fC : ∀ b ∈ fp, FpOk X pins (upd HB D (.dT [])) b ∧ b < sC.heap.objs.size := fun b hb =>
    ⟨⟨by rw [upd_ne (by rw [eD]; exact Nat.ne_of_lt (small b hb))]; exact (fB b hb).1, (fB b hb).2⟩, by rw [hC, Heap.size_push]; exact Nat.lt_succ_of_lt (small b hb)⟩
  have stC' : tn 0 sC.heap := T.keep _ _ _ stB fun b _ o e => by rw [hC]; exact Heap.get?_push_of_some _ e
  obtain ⟨HC, eH⟩ : ∃ HC, HC = upd HB D (.dT []) := ⟨_, rfl⟩
  rw [← eH] at IC fC w0
  have ID := block_start IC ok hN fC
  obtain ⟨cl, ecl⟩ : ∃ cl, cl = cellsFrom (sC.heap.objs.size + 1) scope.names (cloFrom X.env.cells scope.names []) := ⟨_, rfl⟩
  rw [← ecl] at ID
  have pg := hg sC HC sC.heap.objs.size cl fp
  have pt := ht sC HC sC.heap.objs.size cl fp
  have pk := hk sC HC sC.heap.objs.size cl fp
  have pv := hv sC HC sC.heap.objs.size cl fp
  rw [← eC]
  show codeAny _ _ (.compStart _ 0 (.ref it) (.ref D) (compEnvC scope (cellsFrom (sC.heap.objs.size + 1) scope.names (cloFrom X.env.cells scope.names [])) sC.heap.objs.size X.env)) (compPost (model X.prog X.w) X.A X.xe use Qf (.ref D) sC.heap.objs.size) { sC with heap := pushCells (sC.heap.push { cls := .type "dict", data := .dict #[] }) scope.names }
  rw [← ecl]
  have none0 : ∀ b ∈ fp, HC b = none := fun b hb => (fC b hb).1.1
  obtain ⟨ce, ece⟩ : ∃ ce, ce = compEnvC scope cl sC.heap.objs.size X.env := ⟨_, rfl⟩
  have loc : ce.locals = sC.heap.objs.size := by rw [ece]; rfl
  rw [← ece] at ID pg pt pk pv ⊢
  obtain ⟨sD, eS⟩ : ∃ sD : Shared, sD = { sC with heap := pushCells (sC.heap.push { cls := .type "dict", data := .dict #[] }) scope.names } := ⟨_, rfl⟩
  rw [← eS] at ID ⊢
  have stD : tn 0 sD.heap := T.keep _ _ _ stC' fun b _ o e => by rw [eS]; exact pushCells_keeps _ _ _ _ (Heap.get?_push_of_some _ e)
  have stat : ∀ {ρ : L2.St} {H' : Hp} {t : Shared}, Inv (X.blk sC HC scope ce fp) [] ρ H' t → (∀ b ∈ fp, H' b = none) → ∀ b ∈ fp, FpOk (X.blk sC HC scope ce fp) [] H' b := fun {ρ H' t} J' hn b hb =>
    ⟨hn b hb, (J'.ok.exf b hb).1, J'.ok.exfs b hb, .inl hb, fun x c e => (J'.ok.exf b hb).2 x c e, fun p hp => absurd (show p ∈ ([] : List (Addr × Obj)) ++ [] from hp) (by simp)⟩
  have loop : codeAny (model X.prog X.w) X.A (.compLoop (.DictComp kx vx [⟨tg, iter, ifs, 0⟩] scope pos) 0 (.ref it) (.ref D) ce) (compPost (model X.prog X.w) X.A X.xe use Qf (.ref D) sC.heap.objs.size) sD := by
    refine compLoop_anyD (fun n t => ∃ i H', Inv (X.blk sC HC scope ce fp) [] (wipe σ (own.map (·.2))) H' t ∧ tn i t.heap ∧ (∀ b ∈ fp, H' b = none) ∧ W i n H') (fun n t ⟨i, H', It, stt, nn, ww⟩ => ?_) m0 ⟨0, HC, ID, stD, none0, w0⟩
    rcases turn i n H' ww with ⟨stop, fin⟩ | ⟨go, Nx, less, step⟩
    · refine thnF (T.done (X.blk sC HC scope ce fp) rfl rfl rfl hc i [] t _ H' (fun _ _ => False) It (stat It nn) stt stop) fun r u ⟨er, Iu⟩ => ?_
      subst er
      have back : Inv X pins σ H' u := IC.call' (ch := fp) Iu.os Iu.base Iu.hok Iu.bare fun b hb => ⟨(fC b hb).1.2.2.2.1, (fC b hb).1.2.1, (fC b hb).1.2.2.2.2.1, (fC b hb).1.2.2.2.2.2⟩
      have nC : H' sC.heap.objs.size = none := loc ▸ (show H' ce.locals = none from Iu.free)
      obtain ⟨m, hn, _⟩ := Iu.loc
      have hn : u.heap.Ns ce.locals m := hn
      rw [loc] at hn
      exact fini D sC.heap.objs.size u m H' back fin hn (IC.fpOk (Nat.le_refl _) nC)
    · refine thnF (T.item (X.blk sC HC scope ce fp) rfl rfl rfl hc i [] t _ H' (fun _ _ => False) It (stat It nn) stt go) fun r u ⟨val, er, hu6⟩ => ?_
      subst er
      refine thnF hu6 fun _ t7 ⟨x, H7, I7, r7, y7, st7, n7⟩ => ?_
      refine thnF (pg.run _ t7 _ H7 x val _ (I7.pinned (stat I7 n7) (T.obj _ _ st7)) r7 (step x H7 y7)) fun _ t8 ⟨σ8, H8, I8, hw8, q8⟩ => thnF (pt.run _ t8 σ8 H8 _ I8 q8) fun c t9 ⟨H9, I9, q9⟩ => ?_
      have fin : ∀ {t' : Shared} {H'' : Hp}, Inv (X.blk sC HC scope ce fp) ([] ++ pinsAt fp t7.heap) σ8 H'' t' → Nx H'' → ∃ m, m < n ∧ ∃ i H', Inv (X.blk sC HC scope ce fp) [] (wipe σ (own.map (·.2))) H' t' ∧ tn i t'.heap ∧ (∀ b ∈ fp, H' b = none) ∧ W i m H' := fun {t' H''} J' nx => by
        obtain ⟨m', hm, w'⟩ := less H'' nx
        have pin : ∀ b ∈ fp, ∀ o, t7.heap.get? b = some o → t'.heap.get? b = some o ∧ H'' b = none := fun b hb o e =>
          ⟨(J'.pin (b, o) (List.mem_append_right _ (List.mem_append_right _ (mem_pinsAt hb e)))).1, (J'.pin (b, o) (List.mem_append_right _ (List.mem_append_right _ (mem_pinsAt hb e)))).2.1⟩
        refine ⟨m', hm, i + 1, H'', (J'.unpinned (pins := [])).weak (by rw [← hw8, wipe_length]) (fun j v e => ?_), T.keep _ _ _ st7 fun b hb o e => (pin b hb o e).1, fun b hb => ?_, w'⟩
        · rw [← hw8] at e; exact (wipe_some e).1
        · obtain ⟨o, e, _⟩ := T.obj _ _ st7 b hb; exact (pin b hb o e).2
      cases c with
      | false => simp only [Bool.false_eq_true, if_false] at q9 ⊢; exact fin I9 q9
      | true =>
        simp only [if_true] at q9 ⊢
        refine thnF (pk.run _ t9 σ8 H9 _ I9 q9) fun z1 t10 ⟨yk, H10, I10, r10, q10⟩ => thnF (pv.run _ t10 σ8 H10 _ I10 q10) fun z2 t11 ⟨yv, H11, I11, r11, kvs, k, bb, ek, hbb, hD11, hz11, nx⟩ => ?_
        subst ek
        obtain rfl : z1 = Value.ref bb := r10
        exact dictSetT (X := X.blk sC HC scope ce fp) hu I11 hD11 hz11 hbb r11 fun t12 I12 => fin I12 nx
  exact codeAny_compStart_dict loop (T.self X.A 0 _ _ _ stD loop)
theorem pe_dct {kx vx tg iter : Expr} {ifs : List Expr} {scope : Scope} {own : List (Str × Nat)} {pos : Pos} {wi : TI} {g : TG} {tt : TT} {tk tv : TE} (hu : X.A.units < cLine) (hc : X.calm = true) (hN : X.N.Nodup) (hi : PI X tg iter wi) (ok : BlkOk X.N X.env.scope scope own)
    (hg : ∀ (s : Shared) (H : Hp) (C : Addr) (cl : List (Str × Addr)) (fp : List Addr), PG (X.blk s H scope (compEnvC scope cl C X.env) fp) tg g) (ht : ∀ (s : Shared) (H : Hp) (C : Addr) (cl : List (Str × Addr)) (fp : List Addr), PTs (X.blk s H scope (compEnvC scope cl C X.env) fp) ifs tt)
    (hk : ∀ (s : Shared) (H : Hp) (C : Addr) (cl : List (Str × Addr)) (fp : List Addr), PE (X.blk s H scope (compEnvC scope cl C X.env) fp) kx tk) (hv : ∀ (s : Shared) (H : Hp) (C : Addr) (cl : List (Str × Addr)) (fp : List Addr), PE (X.blk s H scope (compEnvC scope cl C X.env) fp) vx tv)
    (hs : ∀ x, foldedSetIterable iter X.env x = pure x := by intro _; rfl) : PE X (.DictComp kx vx [⟨tg, iter, ifs, 0⟩] scope pos) (tDct wi g tt tk tv (own.map (·.2))) := by
  refine ⟨fun pins s σ H Q I h => ?_⟩
  rw [arm_eval_DictComp]
  refine dct_core hu hc hN I hi ok hg ht hk hv hs h fun D C t m H' J' q hn f => ⟨m, hn, fun h2 sb => ?_⟩
  obtain ⟨f0, f1, f2, f3, f4, f5⟩ := f
  exact ⟨.ref D, H', J'.turned (t' := t.toks) (fun b o hb e => (sb.2 b hb).trans e) f0 f1 f3 f4 f5, rfl, q⟩
/-- name = {..} on one line -/
theorem ps_setDct {i : Nat} {y : Str} {py : Pos} {kx vx tg iter : Expr} {ifs : List Expr} {scope : Scope} {own : List (Str × Nat)} {pos spos : Pos} {wi : TI} {g : TG} {tt : TT} {tk tv : TE} (hu : X.A.units < cLine) (hc : X.calm = true) (hN : X.N.Nodup) (hy : X.N[i]? = some y) (hyl : X.env.scope.names.lookup y = some .local)
    (hsw : swapsWith (.DictComp kx vx [⟨tg, iter, ifs, 0⟩] scope pos) (some (.Name y py)) spos.line X.env = pure true) (hi : PI X tg iter wi) (ok : BlkOk X.N X.env.scope scope own)
    (hg : ∀ (s : Shared) (H : Hp) (C : Addr) (cl : List (Str × Addr)) (fp : List Addr), PG (X.blk s H scope (compEnvC scope cl C X.env) fp) tg g) (ht : ∀ (s : Shared) (H : Hp) (C : Addr) (cl : List (Str × Addr)) (fp : List Addr), PTs (X.blk s H scope (compEnvC scope cl C X.env) fp) ifs tt)
    (hk : ∀ (s : Shared) (H : Hp) (C : Addr) (cl : List (Str × Addr)) (fp : List Addr), PE (X.blk s H scope (compEnvC scope cl C X.env) fp) kx tk) (hv : ∀ (s : Shared) (H : Hp) (C : Addr) (cl : List (Str × Addr)) (fp : List Addr), PE (X.blk s H scope (compEnvC scope cl C X.env) fp) vx tv)
    (hs : ∀ x, foldedSetIterable iter X.env x = pure x := by intro _; rfl) : PS X (.Assign [.Name y py] (.DictComp kx vx [⟨tg, iter, ifs, 0⟩] scope pos) spos) (tAsg (tDct wi g tt tk tv (own.map (·.2))) (gName i)) := by
  refine ⟨fun pins s σ H Dn I h => ?_⟩
  rw [exec_Assign_Name_used _ _ _ _ hsw]
  refine wpAny_bind (wpAny_standAt (wpAny_bind ?_))
  show wpAny _ X.A (do let _ ← comprehension (.DictComp kx vx [⟨tg, iter, ifs, 0⟩] scope pos) scope X.env (firstIterPos [⟨tg, iter, ifs, 0⟩] pos) newDict false (eval iter X.env) (some (assign (.Name y py) X.env))) _ _ s
  have h : tDct wi g tt tk tv (own.map (·.2)) σ H (fun x H1 => gName i x σ H1 Dn.nx) := h
  refine wpAny_bind (thn (dct_core (Qf := fun _ t => SP X pins Dn .next t) hu hc hN I hi ok hg ht hk hv hs h fun D C t m H' J' q hn f => ?_) fun _ t hq => wpAny_pure (wpAny_pure hq))
  show wpAny _ _ (assign (.Name y py) X.env (.ref D)) _ _ _
  refine wpAny_assign_Name (store_ok2 (v := V.ref D) J' hN hy (.inl hyl) rfl (fun s2 I2 ⟨a, sb, ha⟩ => ?_) (.inr hyl))
  obtain ⟨f0, f1, f2, f3, f4, f5⟩ := f
  have ne : C ≠ a := ha.elim (fun z => by rw [z]; exact f1) fun z e => f4 y a z e.symm
  exact ⟨m, hn.sameBut sb ne, fun h3 sb3 => ⟨_, H', I2.turned (t' := s2.toks) (fun b o hb e => (sb3.2 b hb).trans e) f0 f1 f3 f4 f5, q⟩⟩
end

/-! ### over data -/
def dDctL (g : DG) (dt : DT) (dk dv : DE) (vs : List Nat) (stay : Mem → Prop) (ρ : Rho) (Q : List (List Key × D) → Mem → Prop) : List D → List (List Key × D) → Mem → Prop
  | [], acc, M => stay M ∧ Q acc M
  | d :: ds, acc, M => stay M ∧ g d (dwipe ρ vs) M fun ρ1 M1 => dt ρ1 M1 fun b M2 => if b = true then dk ρ1 M2 fun y M3 => dv ρ1 M3 fun z M4 => ∃ k, keyT y = some k ∧ acc.length < sizeLine ∧ dDctL g dt dk dv vs stay ρ Q ds (dput acc k z) M4 else dDctL g dt dk dv vs stay ρ Q ds acc M2
theorem dDctL_stay {g : DG} {dt : DT} {dk dv : DE} {vs : List Nat} {stay : Mem → Prop} {ρ : Rho} {Q : List (List Key × D) → Mem → Prop} {ds : List D} {acc : List (List Key × D)} {M : Mem} (h : dDctL g dt dk dv vs stay ρ Q ds acc M) : stay M := by
  cases ds with
  | nil => exact h.1
  | cons d ds => exact h.1
def dDct (di : DI) (g : DG) (dt : DT) (dk dv : DE) (vs : List Nat) : DE := fun ρ M Q => di ρ M fun items stay M1 => dDctL g dt dk dv vs stay ρ (fun acc M2 => ∀ p, M2 p = none → Q (.obj p) (Dl.st M2 p (.dt acc))) items [] M1
section
variable {X : Cx} {F : Fm} {tg kx vx iter : Expr} {ifs : List Expr} {scope : Scope} {own : List (Str × Nat)} {pos : Pos} {di : DI} {g : DG} {dt : DT} {dk dv : DE}
theorem dct_imp : ∀ σ H Q, LE X.K F (dDct di g dt dk dv (own.map (·.2))) σ H Q → tDct (LI X.K F di) (LXG X.K F (own.map (·.2)) g) (LXT X.K F dt) (LX X.K F dk) (LX X.K F dv) (own.map (·.2)) σ H Q :=
  fun σ H Q ⟨G, ρ, M, post, hr, sr, d, k⟩ => ⟨G, ρ, M, _, hr, sr, d, fun G1 H1 M1 items stay J s1 h1 io q1 => fun D hD => by
    obtain ⟨Gp, Y, wk, w1, w2⟩ := io.ex
    have hrr := (h1.mnone hD).2.2
    refine ⟨fun i m H' => i + m = items.length ∧ ∃ G' M' acc ys, Same G1 G' ∧ HRel X.K ⟨F.B, upd F.R D (.dT ys)⟩ G' H' M' ∧ ys.map (·.1) = acc.map (·.1) ∧ Reps X.K G' (ys.map (·.2)) (acc.map (·.2)) ∧ dDctL g dt dk dv (own.map (·.2)) stay ρ (fun acc M2 => ∀ p, M2 p = none → post (.obj p) (Dl.st M2 p (.dt acc))) (items.drop i) acc M',
      ⟨items.length, by omega, G1, M1, [], [], Same.refl _, h1.hide hD (fun _ z => nomatch z), rfl, .nil, q1⟩, ?_⟩
    rintro i m H' ⟨him, G', M', acc, ys, s, hr', ek, rs, h⟩
    by_cases hi : i < items.length
    · refine .inr ⟨wk.goes i H' hi (w1 _ G' H' M' s hr' (dDctL_stay h)), fun H2 => ∃ G' M' acc ys, Same G1 G' ∧ HRel X.K ⟨F.B, upd F.R D (.dT ys)⟩ G' H2 M' ∧ ys.map (·.1) = acc.map (·.1) ∧ Reps X.K G' (ys.map (·.2)) (acc.map (·.2)) ∧ dDctL g dt dk dv (own.map (·.2)) stay ρ (fun acc M2 => ∀ p, M2 p = none → post (.obj p) (Dl.st M2 p (.dt acc))) (items.drop (i + 1)) acc M',
        fun H2 hh => ⟨m - 1, by omega, by omega, hh⟩, fun x H2 y => ?_⟩
      have l : ∀ zs : List (List Key × V), Fm.Le F ⟨F.B, upd F.R D (.dT zs)⟩ := fun zs => ⟨rfl, same_upd hrr⟩
      obtain ⟨G2, dd, s2, hr2, e, rx⟩ := w2 i _ G' H' M' x H2 hi s hr' (dDctL_stay h) (wk.yields i H' x H2 hi (w1 _ G' H' M' s hr' (dDctL_stay h)) y)
      have ed : items.drop i = dd :: items.drop (i + 1) := by
        rw [List.drop_eq_getElem_cons hi]
        rw [List.getElem?_eq_getElem hi] at e
        rw [Option.some.inj e]
      rw [ed] at h
      have sr2 : SRel X.K G2 σ ρ := sr.mono (s1.trans (s.trans s2))
      refine ⟨_, l ys, G2, dwipe ρ _, M', dd, _, hr2, wipe_rel sr2 _, rx, h.2, fun G3 σ3 H3 ρ3 M3 s3 hr3 sr3 o3 q3 => ⟨?_, _, l ys, G3, ρ3, M3, _, hr3, sr3, q3, fun G4 H4 M4 b s4 hr4 q4 => ?_⟩⟩
      · rw [o3.wipe]
        refine List.ext_getElem? fun j => ?_
        rw [wipe_get, wipe_length]
        by_cases hj : j ∈ own.map (·.2) ∧ j < σ.length
        · rw [if_pos hj, wipe_get, if_pos hj]
        · rw [if_neg hj]
      · cases b with
        | false => exact ⟨G4, M4, acc, ys, s.trans (s2.trans (s3.trans s4)), hr4, ek, rs.mono (s2.trans (s3.trans s4)), q4⟩
        | true =>
          refine ⟨_, l ys, G4, ρ3, M4, _, hr4, sr3.mono s4, q4, fun G5 H5 M5 yk vk s5 hr5 rk q5 => ⟨_, l ys, G5, ρ3, M5, _, hr5, sr3.mono (s4.trans s5), q5, fun G6 H6 M6 z v s6 hr6 rz ⟨kk, ekk, hlen, q6⟩ => ?_⟩⟩
          obtain ⟨b, rfl, hb⟩ := rk.keyT ekk
          have ely : ys.length = acc.length := by simpa using congrArg List.length ek
          refine ⟨ys, kk, b, rfl, hr6.sub _ _ (s6 _ _ hb), hr6.rs D _ upd_same, by omega, G6, M6, dput acc kk v, putK ys kk z, s.trans (s2.trans (s3.trans (s4.trans (s5.trans s6)))), hr6.hidden (fun _ z => nomatch z), ?_, ?_, q6⟩
          · rw [putK_dput]; exact dput_fst kk v z ek
          · rw [putK_dput]; exact Reps.dput rz ek (rs.mono (s2.trans (s3.trans (s4.trans (s5.trans s6)))))
    · have ei : i = items.length := by omega
      subst ei
      rw [List.drop_length] at h
      obtain ⟨hst, h⟩ := h
      refine .inl ⟨wk.stops H' (w1 _ G' H' M' s hr' hst), ?_⟩
      have hh : H' D = some (.dT ys) := hr'.rs D _ upd_same
      have hm1 : M' D = none := by
        cases q : M' D with
        | none => rfl
        | some c =>
          have z : upd F.R D (.dT ys) D = none := (hr'.cell D c q).2.2
          rw [upd_same] at z; cases z
      exact k _ _ _ _ _ (s1.trans s) (hr'.shownC (c := .dt acc) hrr ⟨_, hh, ek, rs⟩) .obj (h D hm1)⟩
theorem pd_dct (hu : X.A.units + 64 < cLine) (hc : X.calm = true) (hN : X.N.Nodup) (hi : PDI X F tg iter di) (ok : BlkOk X.N X.env.scope scope own)
    (hg : ∀ (s : Shared) (H : Hp) (C : Addr) (cl : List (Str × Addr)) (fp : List Addr) (F' : Fm), Fm.Le F F' → PDGv (blkX X s H scope C cl fp) F' (own.map (·.2)) tg g)
    (ht : ∀ (s : Shared) (H : Hp) (C : Addr) (cl : List (Str × Addr)) (fp : List Addr) (F' : Fm), Fm.Le F F' → PDTs (blkX X s H scope C cl fp) F' ifs dt)
    (hk : ∀ (s : Shared) (H : Hp) (C : Addr) (cl : List (Str × Addr)) (fp : List Addr) (F' : Fm), Fm.Le F F' → PD (blkX X s H scope C cl fp) F' kx dk)
    (hv : ∀ (s : Shared) (H : Hp) (C : Addr) (cl : List (Str × Addr)) (fp : List Addr) (F' : Fm), Fm.Le F F' → PD (blkX X s H scope C cl fp) F' vx dv)
    (hs : ∀ x, foldedSetIterable iter X.env x = pure x := by intro _; rfl) : PD X F (.DictComp kx vx [⟨tg, iter, ifs, 0⟩] scope pos) (dDct di g dt dk dv (own.map (·.2))) :=
  pe_imp (pe_dct (by omega) hc hN hi ok (g := LXG X.K F (own.map (·.2)) g) (tt := LXT X.K F dt) (tk := LX X.K F dk) (tv := LX X.K F dv)
    (fun s H C cl fp => ⟨fun pins s' σ H' v u Q I r ⟨F', l, q⟩ => (hg s H C cl fp F' l).run pins s' σ H' v u Q I r q⟩)
    (fun s H C cl fp => ⟨fun pins s' σ H' Q I ⟨F', l, q⟩ => (ht s H C cl fp F' l).run pins s' σ H' Q I q⟩)
    (fun s H C cl fp => ⟨fun pins s' σ H' Q I ⟨F', l, q⟩ => (hk s H C cl fp F' l).run pins s' σ H' Q I q⟩)
    (fun s H C cl fp => ⟨fun pins s' σ H' Q I ⟨F', l, q⟩ => (hv s H C cl fp F' l).run pins s' σ H' Q I q⟩) hs) dct_imp
theorem swd_true {kx vx : Expr} {gs : List Comprehension} {scope : Scope} {pos py : Pos} {y : Str} {l : Nat} {env : Env} (hk : env.scope.kind = .function) (hy : env.scope.names.lookup y = some .local) (hl : (py.line == pos.line) = true)
    (ha : (scope.names.any fun (n, k) => n == y && (k == .local || k == .cell)) = false) : swapsWith (.DictComp kx vx gs scope pos) (some (.Name y py)) l env = pure true := by
  have k1 : env.kindOf y = some .local := hy
  have k2 : env.blockKind = .function := by unfold Env.blockKind; rw [hk]; rfl
  unfold swapsWith
  simp only [k2, k1, ha, Expr.pos, hl]
  rfl
/-- name = {..} on one line -/
theorem pds_setdct (hu : X.A.units + 64 < cLine) (hc : X.calm = true) (hN : X.N.Nodup) (hi : PDI X F tg iter di) (ok : BlkOk X.N X.env.scope scope own)
    (hg : ∀ (s : Shared) (H : Hp) (C : Addr) (cl : List (Str × Addr)) (fp : List Addr) (F' : Fm), Fm.Le F F' → PDGv (blkX X s H scope C cl fp) F' (own.map (·.2)) tg g)
    (ht : ∀ (s : Shared) (H : Hp) (C : Addr) (cl : List (Str × Addr)) (fp : List Addr) (F' : Fm), Fm.Le F F' → PDTs (blkX X s H scope C cl fp) F' ifs dt)
    (hk : ∀ (s : Shared) (H : Hp) (C : Addr) (cl : List (Str × Addr)) (fp : List Addr) (F' : Fm), Fm.Le F F' → PD (blkX X s H scope C cl fp) F' kx dk)
    (hv : ∀ (s : Shared) (H : Hp) (C : Addr) (cl : List (Str × Addr)) (fp : List Addr) (F' : Fm), Fm.Le F F' → PD (blkX X s H scope C cl fp) F' vx dv)
    (i : Nat) {y : Str} {py spos : Pos} (hy : X.N[i]? = some y) (hyl : X.env.scope.names.lookup y = some .local) (hsw : swapsWith (.DictComp kx vx [⟨tg, iter, ifs, 0⟩] scope pos) (some (.Name y py)) spos.line X.env = pure true)
    (hs : ∀ x, foldedSetIterable iter X.env x = pure x := by intro _; rfl) : PDS X F (.Assign [.Name y py] (.DictComp kx vx [⟨tg, iter, ifs, 0⟩] scope pos) spos) (dSet i (dDct di g dt dk dv (own.map (·.2)))) :=
  ps_imp (ps_setDct (i := i) (by omega) hc hN hy hyl hsw hi ok (g := LXG X.K F (own.map (·.2)) g) (tt := LXT X.K F dt) (tk := LX X.K F dk) (tv := LX X.K F dv)
    (fun s H C cl fp => ⟨fun pins s' σ H' v u Q I r ⟨F', l, q⟩ => (hg s H C cl fp F' l).run pins s' σ H' v u Q I r q⟩)
    (fun s H C cl fp => ⟨fun pins s' σ H' Q I ⟨F', l, q⟩ => (ht s H C cl fp F' l).run pins s' σ H' Q I q⟩)
    (fun s H C cl fp => ⟨fun pins s' σ H' Q I ⟨F', l, q⟩ => (hk s H C cl fp F' l).run pins s' σ H' Q I q⟩)
    (fun s H C cl fp => ⟨fun pins s' σ H' Q I ⟨F', l, q⟩ => (hv s H C cl fp F' l).run pins s' σ H' Q I q⟩) hs) fun Dn σ H ⟨G, ρ, M, E, hr, sr, d, q⟩ =>
      dct_imp σ H _ ⟨G, ρ, M, _, hr, sr, d, fun G' H' M' x v s h r q' => q.nx G' _ H' _ M' s h ((sr.mono s).set r i) q'⟩
end
end Dl

/-! Dl17: a module's dict of texts to ints, read. -/
namespace Dl
open L2 PySem PyProof.Rows PySem.Spec

section
variable {X : Cx} {F : Fm} {pos p : Pos} {b : Expr} {db : DE}
theorem ix_kd {d : Addr} {es : Array DictEntry} {n : Nat} (D : KDict X.K X.w d es n) : IxR X (fun x y H Q => ∃ (z : Str) (u0 : Value) (v0 : V), x = .ref d ∧ y = .str z ∧ PySem.W.nsIn X.K d z = some (some u0) ∧ RelV v0 u0 ∧ Q v0 H) := by
  intro value slice pins s σ H x y v u Q I rx ry h hs
  obtain ⟨z, u0, v0, rfl, rfl, e, r, q⟩ := h
  have rx0 := rx
  cases rx0
  exact tail_any (kd_type D I) PySem.F.slot_dict_getitem.lookup (op_item_kd D pins s σ H (.ref d) (.str z) _ _ Q I rx ry ⟨z, u0, v0, rfl, rfl, e, r, q⟩) hs
def dKix (tab : List (Str × Int)) (db : DE) : DE := fun ρ M Q => db ρ M fun w M1 => match w with
  | .str z => (match dget tab z with
    | some i => Q (.int i) M1
    | none => False)
  | _ => False
theorem dget_mem {tab : List (Str × Int)} {z : Str} {i : Int} (h : dget tab z = some i) : (z, i) ∈ tab := by
  induction tab with
  | nil => cases h
  | cons q tab ih =>
    obtain ⟨j, v⟩ := q
    unfold dget at h
    by_cases e : j = z
    · rw [if_pos e] at h
      cases h
      subst e
      exact List.mem_cons_self
    · rw [if_neg e] at h
      exact List.mem_cons_of_mem _ (ih h)
/-- x[b], x a module's dict -/
theorem pd_kdix {x : Str} {a : Addr} {tab : List (Str × Int)} (D : ∃ es n, KDict X.K X.w a es n) (hm : X.mg x = some (.ref a)) (hv : ∀ q ∈ tab, ∃ t, PySem.W.nsIn X.K a q.1 = some (some (.int q.2 t))) (hb : PD X F b db)
    (hg : Gl X x := by rfl) (hd : (x == ("__debug__" : Str)) = false := by decide) (hs : PlainIx b := by intro _ _; rfl) : PD X F (.Subscript (.Name x p) b pos) (dKix tab db) := by
  obtain ⟨es, n, D⟩ := D
  refine pe_imp (pe_ix (ix_kd D) (pe_glob (v := .ref a) hg hm rfl hd) hb hs) fun σ H Q ⟨G, ρ, M, post, hr, sr, d, k⟩ => ?_
  refine ⟨G, ρ, M, _, hr, sr, d, fun G1 H1 M1 y w s1 h1 ry q1 => ?_⟩
  cases w with
  | str z =>
    cases ry
    dsimp only at q1
    cases ql : dget tab z with
    | none => rw [ql] at q1; exact q1.elim
    | some i =>
      rw [ql] at q1
      obtain ⟨t, ht⟩ := hv _ (dget_mem ql)
      exact ⟨z, _, .int i, rfl, rfl, ht, ⟨t, rfl⟩, (k.later s1).here h1 .int q1⟩
  | _ => exact (show False from q1).elim
end
theorem tab_vals {K : Fg} {a : Addr} {tab : List (Str × Int)} (h : He.valsB K a (tab.map fun q => (q.1, He.Dv.int q.2)) = true) : ∀ q ∈ tab, ∃ t, PySem.W.nsIn K a q.1 = some (some (.int q.2 t)) := fun q hq => by
  obtain ⟨u, e, r⟩ := He.valsB_ok h (List.mem_map.mpr ⟨q, hq, rfl⟩)
  obtain ⟨t, rfl⟩ := (show ∃ t, u = Value.int q.2 t from r)
  exact ⟨t, e⟩
end Dl

/-! Dl18: extend, dict(d), sorted of dicts under ints, dicts joined by a stroke, dict comprehensions under ints and texts. -/
namespace Dl
open L2 PySem PyProof.Rows PySem.Spec

/-! ### extend -/
def f_extend : DM := fun v vs M Q => match v, vs with
  | .obj l, [w] => (match M l, (match w with
      | .lst es => some es
      | .obj b => (match M b with
        | some (.lst es) => some es
        | _ => none)
      | _ => none) with
    | some (.lst ds), some es => ds.length + es.length ≤ sizeLine ∧ Q .non (st M l (.lst (ds ++ es)))
    | _, _ => False)
  | _, _ => False
theorem ref_extend {K : Fg} {F : Fm} : RefM K F rExtend f_extend := by
  intro G H M x v xs vs post Q hr rx rs d k
  unfold f_extend at d
  split at d
  · rename_i l w
    cases rx
    cases rs with
    | cons ry t =>
      cases t
      split at d
      · rename_i ds es e1 e2
        obtain ⟨ys, h1, h2⟩ := (hr.cell l _ e1).1
        have key2 : ∀ {y : V}, Rep K G y w → ∃ b zs, y = .ref b ∧ H b = some (.lst zs) ∧ Reps K G zs es := by
          intro y ry
          cases w with
          | lst us =>
            cases e2
            cases ry with
            | lst hg r => exact ⟨_, _, rfl, hr.sub _ _ hg, r⟩
          | obj b =>
            cases ry
            dsimp only at e2
            cases q : M b with
            | none => rw [q] at e2; cases e2
            | some c =>
              rw [q] at e2
              cases c with
              | lst us =>
                cases e2
                obtain ⟨zs, g1, g2⟩ := (hr.cell b _ q).1
                exact ⟨b, zs, rfl, g1, g2⟩
              | _ => cases e2
          | _ => cases e2
        obtain ⟨b, zs, rfl, g1, g2⟩ := key2 ry
        refine ⟨l, b, ys, zs, rfl, rfl, h1, g1, by rw [h2.length, g2.length]; exact d.1, ?_⟩
        exact k _ _ _ _ _ (Same.refl _) (hr.write (c' := .lst _) e1 ⟨_, upd_same, h2.app g2⟩) .non d.2
      · exact d.elim
  · exact d.elim
section
variable {X : Cx} {F : Fm} {pos p apos cpos : Pos} {a b e : Expr} {da db : DE} {dA : DA}
theorem pd_extend (ho : PD X F a da) (ha : PDA X F [e] dA)
    (hbase : attributeBase a "extend" X.env (eval a X.env) = eval a X.env := by rfl)
    (hfew : ((backTo cpos (starEach [e] X.env)).all (fun x => !x.1) && (backToKw cpos (keywordEach [] X.env)).all (fun x => x.1.isSome)
      && decide (([e] : List Expr).length + ([] : List Keyword).length + (if ([] : List Keyword).isEmpty then 0 else 1) < 30)) = true := by rfl)
    (hline : (apos.endLine == cpos.line) = true := by rfl) (hs : starEach [e] X.env = (false, eval e X.env) :: starEach [] X.env := by rfl) :
    PD X F (.Call (.Attribute a "extend" apos) [e] [] cpos) (dMt "list" f_extend da dA) :=
  pd_mt PySem.F.plainAttrs_list PySem.F.slot_list_extend PySem.F.type_list_extend mt_extend ref_extend ho ha hbase hfew hline hs rfl
/-! ### dicts under ints and texts, as data -/
def dkD (v : D) (M : Mem) : Option (List (Key × D)) := match v with
  | .dk kvs => some kvs
  | .obj a => (match M a with
    | some (.dk kvs) => some kvs
    | _ => none)
  | _ => none
theorem dkD_ok {K : Fg} {F : Fm} {G H : Hp} {M : Mem} {x : V} {v : D} {kvs : List (Key × D)} (hr : HRel K F G H M) (rx : Rep K G x v) (e : dkD v M = some kvs) : ∃ a ys, x = .ref a ∧ Rd H a (.dK ys) ∧ ys.map (·.1) = kvs.map (·.1) ∧ Reps K G (ys.map (·.2)) (kvs.map (·.2)) := by
  unfold dkD at e
  cases rx with
  | dk h e1 r => cases e; exact ⟨_, _, rfl, .inr (h.imp fun _ q => hr.sub _ _ q), e1, r⟩
  | obj =>
    rename_i a
    dsimp only at e
    cases q : M a with
    | none => rw [q] at e; cases e
    | some c =>
      rw [q] at e
      cases c with
      | dk kvs => cases e; obtain ⟨ys, h1, h2, h3⟩ := (hr.cell a _ q).1; exact ⟨a, ys, rfl, .inl h1, h2, h3⟩
      | _ => cases e
  | _ => cases e
/-- dict(d): a copy -/
def f_dictD : DN := fun vs M Q => match vs with
  | [v] => (match dkD v M with
    | some kvs => ∀ p, M p = none → Q (.obj p) (st M p (.dk kvs))
    | none => False)
  | _ => False
theorem ref_dictD {K : Fg} : RefN K F (fun xs H Q => ∃ (a : Addr) (kvs : List (Key × V)), xs = [.ref a] ∧ Rd H a (.dK kvs) ∧ ∀ p, H p = none → Q (.ref p) (upd H p (.dK kvs))) f_dictD := by
  intro G H M xs vs post Q hr rs d k
  unfold f_dictD at d
  split at d
  · rename_i v
    cases rs with
    | cons rx t =>
      cases t
      cases e : dkD v M with
      | none => rw [e] at d; exact d.elim
      | some kvs =>
        rw [e] at d
        obtain ⟨a, ys, rfl, rd, e1, r⟩ := dkD_ok hr rx e
        refine ⟨a, ys, rfl, rd, fun p hp => ?_⟩
        exact k.newC hr hp (c := .dk kvs) ⟨ys, upd_same, e1, r⟩ (d p (hr.mnone hp).1)
  · exact d.elim
theorem pd_dictD (hm : X.mg "dict" = none) (ha : PDA X F [a] dA) (hg : Gl X "dict" := by rfl) (he : starEach [a] X.env = (false, eval a X.env) :: starEach [] X.env := by rfl) : PD X F (.Call (.Name "dict" p) [a] [] pos) (dCB f_dictD dA) :=
  pd_cTy call_dictD ref_dictD hm ha (by decide +kernel) hg (by decide) (by decide) he rfl
/-- the ints that are a dict's keys -/
def intKs : List Key → Option (List Int)
  | [] => some []
  | .inl i :: r => (intKs r).map (i :: ·)
  | _ :: _ => none
theorem intKs_ok : ∀ {ks : List Key} {is : List Int}, intKs ks = some is → ks = is.map Sum.inl
  | [], _, e => by cases e; rfl
  | .inl i :: r, is, e => by
    obtain ⟨js, e1, rfl⟩ := Option.map_eq_some_iff.mp (show (intKs r).map (i :: ·) = some is from e)
    rw [List.map_cons, ← intKs_ok e1]
  | .inr _ :: _, _, e => by cases e
/-- sorted(d), fewer than 64 ints -/
def f_sortDI : DN := fun vs M Q => match vs with
  | [v] => ∃ kvs ks, dkD v M = some kvs ∧ intKs (kvs.map (·.1)) = some ks ∧ ks.length < 64 ∧ ∀ ys : List Int, ys.Perm ks → ys.Pairwise (· ≤ ·) → Q (.lst (ys.map D.int)) M
  | _ => False
theorem ref_sortDI {K : Fg} : RefN K F (fun xs H Q => ∃ (a : Addr) (kvs : List (Key × V)) (ks : List Int), xs = [.ref a] ∧ Rd H a (.dK kvs) ∧ kvs.map (·.1) = ks.map Sum.inl ∧ ks.length < 64 ∧
    ∀ (ys : List Int) (p : Addr), ys.Perm ks → ys.Pairwise (· ≤ ·) → H p = none → Q (.ref p) (upd H p (.lst (ys.map V.int)))) f_sortDI := by
  intro G H M xs vs post Q hr rs d k
  unfold f_sortDI at d
  split at d
  · rename_i v
    obtain ⟨kvs, ks, e, ei, l64, d⟩ := d
    cases rs with
    | cons rx t =>
      cases t
      obtain ⟨a, ys, rfl, rd, e1, r⟩ := dkD_ok hr rx e
      refine ⟨a, ys, ks, rfl, rd, by rw [e1, intKs_ok ei], l64, fun zs p h1 h2 hp => ?_⟩
      exact k.new hr hp (.lst upd_same Reps.ints) (d zs h1 h2)
  · exact d.elim
theorem pd_sortDI (hc : X.calm = true) (hm : X.mg "sorted" = none) (ha : PDA X F [a] dA) (hg : Gl X "sorted" := by rfl) (he : starEach [a] X.env = (false, eval a X.env) :: starEach [] X.env := by rfl) : PD X F (.Call (.Name "sorted" p) [a] [] pos) (dCB f_sortDI dA) :=
  pd_cB (call_sortedDI hc) ref_sortDI hm ha (by decide +kernel) hg (by decide) (by decide) he rfl
end
/-! ### d | e -/
def dmergeK (kvs more : List (Key × D)) : List (Key × D) := more.foldl (fun acc kv => dput acc kv.1 kv.2) kvs
theorem merge_fst : ∀ {more : List (Key × D)} {ms : List (Key × V)} {kvs : List (Key × D)} {ys : List (Key × V)}, ms.map (·.1) = more.map (·.1) → ys.map (·.1) = kvs.map (·.1) → (mergeK ys ms).map (·.1) = (dmergeK kvs more).map (·.1)
  | [], [], _, _, _, e => e
  | [], _ :: _, _, _, e, _ => by cases e
  | _ :: _, [], _, _, e, _ => by cases e
  | (k, v) :: more, (k', u) :: ms, kvs, ys, e, e2 => by
    rw [List.map_cons, List.map_cons] at e
    injection e with ek e
    have ek : k' = k := ek
    subst ek
    show (mergeK (putK ys k' u) ms).map (·.1) = (dmergeK (dput kvs k' v) more).map (·.1)
    exact merge_fst e (by rw [putK_dput]; exact dput_fst k' v u e2)
theorem merge_reps {K : Fg} {G : Hp} : ∀ {more : List (Key × D)} {ms : List (Key × V)} {kvs : List (Key × D)} {ys : List (Key × V)}, ms.map (·.1) = more.map (·.1) → Reps K G (ms.map (·.2)) (more.map (·.2)) → ys.map (·.1) = kvs.map (·.1) → Reps K G (ys.map (·.2)) (kvs.map (·.2)) → Reps K G ((mergeK ys ms).map (·.2)) ((dmergeK kvs more).map (·.2))
  | [], [], _, _, _, _, _, r => r
  | [], _ :: _, _, _, e, _, _, _ => by cases e
  | _ :: _, [], _, _, e, _, _, _ => by cases e
  | (k, v) :: more, (k', u) :: ms, kvs, ys, e, rm, e2, r => by
    rw [List.map_cons, List.map_cons] at e
    injection e with ek e
    have ek : k' = k := ek
    subst ek
    cases rm with
    | cons ru rt =>
      show Reps K G ((mergeK (putK ys k' u) ms).map (·.2)) ((dmergeK (dput kvs k' v) more).map (·.2))
      refine merge_reps e rt (by rw [putK_dput]; exact dput_fst k' v u e2) ?_
      rw [putK_dput]
      exact Reps.dput ru e2 r
theorem merge_length : ∀ (more kvs : List (Key × D)), (dmergeK kvs more).length ≤ kvs.length + more.length
  | [], kvs => Nat.le_refl _
  | kv :: more, kvs => by
    have h1 : (dput kvs kv.1 kv.2).length ≤ kvs.length + 1 := by
      unfold dput
      split
      · have : ∀ l : List (Key × D), (dsub l kv.1 kv.2).length = l.length := fun l => by
          have := congrArg List.length (dsub_fst kv.1 kv.2 l)
          rwa [List.length_map, List.length_map] at this
        rw [this]; omega
      · rw [List.length_append]; exact Nat.le_refl _
    have h2 := merge_length more (dput kvs kv.1 kv.2)
    show (dmergeK (dput kvs kv.1 kv.2) more).length ≤ _
    rw [List.length_cons]; omega
section
variable {prog : Program} {w : World} {A : Around} {E : Value → Shared → Prop} {s : Shared}
theorem or_runs {d o : Addr} {kvs more : List (Key × Value)} {Q : Fin → Shared → Prop} (hd : (d == sysModules) = false) (ho : (o == sysModules) = false) (dd : s.heap.DictOf (mixKind prog w) d kvs) (oo : s.heap.DictOf (mixKind prog w) o more)
    (hz : kvs.length + more.length ≤ sizeLine) (h : ∀ h', h'.DictOf (mixKind prog w) s.heap.objs.size (merged kvs more) → (∀ b u, s.heap.get? b = some u → h'.get? b = some u) → Q (.done (.ret (.ref s.heap.objs.size))) { s with heap := h' }) :
    wpAny (model prog w) A (Builtin.«dict.__or__» ⟨[.ref d, .ref o], []⟩) Q E s := by
  unfold Builtin.«dict.__or__»
  refine wpAny_bind ?_
  unfold Builtin.Dict.dictSlotArgs
  refine wpAny_bind (wpAny_notOrdered_dict dd.typeIs ?_)
  refine wpAny_bind (m := slotArgs "__or__" 1 _) (wpAny_pure ?_)
  refine wpAny_pure ?_
  show wpAny _ _ ((isInstance (.ref d) (.type "dict") <&&> isInstance (.ref o) (.type "dict")) >>= _) _ _ s
  refine wpAny_bind ?_
  show wpAny _ _ (isInstance (.ref d) (.type "dict") >>= _) _ _ s
  refine wpAny_bind (wpAny_isInstance dd.typeIs isSubtype_dict_dict ?_)
  show wpAny _ _ (isInstance (.ref o) (.type "dict")) _ _ s
  refine wpAny_isInstance oo.typeIs isSubtype_dict_dict ?_
  show wpAny _ _ (Builtin.Dict.copyOf "dict.__or__" (.ref d) >>= _) _ _ s
  refine wpAny_bind ?_
  obtain ⟨q, es, ep, hq, hc, hdat, hk, hp, hn⟩ := id dd
  have hes : es.size ≤ sizeLine + 1 := by
    have e1 := hp.length
    have e2 : es.toList.length = es.size := by simp
    omega
  -- what stands behind the copy
  have tail : ∀ es' : Array DictEntry, es' = es → wpAny (model prog w) A (holding [Value.ref s.heap.objs.size] (do
      let na ← Builtin.Dict.addrOf (Value.ref s.heap.objs.size)
      Builtin.Dict.updateFrom "dict.__or__" na (.ref o) [] (Value.ref s.heap.objs.size))) Q E { s with heap := s.heap.push { cls := .type "dict", data := .dict es' } } := by
    rintro es' rfl
    refine wpAny_holding (wpAny_bind (wpAny_pure ?_))
    have dn : (s.heap.push { cls := .type "dict", data := .dict es' }).DictOf (mixKind prog w) s.heap.objs.size kvs := ⟨_, es', 0, Heap.get?_push_size _ rfl, ⟨rfl, rfl, rfl⟩, rfl, hk, hp, hn⟩
    have on : (s.heap.push { cls := .type "dict", data := .dict es' }).DictOf (mixKind prog w) o more := oo.push _
    have ne : s.heap.objs.size ≠ o := fun z => by
      obtain ⟨_, _, _, h1, _⟩ := oo
      have := Heap.lt_size h1
      rw [z] at this
      exact Nat.lt_irrefl _ this
    unfold Builtin.Dict.updateFrom
    refine wpAny_bind (wpAny_typeOf on.typeIs ?_)
    rw [if_neg (by decide)]
    refine wpAny_bind ?_
    unfold Builtin.Dict.merge
    refine wpAny_bind ?_
    unfold Builtin.Dict.readDirectly
    refine wpAny_bind (wpAny_isInstance on.typeIs isSubtype_dict_dict ?_)
    simp only [Bool.not_true, Bool.false_eq_true, if_false]
    refine wpAny_bind (wpAny_specialOf on.typeIs PySem.F.slot_dict_iter.lookup (wpAny_pure ?_))
    simp only [beq_self_eq_true, if_true]
    refine wpAny_bind (wpAny_pure ?_)
    refine wpAny_mergeDict (hsz := hz) ne ho dn on fun h' hd' ho' hs' => ?_
    show wpAny _ _ (Builtin.Dict.addKeywords s.heap.objs.size [] >>= _) _ _ _
    refine wpAny_bind (wpAny_pure (wpAny_pure (h h' hd' fun b u e => ?_)))
    exact (hs'.2 b (Nat.ne_of_lt (Heap.lt_size e))).trans (Heap.get?_push_of_some _ e)
  unfold Builtin.Dict.copyOf
  refine wpAny_bind (wpAny_pure ?_)
  unfold Builtin.Dict.showsAll
  rw [if_neg (by rw [hd]; exact Bool.false_ne_true)]
  refine wpAny_bind (wpAny_pure ?_)
  refine wpAny_bind (wpAny_dictEntries hq hdat ?_)
  by_cases hemp : es.isEmpty = true
  · rw [if_pos hemp]
    refine wpAny_bind (wpAny_rule (wpAny_newObj_type ?_))
    exact tail #[] (Array.isEmpty_iff.mp hemp).symm
  · rw [if_neg hemp]
    refine wpAny_bind ?_
    unfold Builtin.Dict.readDirectly
    refine wpAny_bind (wpAny_isInstance dd.typeIs isSubtype_dict_dict ?_)
    simp only [Bool.not_true, Bool.false_eq_true, if_false]
    refine wpAny_bind (wpAny_specialOf dd.typeIs PySem.F.slot_dict_iter.lookup (wpAny_pure ?_))
    simp only [beq_self_eq_true, if_true]
    refine wpAny_bind (wpAny_entriesForEmpty (knd := mixKind prog w) hq hdat hk (wpAny_newObj_type ?_ hes))
    exact tail es rfl
end
def f_bor : D2 := fun v w M Q => match dkD v M, dkD w M with
  | some kvs, some more => kvs.length + more.length ≤ sizeLine ∧ ∀ p, M p = none → Q (.obj p) (st M p (.dk (dmergeK kvs more)))
  | _, _ => False
section
variable {X : Cx} {F : Fm} {pos : Pos} {a b : Expr} {da db : DE}
theorem op_bor : OpR X (binaryOp .BitOr) (fun x y H Q => ∃ (d o : Addr) (kvs more : List (Key × V)), x = .ref d ∧ y = .ref o ∧ Rd H d (.dK kvs) ∧ Rd H o (.dK more) ∧ kvs.length + more.length ≤ sizeLine ∧ ∀ p, H p = none → Q (.ref p) (upd H p (.dK (mergeK kvs more)))) := by
  intro pins s σ H x y v u Q I rx ry h
  obtain ⟨d, o, kvs, more, rfl, rfl, hd, ho, hz, q⟩ := h
  cases rx
  cases ry
  obtain ⟨z1, lo1, vs, rel1, dd⟩ := dk_rd I.hok hd
  obtain ⟨z2, lo2, ms, rel2, oo⟩ := dk_rd I.hok ho
  have e1 := rel1.length
  have e2 := rel2.length
  refine wpAny_binaryOp_same (op := .BitOr) (T := "dict") dd.typeIs oo.typeIs PySem.F.fills_dict_or PySem.F.slot_dict_or ?_
  refine wpAny_call_entry PySem.F.slot_dict_or dd.typeIs PySem.F.entry_dict_or (or_runs lo1 lo2 dd oo (by omega) fun h' hd' k => ⟨_, rfl, ?_⟩) (PySem.F.args_dict_or_2 _ _)
  have hm : (s.heap.objs.size == sysModules) = false := beq_eq_false_iff_ne.mpr (Nat.ne_of_gt I.big)
  have hl : (mergeK kvs more).length ≤ sizeLine := Nat.le_trans (length_mergeK more kvs) hz
  refine ⟨by simp, .ref s.heap.objs.size, upd H s.heap.objs.size (.dK (mergeK kvs more)), I.laid (t' := s.toks) k (Nat.le_refl _) (show ObjOk X.prog X.w _ _ _ (.dK (mergeK kvs more)) from ⟨hl, hm, _, KV.merge rel2 rel1, hd'⟩), rfl, q _ (I.hok.fresh (Nat.le_refl _))⟩
theorem ref_bor {K : Fg} : Ref2 K F (fun x y H Q => ∃ (d o : Addr) (kvs more : List (Key × V)), x = .ref d ∧ y = .ref o ∧ Rd H d (.dK kvs) ∧ Rd H o (.dK more) ∧ kvs.length + more.length ≤ sizeLine ∧ ∀ p, H p = none → Q (.ref p) (upd H p (.dK (mergeK kvs more)))) f_bor := by
  intro G H M x y v w post Q hr rx ry d k
  unfold f_bor at d
  split at d
  · rename_i kvs more e1 e2
    obtain ⟨a, ys, rfl, rd, k1, r1⟩ := dkD_ok hr rx e1
    obtain ⟨b, zs, rfl, rd2, k2, r2⟩ := dkD_ok hr ry e2
    have l1 : ys.length = kvs.length := by simpa using congrArg List.length k1
    have l2 : zs.length = more.length := by simpa using congrArg List.length k2
    refine ⟨a, b, ys, zs, rfl, rfl, rd, rd2, by omega, fun p hp => ?_⟩
    exact k.newC hr hp (c := .dk (dmergeK kvs more)) ⟨mergeK ys zs, upd_same, merge_fst k2 k1, merge_reps k2 r2 k1 r1⟩ (d.2 p (hr.mnone hp).1)
  · exact d.elim
theorem pd_bor (ha : PD X F a da) (hb : PD X F b db) : PD X F (.BinOp a .BitOr b pos) (dBin f_bor da db) := pd_op op_bor ref_bor ha hb
end
end Dl

/-! Dl19: dict comprehensions whose keys are ints or texts. -/
namespace Dl
open L2 PySem PyProof.Rows PySem.Spec
/-! ### over data -/
def dDckL (g : DG) (dt : DT) (dk dv : DE) (vs : List Nat) (stay : Mem → Prop) (ρ : Rho) (Q : List (Key × D) → Mem → Prop) : List D → List (Key × D) → Mem → Prop
  | [], acc, M => stay M ∧ Q acc M
  | d :: ds, acc, M => stay M ∧ g d (dwipe ρ vs) M fun ρ1 M1 => dt ρ1 M1 fun b M2 => if b = true then dk ρ1 M2 fun y M3 => dv ρ1 M3 fun z M4 => ∃ k, keyD y = some k ∧ acc.length < sizeLine ∧ dDckL g dt dk dv vs stay ρ Q ds (dput acc k z) M4 else dDckL g dt dk dv vs stay ρ Q ds acc M2
theorem dDckL_stay {g : DG} {dt : DT} {dk dv : DE} {vs : List Nat} {stay : Mem → Prop} {ρ : Rho} {Q : List (Key × D) → Mem → Prop} {ds : List D} {acc : List (Key × D)} {M : Mem} (h : dDckL g dt dk dv vs stay ρ Q ds acc M) : stay M := by
  cases ds with
  | nil => exact h.1
  | cons d ds => exact h.1
def dDck (di : DI) (g : DG) (dt : DT) (dk dv : DE) (vs : List Nat) : DE := fun ρ M Q => di ρ M fun items stay M1 => dDckL g dt dk dv vs stay ρ (fun acc M2 => ∀ p, M2 p = none → Q (.obj p) (Dl.st M2 p (.dk acc))) items [] M1
section
variable {X : Cx} {F : Fm} {tg kx vx iter : Expr} {ifs : List Expr} {scope : Scope} {own : List (Str × Nat)} {pos : Pos} {di : DI} {g : DG} {dt : DT} {dk dv : DE}
theorem dck_imp : ∀ σ H Q, LE X.K F (dDck di g dt dk dv (own.map (·.2))) σ H Q → tDc (LI X.K F di) (LXG X.K F (own.map (·.2)) g) (LXT X.K F dt) (LX X.K F dk) (LX X.K F dv) (own.map (·.2)) σ H Q :=
  fun σ H Q ⟨G, ρ, M, post, hr, sr, d, k⟩ => ⟨G, ρ, M, _, hr, sr, d, fun G1 H1 M1 items stay J s1 h1 io q1 => fun D hD => by
    obtain ⟨Gp, Y, wk, w1, w2⟩ := io.ex
    have hrr := (h1.mnone hD).2.2
    refine ⟨fun i m H' => i + m = items.length ∧ ∃ G' M' acc ys, Same G1 G' ∧ HRel X.K ⟨F.B, upd F.R D (.dK ys)⟩ G' H' M' ∧ ys.map (·.1) = acc.map (·.1) ∧ Reps X.K G' (ys.map (·.2)) (acc.map (·.2)) ∧ dDckL g dt dk dv (own.map (·.2)) stay ρ (fun acc M2 => ∀ p, M2 p = none → post (.obj p) (Dl.st M2 p (.dk acc))) (items.drop i) acc M',
      ⟨items.length, by omega, G1, M1, [], [], Same.refl _, h1.hide hD (fun _ z => nomatch z), rfl, .nil, q1⟩, ?_⟩
    rintro i m H' ⟨him, G', M', acc, ys, s, hr', ek, rs, h⟩
    by_cases hi : i < items.length
    · refine .inr ⟨wk.goes i H' hi (w1 _ G' H' M' s hr' (dDckL_stay h)), fun H2 => ∃ G' M' acc ys, Same G1 G' ∧ HRel X.K ⟨F.B, upd F.R D (.dK ys)⟩ G' H2 M' ∧ ys.map (·.1) = acc.map (·.1) ∧ Reps X.K G' (ys.map (·.2)) (acc.map (·.2)) ∧ dDckL g dt dk dv (own.map (·.2)) stay ρ (fun acc M2 => ∀ p, M2 p = none → post (.obj p) (Dl.st M2 p (.dk acc))) (items.drop (i + 1)) acc M',
        fun H2 hh => ⟨m - 1, by omega, by omega, hh⟩, fun x H2 y => ?_⟩
      have l : ∀ zs : List (Key × V), Fm.Le F ⟨F.B, upd F.R D (.dK zs)⟩ := fun zs => ⟨rfl, same_upd hrr⟩
      obtain ⟨G2, dd, s2, hr2, e, rx⟩ := w2 i _ G' H' M' x H2 hi s hr' (dDckL_stay h) (wk.yields i H' x H2 hi (w1 _ G' H' M' s hr' (dDckL_stay h)) y)
      have ed : items.drop i = dd :: items.drop (i + 1) := by
        rw [List.drop_eq_getElem_cons hi]
        rw [List.getElem?_eq_getElem hi] at e
        rw [Option.some.inj e]
      rw [ed] at h
      have sr2 : SRel X.K G2 σ ρ := sr.mono (s1.trans (s.trans s2))
      refine ⟨_, l ys, G2, dwipe ρ _, M', dd, _, hr2, wipe_rel sr2 _, rx, h.2, fun G3 σ3 H3 ρ3 M3 s3 hr3 sr3 o3 q3 => ⟨?_, _, l ys, G3, ρ3, M3, _, hr3, sr3, q3, fun G4 H4 M4 b s4 hr4 q4 => ?_⟩⟩
      · rw [o3.wipe]
        refine List.ext_getElem? fun j => ?_
        rw [wipe_get, wipe_length]
        by_cases hj : j ∈ own.map (·.2) ∧ j < σ.length
        · rw [if_pos hj, wipe_get, if_pos hj]
        · rw [if_neg hj]
      · cases b with
        | false => exact ⟨G4, M4, acc, ys, s.trans (s2.trans (s3.trans s4)), hr4, ek, rs.mono (s2.trans (s3.trans s4)), q4⟩
        | true =>
          refine ⟨_, l ys, G4, ρ3, M4, _, hr4, sr3.mono s4, q4, fun G5 H5 M5 yk vk s5 hr5 rk q5 => ⟨_, l ys, G5, ρ3, M5, _, hr5, sr3.mono (s4.trans s5), q5, fun G6 H6 M6 z v s6 hr6 rz ⟨kk, ekk, hlen, q6⟩ => ?_⟩⟩
          have ey := rk.key ekk
          subst ey
          have ely : ys.length = acc.length := by simpa using congrArg List.length ek
          refine ⟨ys, kk, rfl, hr6.rs D _ upd_same, by omega, G6, M6, dput acc kk v, putK ys kk z, s.trans (s2.trans (s3.trans (s4.trans (s5.trans s6)))), hr6.hidden (fun _ z => nomatch z), ?_, ?_, q6⟩
          · rw [putK_dput]; exact dput_fst kk v z ek
          · rw [putK_dput]; exact Reps.dput rz ek (rs.mono (s2.trans (s3.trans (s4.trans (s5.trans s6)))))
    · have ei : i = items.length := by omega
      subst ei
      rw [List.drop_length] at h
      obtain ⟨hst, h⟩ := h
      refine .inl ⟨wk.stops H' (w1 _ G' H' M' s hr' hst), ?_⟩
      have hh : H' D = some (.dK ys) := hr'.rs D _ upd_same
      have hm1 : M' D = none := by
        cases q : M' D with
        | none => rfl
        | some c =>
          have z : upd F.R D (.dK ys) D = none := (hr'.cell D c q).2.2
          rw [upd_same] at z; cases z
      exact k _ _ _ _ _ (s1.trans s) (hr'.shownC (c := .dk acc) hrr ⟨_, hh, ek, rs⟩) .obj (h D hm1)⟩
theorem pd_dck (hc : X.calm = true) (hN : X.N.Nodup) (hi : PDI X F tg iter di) (ok : BlkOk X.N X.env.scope scope own)
    (hg : ∀ (s : Shared) (H : Hp) (C : Addr) (cl : List (Str × Addr)) (fp : List Addr) (F' : Fm), Fm.Le F F' → PDGv (blkX X s H scope C cl fp) F' (own.map (·.2)) tg g)
    (ht : ∀ (s : Shared) (H : Hp) (C : Addr) (cl : List (Str × Addr)) (fp : List Addr) (F' : Fm), Fm.Le F F' → PDTs (blkX X s H scope C cl fp) F' ifs dt)
    (hk : ∀ (s : Shared) (H : Hp) (C : Addr) (cl : List (Str × Addr)) (fp : List Addr) (F' : Fm), Fm.Le F F' → PD (blkX X s H scope C cl fp) F' kx dk)
    (hv : ∀ (s : Shared) (H : Hp) (C : Addr) (cl : List (Str × Addr)) (fp : List Addr) (F' : Fm), Fm.Le F F' → PD (blkX X s H scope C cl fp) F' vx dv)
    (hs : ∀ x, foldedSetIterable iter X.env x = pure x := by intro _; rfl) : PD X F (.DictComp kx vx [⟨tg, iter, ifs, 0⟩] scope pos) (dDck di g dt dk dv (own.map (·.2))) :=
  pe_imp (pe_dc hc hN hi ok (g := LXG X.K F (own.map (·.2)) g) (tt := LXT X.K F dt) (tk := LX X.K F dk) (tv := LX X.K F dv)
    (fun s H C cl fp => ⟨fun pins s' σ H' v u Q I r ⟨F', l, q⟩ => (hg s H C cl fp F' l).run pins s' σ H' v u Q I r q⟩)
    (fun s H C cl fp => ⟨fun pins s' σ H' Q I ⟨F', l, q⟩ => (ht s H C cl fp F' l).run pins s' σ H' Q I q⟩)
    (fun s H C cl fp => ⟨fun pins s' σ H' Q I ⟨F', l, q⟩ => (hk s H C cl fp F' l).run pins s' σ H' Q I q⟩)
    (fun s H C cl fp => ⟨fun pins s' σ H' Q I ⟨F', l, q⟩ => (hv s H C cl fp F' l).run pins s' σ H' Q I q⟩) hs) dck_imp
end
/-! ### sorted of ints -/
def f_sortI : DN := fun vs M Q => match vs with
  | [v] => ∃ ns : List Int, listD v M = some (ns.map D.int) ∧ ∀ ys : List Int, ys.Perm ns → ys.Pairwise (· ≤ ·) → Q (.lst (ys.map D.int)) M
  | _ => False
theorem ref_sortI {K : Fg} {F : Fm} : RefN K F (rSortedI K) f_sortI := by
  intro G H M xs vs post Q hr rs d k
  unfold f_sortI at d
  split at d
  · rename_i v
    obtain ⟨ns, e, d⟩ := d
    cases rs with
    | cons rx t =>
      cases t
      obtain ⟨a, ys, rfl, hq, r⟩ := listD_ok hr rx e
      have ey := Reps.of_ints r
      subst ey
      refine ⟨a, ns, rfl, hq, fun zs p h1 h2 hp => ?_⟩
      exact k.new hr hp (.lst upd_same Reps.ints) (d zs h1 h2)
  · exact d.elim
theorem pd_sortI {X : Cx} {F : Fm} {pos p : Pos} {a : Expr} {dA : DA} (hm : X.mg "sorted" = none) (ha : PDA X F [a] dA) (hg : Gl X "sorted" := by rfl) (he : starEach [a] X.env = (false, eval a X.env) :: starEach [] X.env := by rfl) : PD X F (.Call (.Name "sorted" p) [a] [] pos) (dCB f_sortI dA) :=
  pd_cB cr_sortedI ref_sortI hm ha (by decide +kernel) hg (by decide) (by decide) he rfl
end Dl

/-! Dm: plain lemmas over data: equality, sizes, lists walked, the draws' state, lowest terms. -/
namespace Dl
open L2 PySem PyProof.Rows PySem.Spec

section
variable {M : Mem} {Q : D → Mem → Prop}
theorem len0 {f : W0} {ds : List D} {E : DX → Mem → Prop} (h : sp0 f ds M Q E) : ds.length = 0 := by obtain ⟨rfl, _⟩ := h; rfl
theorem len1 {f : D → W0} {ds : List D} {E : DX → Mem → Prop} (h : sp1 f ds M Q E) : ds.length = 1 := by obtain ⟨_, rfl, _⟩ := h; rfl
theorem len2 {f : D → D → W0} {ds : List D} {E : DX → Mem → Prop} (h : sp2 f ds M Q E) : ds.length = 2 := by obtain ⟨_, _, rfl, _⟩ := h; rfl
theorem len3 {f : D → D → D → W0} {ds : List D} {E : DX → Mem → Prop} (h : sp3 f ds M Q E) : ds.length = 3 := by obtain ⟨_, _, _, rfl, _⟩ := h; rfl
theorem len4 {f : D → D → D → D → W0} {ds : List D} {E : DX → Mem → Prop} (h : sp4 f ds M Q E) : ds.length = 4 := by obtain ⟨_, _, _, _, rfl, _⟩ := h; rfl
theorem len5 {f : D → D → D → D → D → W0} {ds : List D} {E : DX → Mem → Prop} (h : sp5 f ds M Q E) : ds.length = 5 := by obtain ⟨_, _, _, _, _, rfl, _⟩ := h; rfl
theorem len6 {f : D → D → D → D → D → D → W0} {ds : List D} {E : DX → Mem → Prop} (h : sp6 f ds M Q E) : ds.length = 6 := by obtain ⟨_, _, _, _, _, _, rfl, _⟩ := h; rfl

/-! ### == -/
theorem bdec (a b : Int) : (a == b) = decide (a = b) := by
  by_cases h : a = b
  · subst h; simp
  · simp [h]
theorem bdecS (a b : Str) : (a == b) = decide (a = b) := by
  by_cases h : a = b
  · subst h; simp
  · rw [decide_eq_false h]; exact beq_eq_false_iff_ne.mpr h
theorem eq_ii (a b : Int) : f_eq (.int a) (.int b) M Q = Q (.bl (decide (a = b))) M := by
  have h : SeqAt.shaped (.int a) = true := rfl
  have h' : SeqAt.shaped (.int b) = true := rfl
  simp [f_eq, f_eqD, toP, h, h', PyData.eqv, bdec]
theorem ne_ii (a b : Int) : f_ne (.int a) (.int b) M Q = Q (.bl (!decide (a = b))) M := by
  have h : SeqAt.shaped (.int a) = true := rfl
  have h' : SeqAt.shaped (.int b) = true := rfl
  simp [f_ne, f_eqD, toP, h, h', PyData.eqv, bdec]
theorem eq_bb (a b : Bool) : f_eq (.bl a) (.bl b) M Q = Q (.bl (a == b)) M := by
  have h : SeqAt.shaped (.bool a) = true := rfl
  have h' : SeqAt.shaped (.bool b) = true := rfl
  simp [f_eq, f_eqD, toP, h, h', PyData.eqv]
theorem ne_bb (a b : Bool) : f_ne (.bl a) (.bl b) M Q = Q (.bl (!(a == b))) M := by
  have h : SeqAt.shaped (.bool a) = true := rfl
  have h' : SeqAt.shaped (.bool b) = true := rfl
  simp [f_ne, f_eqD, toP, h, h', PyData.eqv]
theorem eq_ss (a b : Str) : f_eq (.str a) (.str b) M Q = (SeqAt.shaped (.str a) = true ∧ SeqAt.shaped (.str b) = true ∧ Q (.bl (decide (a = b))) M) := by
  simp [f_eq, f_eqD, toP, PyData.eqv, bdecS]
theorem ne_ss (a b : Str) : f_ne (.str a) (.str b) M Q = (SeqAt.shaped (.str a) = true ∧ SeqAt.shaped (.str b) = true ∧ Q (.bl (!decide (a = b))) M) := by
  simp [f_ne, f_eqD, toP, PyData.eqv, bdecS]
theorem eq_aa (a b c d : Int) : f_eq (.tup [.int a, .int b]) (.tup [.int c, .int d]) M Q = Q (.bl (decide (a = c ∧ b = d))) M := by
  have h : SeqAt.shaped (.tuple [.int a, .int b]) = true := rfl
  have h' : SeqAt.shaped (.tuple [.int c, .int d]) = true := rfl
  simp [f_eq, f_eqD, toP, toPs, h, h', PyData.eqv, PyData.eqvAll, bdec]
theorem ne_aa (a b c d : Int) : f_ne (.tup [.int a, .int b]) (.tup [.int c, .int d]) M Q = Q (.bl (!decide (a = c ∧ b = d))) M := by
  have h : SeqAt.shaped (.tuple [.int a, .int b]) = true := rfl
  have h' : SeqAt.shaped (.tuple [.int c, .int d]) = true := rfl
  simp [f_ne, f_eqD, toP, toPs, h, h', PyData.eqv, PyData.eqvAll, bdec]
/-- equal data -/
theorem eqv_refl_int (a : Int) : PyData.eqv (.int a) (.int a) = true := by simp [PyData.eqv]
end

/-! ### operators at known values -/
section
variable {M : Mem} {Q : D → Mem → Prop} {i j : Int} {a b : Bool} {x y : Str} {l m : List D} {p : Addr}
theorem add_ii : f_add (.int i) (.int j) M Q = Q (.int (i + j)) M := rfl
theorem add_ss : f_add (.str x) (.str y) M Q = (x.length + y.length ≤ sizeLine ∧ Q (.str (x ++ y)) M) := rfl
theorem add_ll : f_add (.lst l) (.lst m) M Q = (l.length + m.length ≤ sizeLine ∧ Q (.lst (l ++ m)) M) := rfl
theorem add_tt : f_add (.tup l) (.tup m) M Q = (l ≠ [] ∧ l.length + m.length ≤ sizeLine ∧ Q (.tup (l ++ m)) M) := rfl
theorem sub_ii : f_sub (.int i) (.int j) M Q = Q (.int (i - j)) M := rfl
theorem sub_bb : f_sub (.bl a) (.bl b) M Q = Q (.int (b2i a - b2i b)) M := rfl
theorem mul_ii : f_mul (.int i) (.int j) M Q = (CMulW i j ∧ Q (.int (i * j)) M) := rfl
theorem fdiv_ii : f_fdiv (.int i) (.int j) M Q = (DivOk j ∧ Q (.int (i / j)) M) := rfl
theorem mod_ii : f_mod (.int i) (.int j) M Q = (0 < j ∧ Q (.int (i % j)) M) := rfl
theorem pow_ii : f_pow (.int i) (.int j) M Q = (CPow i j ∧ Q (.int (i ^ j.toNat)) M) := rfl
theorem shl_ii : f_shl (.int i) (.int j) M Q = (CPow i j ∧ Q (.int (i * 2 ^ j.toNat)) M) := rfl
theorem neg_i : f_neg (.int i) M Q = Q (.int (-i)) M := rfl
theorem lt_ii : f_lt (.int i) (.int j) M Q = Q (.bl (decide (i < j))) M := rfl
theorem le_ii : f_le (.int i) (.int j) M Q = Q (.bl (decide (i ≤ j))) M := rfl
theorem gt_ii : f_gt (.int i) (.int j) M Q = Q (.bl (decide (j < i))) M := rfl
theorem ge_ii : f_ge (.int i) (.int j) M Q = Q (.bl (decide (j ≤ i))) M := rfl
theorem not_b : f_not (.bl a) M Q = Q (.bl (!a)) M := rfl
theorem abs_i : f_abs [.int i] M Q = Q (.int (if i < 0 then -i else i)) M := rfl
theorem max_ii : f_max2 [.int i, .int j] M Q = Q (.int (if j > i then j else i)) M := rfl
theorem min_ii : f_min2 [.int i, .int j] M Q = Q (.int (if j < i then j else i)) M := rfl
theorem int_i : f_int [.int i] M Q = Q (.int i) M := rfl
theorem int_b : f_int [.bl a] M Q = Q (.int (if a then 1 else 0)) M := rfl
theorem gcd_ii : f_gcd [.int i, .int j] M Q = Q (.int ((Nat.gcd i.natAbs j.natAbs : Nat) : Int)) M := rfl
theorem len_l : f_len [.lst l] M Q = Q (.int l.length) M := rfl
theorem len_r : f_len [.ro l] M Q = Q (.int l.length) M := rfl
theorem len_t : f_len [.tup l] M Q = Q (.int l.length) M := rfl
theorem len_s : f_len [.str x] M Q = (x.length ≤ sizeLine ∧ Q (.int x.length) M) := rfl
theorem len_o : f_len [.obj p] (Dl.st M p (.lst l)) Q = Q (.int l.length) (Dl.st M p (.lst l)) := by simp [f_len, seqD, listD, st_same]
theorem app_o {y : D} : f_append (.obj p) [y] (Dl.st M p (.lst l)) Q = (l.length < sizeLine ∧ Q .non (Dl.st M p (.lst (l ++ [y])))) := by simp [f_append, st_same, st_st]
theorem ty_o : TyOk "list" (.obj p) (Dl.st M p (.lst l)) = True := by simp [TyOk, listD, st_same]
theorem isi_i {n : String} : f_isi [.int i, .ty n] M Q = (n ∈ tys ∧ Q (.bl (isI "int" n)) M) := rfl
theorem isi_b {n : String} : f_isi [.bl a, .ty n] M Q = (n ∈ tys ∧ Q (.bl (isI "bool" n)) M) := rfl
theorem isi_s {n : String} : f_isi [.str x, .ty n] M Q = (n ∈ tys ∧ Q (.bl (isI "str" n)) M) := rfl
theorem isi_n {n : String} : f_isi [.non, .ty n] M Q = (n ∈ tys ∧ Q (.bl (isI "NoneType" n)) M) := rfl
theorem isi_t {n : String} : f_isi [.tup l, .ty n] M Q = (n ∈ tys ∧ Q (.bl (isI "tuple" n)) M) := rfl
theorem isi_l {n : String} : f_isi [.lst l, .ty n] M Q = (n ∈ tys ∧ Q (.bl (isI "list" n)) M) := rfl
theorem isi_r {n : String} {kvs : List (Key × D)} : f_isi [.dk kvs, .ty n] M Q = (n ∈ tys ∧ Q (.bl (isI "dict" n)) M) := rfl
theorem ii_non_int : f_isi [.non, .ty "int"] M Q = Q (.bl false) M := by
  have h : isI "NoneType" "int" = false := by decide
  have h2 : "int" ∈ tys := by decide
  simp only [f_isi, tyD, h, h2, true_and]
theorem ii_non_bool : f_isi [.non, .ty "bool"] M Q = Q (.bl false) M := by
  have h : isI "NoneType" "bool" = false := by decide
  have h2 : "bool" ∈ tys := by decide
  simp only [f_isi, tyD, h, h2, true_and]
theorem ii_non_str : f_isi [.non, .ty "str"] M Q = Q (.bl false) M := by
  have h : isI "NoneType" "str" = false := by decide
  have h2 : "str" ∈ tys := by decide
  simp only [f_isi, tyD, h, h2, true_and]
theorem ii_non_list : f_isi [.non, .ty "list"] M Q = Q (.bl false) M := by
  have h : isI "NoneType" "list" = false := by decide
  have h2 : "list" ∈ tys := by decide
  simp only [f_isi, tyD, h, h2, true_and]
theorem ii_non_tuple : f_isi [.non, .ty "tuple"] M Q = Q (.bl false) M := by
  have h : isI "NoneType" "tuple" = false := by decide
  have h2 : "tuple" ∈ tys := by decide
  simp only [f_isi, tyD, h, h2, true_and]
theorem ii_non_dict : f_isi [.non, .ty "dict"] M Q = Q (.bl false) M := by
  have h : isI "NoneType" "dict" = false := by decide
  have h2 : "dict" ∈ tys := by decide
  simp only [f_isi, tyD, h, h2, true_and]
theorem ii_bl_int : f_isi [.bl a, .ty "int"] M Q = Q (.bl true) M := by
  have h : isI "bool" "int" = true := by decide
  have h2 : "int" ∈ tys := by decide
  simp only [f_isi, tyD, h, h2, true_and]
theorem ii_bl_bool : f_isi [.bl a, .ty "bool"] M Q = Q (.bl true) M := by
  have h : isI "bool" "bool" = true := by decide
  have h2 : "bool" ∈ tys := by decide
  simp only [f_isi, tyD, h, h2, true_and]
theorem ii_bl_str : f_isi [.bl a, .ty "str"] M Q = Q (.bl false) M := by
  have h : isI "bool" "str" = false := by decide
  have h2 : "str" ∈ tys := by decide
  simp only [f_isi, tyD, h, h2, true_and]
theorem ii_bl_list : f_isi [.bl a, .ty "list"] M Q = Q (.bl false) M := by
  have h : isI "bool" "list" = false := by decide
  have h2 : "list" ∈ tys := by decide
  simp only [f_isi, tyD, h, h2, true_and]
theorem ii_bl_tuple : f_isi [.bl a, .ty "tuple"] M Q = Q (.bl false) M := by
  have h : isI "bool" "tuple" = false := by decide
  have h2 : "tuple" ∈ tys := by decide
  simp only [f_isi, tyD, h, h2, true_and]
theorem ii_bl_dict : f_isi [.bl a, .ty "dict"] M Q = Q (.bl false) M := by
  have h : isI "bool" "dict" = false := by decide
  have h2 : "dict" ∈ tys := by decide
  simp only [f_isi, tyD, h, h2, true_and]
theorem ii_int_int : f_isi [.int i, .ty "int"] M Q = Q (.bl true) M := by
  have h : isI "int" "int" = true := by decide
  have h2 : "int" ∈ tys := by decide
  simp only [f_isi, tyD, h, h2, true_and]
theorem ii_int_bool : f_isi [.int i, .ty "bool"] M Q = Q (.bl false) M := by
  have h : isI "int" "bool" = false := by decide
  have h2 : "bool" ∈ tys := by decide
  simp only [f_isi, tyD, h, h2, true_and]
theorem ii_int_str : f_isi [.int i, .ty "str"] M Q = Q (.bl false) M := by
  have h : isI "int" "str" = false := by decide
  have h2 : "str" ∈ tys := by decide
  simp only [f_isi, tyD, h, h2, true_and]
theorem ii_int_list : f_isi [.int i, .ty "list"] M Q = Q (.bl false) M := by
  have h : isI "int" "list" = false := by decide
  have h2 : "list" ∈ tys := by decide
  simp only [f_isi, tyD, h, h2, true_and]
theorem ii_int_tuple : f_isi [.int i, .ty "tuple"] M Q = Q (.bl false) M := by
  have h : isI "int" "tuple" = false := by decide
  have h2 : "tuple" ∈ tys := by decide
  simp only [f_isi, tyD, h, h2, true_and]
theorem ii_int_dict : f_isi [.int i, .ty "dict"] M Q = Q (.bl false) M := by
  have h : isI "int" "dict" = false := by decide
  have h2 : "dict" ∈ tys := by decide
  simp only [f_isi, tyD, h, h2, true_and]
theorem ii_str_int : f_isi [.str x, .ty "int"] M Q = Q (.bl false) M := by
  have h : isI "str" "int" = false := by decide
  have h2 : "int" ∈ tys := by decide
  simp only [f_isi, tyD, h, h2, true_and]
theorem ii_str_bool : f_isi [.str x, .ty "bool"] M Q = Q (.bl false) M := by
  have h : isI "str" "bool" = false := by decide
  have h2 : "bool" ∈ tys := by decide
  simp only [f_isi, tyD, h, h2, true_and]
theorem ii_str_str : f_isi [.str x, .ty "str"] M Q = Q (.bl true) M := by
  have h : isI "str" "str" = true := by decide
  have h2 : "str" ∈ tys := by decide
  simp only [f_isi, tyD, h, h2, true_and]
theorem ii_str_list : f_isi [.str x, .ty "list"] M Q = Q (.bl false) M := by
  have h : isI "str" "list" = false := by decide
  have h2 : "list" ∈ tys := by decide
  simp only [f_isi, tyD, h, h2, true_and]
theorem ii_str_tuple : f_isi [.str x, .ty "tuple"] M Q = Q (.bl false) M := by
  have h : isI "str" "tuple" = false := by decide
  have h2 : "tuple" ∈ tys := by decide
  simp only [f_isi, tyD, h, h2, true_and]
theorem ii_str_dict : f_isi [.str x, .ty "dict"] M Q = Q (.bl false) M := by
  have h : isI "str" "dict" = false := by decide
  have h2 : "dict" ∈ tys := by decide
  simp only [f_isi, tyD, h, h2, true_and]
theorem ii_tup_int : f_isi [.tup l, .ty "int"] M Q = Q (.bl false) M := by
  have h : isI "tuple" "int" = false := by decide
  have h2 : "int" ∈ tys := by decide
  simp only [f_isi, tyD, h, h2, true_and]
theorem ii_tup_bool : f_isi [.tup l, .ty "bool"] M Q = Q (.bl false) M := by
  have h : isI "tuple" "bool" = false := by decide
  have h2 : "bool" ∈ tys := by decide
  simp only [f_isi, tyD, h, h2, true_and]
theorem ii_tup_str : f_isi [.tup l, .ty "str"] M Q = Q (.bl false) M := by
  have h : isI "tuple" "str" = false := by decide
  have h2 : "str" ∈ tys := by decide
  simp only [f_isi, tyD, h, h2, true_and]
theorem ii_tup_list : f_isi [.tup l, .ty "list"] M Q = Q (.bl false) M := by
  have h : isI "tuple" "list" = false := by decide
  have h2 : "list" ∈ tys := by decide
  simp only [f_isi, tyD, h, h2, true_and]
theorem ii_tup_tuple : f_isi [.tup l, .ty "tuple"] M Q = Q (.bl true) M := by
  have h : isI "tuple" "tuple" = true := by decide
  have h2 : "tuple" ∈ tys := by decide
  simp only [f_isi, tyD, h, h2, true_and]
theorem ii_tup_dict : f_isi [.tup l, .ty "dict"] M Q = Q (.bl false) M := by
  have h : isI "tuple" "dict" = false := by decide
  have h2 : "dict" ∈ tys := by decide
  simp only [f_isi, tyD, h, h2, true_and]
theorem ii_lst_int : f_isi [.lst l, .ty "int"] M Q = Q (.bl false) M := by
  have h : isI "list" "int" = false := by decide
  have h2 : "int" ∈ tys := by decide
  simp only [f_isi, tyD, h, h2, true_and]
theorem ii_lst_bool : f_isi [.lst l, .ty "bool"] M Q = Q (.bl false) M := by
  have h : isI "list" "bool" = false := by decide
  have h2 : "bool" ∈ tys := by decide
  simp only [f_isi, tyD, h, h2, true_and]
theorem ii_lst_str : f_isi [.lst l, .ty "str"] M Q = Q (.bl false) M := by
  have h : isI "list" "str" = false := by decide
  have h2 : "str" ∈ tys := by decide
  simp only [f_isi, tyD, h, h2, true_and]
theorem ii_lst_list : f_isi [.lst l, .ty "list"] M Q = Q (.bl true) M := by
  have h : isI "list" "list" = true := by decide
  have h2 : "list" ∈ tys := by decide
  simp only [f_isi, tyD, h, h2, true_and]
theorem ii_lst_tuple : f_isi [.lst l, .ty "tuple"] M Q = Q (.bl false) M := by
  have h : isI "list" "tuple" = false := by decide
  have h2 : "tuple" ∈ tys := by decide
  simp only [f_isi, tyD, h, h2, true_and]
theorem ii_lst_dict : f_isi [.lst l, .ty "dict"] M Q = Q (.bl false) M := by
  have h : isI "list" "dict" = false := by decide
  have h2 : "dict" ∈ tys := by decide
  simp only [f_isi, tyD, h, h2, true_and]
theorem ii_dk_int {kv : List (Key × D)} : f_isi [.dk kv, .ty "int"] M Q = Q (.bl false) M := by
  have h : isI "dict" "int" = false := by decide
  have h2 : "int" ∈ tys := by decide
  simp only [f_isi, tyD, h, h2, true_and]
theorem ii_dk_bool {kv : List (Key × D)} : f_isi [.dk kv, .ty "bool"] M Q = Q (.bl false) M := by
  have h : isI "dict" "bool" = false := by decide
  have h2 : "bool" ∈ tys := by decide
  simp only [f_isi, tyD, h, h2, true_and]
theorem ii_dk_str {kv : List (Key × D)} : f_isi [.dk kv, .ty "str"] M Q = Q (.bl false) M := by
  have h : isI "dict" "str" = false := by decide
  have h2 : "str" ∈ tys := by decide
  simp only [f_isi, tyD, h, h2, true_and]
theorem ii_dk_list {kv : List (Key × D)} : f_isi [.dk kv, .ty "list"] M Q = Q (.bl false) M := by
  have h : isI "dict" "list" = false := by decide
  have h2 : "list" ∈ tys := by decide
  simp only [f_isi, tyD, h, h2, true_and]
theorem ii_dk_tuple {kv : List (Key × D)} : f_isi [.dk kv, .ty "tuple"] M Q = Q (.bl false) M := by
  have h : isI "dict" "tuple" = false := by decide
  have h2 : "tuple" ∈ tys := by decide
  simp only [f_isi, tyD, h, h2, true_and]
theorem ii_dk_dict {kv : List (Key × D)} : f_isi [.dk kv, .ty "dict"] M Q = Q (.bl true) M := by
  have h : isI "dict" "dict" = true := by decide
  have h2 : "dict" ∈ tys := by decide
  simp only [f_isi, tyD, h, h2, true_and]
theorem all_t {n : Nat} : f_all [.lst (List.replicate n (.bl true))] M Q = Q (.bl true) M := by
  have h : ∀ n : Nat, blsD (List.replicate n (.bl true)) = some (List.replicate n true) := by
    intro n
    induction n with
    | zero => rfl
    | succ n ih => rw [List.replicate_succ, blsD, ih]; rfl
  have h2 : ∀ n : Nat, (List.replicate n true).all id = true := by
    intro n
    rw [List.all_eq_true]
    intro x hx
    exact (List.mem_replicate.mp hx).2
  simp [f_all, listD, h]
theorem list_r : f_list false [.ro l] M Q = Q (.lst l) M := rfl
theorem list_l : f_list false [.lst l] M Q = Q (.lst l) M := rfl
theorem ix_tg {k : Nat} {d : D} (e : l[k]? = some d) : f_ix (.tup l) (.int (0 + (k : Int))) M Q = Q d M := by
  have hk := (List.getElem?_eq_some_iff.mp e).1
  have h : atI l (0 + (k : Int)) = some d := by
    unfold atI ixN
    rw [if_pos (by omega), if_pos (by omega)]
    have : (0 + (k : Int)).toNat = k := by omega
    rw [this]; exact e
  simp only [f_ix, seqD, h]
theorem ix_lg {k : Nat} {d : D} (e : l[k]? = some d) : f_ix (.lst l) (.int (0 + (k : Int))) M Q = Q d M := by
  have hk := (List.getElem?_eq_some_iff.mp e).1
  have h : atI l (0 + (k : Int)) = some d := by
    unfold atI ixN
    rw [if_pos (by omega), if_pos (by omega)]
    have : (0 + (k : Int)).toNat = k := by omega
    rw [this]; exact e
  simp only [f_ix, seqD, listD, h]
theorem tr_b {Q : Bool → Mem → Prop} {ρ : Rho} : dTr (dC (.bl a)) ρ M Q = Q a M := rfl
theorem sl_l {lo hi : Option Int} : f_slice false (.lst l) lo hi M Q = Q (.lst (cutD l lo hi)) M := rfl
theorem sl_r {lo hi : Option Int} : f_slice false (.ro l) lo hi M Q = Q (.lst (cutD l lo hi)) M := rfl
theorem sl_fl {lo hi : Option Int} : f_slice true (.lst l) lo hi M Q = ∀ p, M p = none → Q (.obj p) (Dl.st M p (.lst (cutD l lo hi))) := rfl
theorem sl_fr {lo hi : Option Int} : f_slice true (.ro l) lo hi M Q = ∀ p, M p = none → Q (.obj p) (Dl.st M p (.lst (cutD l lo hi))) := rfl
theorem range_item {lo : Int} {n k : Nat} {d : D} (e : (rangeD lo n)[k]? = some d) : d = .int (lo + k) ∧ k < n := by
  unfold rangeD at e
  rw [List.getElem?_map] at e
  obtain ⟨z, e1, e2⟩ := Option.map_eq_some_iff.mp e
  have h := List.getElem?_eq_some_iff.mp e1
  obtain ⟨h1, h2⟩ := h
  rw [List.length_range] at h1
  rw [List.getElem_range] at h2
  subst h2
  exact ⟨e2.symm, h1⟩
theorem range_len {lo : Int} {n : Nat} : (rangeD lo n).length = n := by unfold rangeD; rw [List.length_map, List.length_range]
theorem map_item {α : Type} {f : α → D} {xs : List α} {k : Nat} {d : D} (e : (xs.map f)[k]? = some d) : ∃ x, x ∈ xs ∧ xs[k]? = some x ∧ d = f x := by
  rw [List.getElem?_map] at e
  obtain ⟨z, e1, e2⟩ := Option.map_eq_some_iff.mp e
  exact ⟨z, List.mem_of_getElem? e1, e1, e2.symm⟩
end

/-! ### sizes -/
def Sm (k : Nat) (i : Int) : Prop := i.natAbs < 2 ^ k
theorem Sm.up {k l : Nat} {i : Int} (h : Sm k i) (hl : k ≤ l) : Sm l i := Nat.lt_of_lt_of_le h (Nat.pow_le_pow_right (by decide) hl)
theorem Sm.mul {k l : Nat} {i j : Int} (h : Sm k i) (h' : Sm l j) : Sm (k + l) (i * j) := by
  unfold Sm at *
  rw [Int.natAbs_mul, Nat.pow_add]
  exact Nat.mul_lt_mul'' h h'
theorem Sm.add {k : Nat} {i j : Int} (h : Sm k i) (h' : Sm k j) : Sm (k + 1) (i + j) := by
  unfold Sm at *
  rw [Nat.pow_succ]
  have := Int.natAbs_add_le i j
  omega
theorem Sm.neg {k : Nat} {i : Int} (h : Sm k i) : Sm k (-i) := by unfold Sm at *; rw [Int.natAbs_neg]; exact h
theorem Sm.sub {k : Nat} {i j : Int} (h : Sm k i) (h' : Sm k j) : Sm (k + 1) (i - j) := by rw [Int.sub_eq_add_neg]; exact h.add h'.neg
theorem Sm.le {k : Nat} {i j : Int} (h : Sm k j) (e : i.natAbs ≤ j.natAbs) : Sm k i := Nat.lt_of_le_of_lt e h
theorem Sm.cmul {k l : Nat} {i j : Int} (h : Sm k i) (h' : Sm l j) (h0 : 0 < k := by decide) (h1 : 0 < l := by decide) (hs : k + l ≤ 1000000 := by decide) : CMulW i j := wide_mul h h' h0 h1 hs
theorem Sm.cdiv {k : Nat} {j : Int} (h : Sm k j) (p : 0 < j) (h0 : 0 < k := by decide) (h9 : k ≤ 9000 := by decide) : DivOk j := wide_div (i := 0) p h h0 h9
instance {k : Nat} {i : Int} : Decidable (Sm k i) := inferInstanceAs (Decidable (i.natAbs < 2 ^ k))
theorem Sm.lit {k : Nat} {i : Int} (h : decide (i.natAbs < 2 ^ k) = true) : Sm k i := of_decide_eq_true h
theorem Sm.ediv {k : Nat} {i j : Int} (h : Sm k i) (hj : 0 < j) : Sm k (i / j) := by
  have h1 : i < 2 ^ k := by have := h; unfold Sm at this; have e := Int.le_natAbs (a := i); have : ((i.natAbs : Int)) < 2 ^ k := by exact_mod_cast this
                            omega
  have h2 : -(2 ^ k : Int) < i := by
    have := h; unfold Sm at this
    have e := Int.le_natAbs (a := -i)
    rw [Int.natAbs_neg] at e
    have : ((i.natAbs : Int)) < 2 ^ k := by exact_mod_cast this
    omega
  have a1 : i / j < 2 ^ k := by
    rcases Int.lt_or_le i 0 with hi | hi
    · have := Int.ediv_neg_of_neg_of_pos hi hj
      have p : (0 : Int) < 2 ^ k := Int.pow_pos (by decide)
      omega
    · exact Int.lt_of_le_of_lt (Int.ediv_le_self j hi) h1
  have a2 : -(2 ^ k : Int) < i / j := by
    rcases Int.lt_or_le i 0 with hi | hi
    · have : i ≤ i / j := by
        rw [Int.le_ediv_iff_mul_le hj]
        have := Int.mul_le_mul_of_nonpos_left (a := i) (b := j) (c := 1) (by omega) (by omega)
        omega
      omega
    · have := Int.ediv_nonneg hi (Int.le_of_lt hj)
      have p : (0 : Int) < 2 ^ k := Int.pow_pos (by decide)
      omega
  unfold Sm
  have a3 : ((i / j).natAbs : Int) < ((2 ^ k : Nat) : Int) := by
    have e : ((2 ^ k : Nat) : Int) = 2 ^ k := by norm_cast
    rw [e]
    omega
  omega

/-! ### items -/
theorem atI_pos {α : Type} {xs : List α} {i : Int} (h : 0 ≤ i) (h' : i < xs.length) : ∃ x, atI xs i = some x ∧ x ∈ xs ∧ xs[i.toNat]? = some x := by
  unfold atI ixN
  rw [if_pos h, if_pos h']
  have hn : i.toNat < xs.length := by omega
  exact ⟨xs[i.toNat], List.getElem?_eq_getElem hn, List.getElem_mem _, List.getElem?_eq_getElem hn⟩
/-- xs[r], r within: whatever stands there -/
theorem ix_mem {ds : List D} {r : Int} {M : Mem} {Q : D → Mem → Prop} (h : 0 ≤ r) (h' : r < ds.length) (q : ∀ d ∈ ds, Q d M) : f_ix (.lst ds) (.int r) M Q := by
  obtain ⟨x, e, m, _⟩ := atI_pos h h'
  simp only [f_ix, seqD, listD, e]
  exact q x m
theorem ix_ints {ns : List Int} {r : Int} {M : Mem} {Q : D → Mem → Prop} (h : 0 ≤ r) (h' : r < ns.length) (q : ∀ n ∈ ns, Q (.int n) M) : f_ix (.lst (ns.map D.int)) (.int r) M Q :=
  ix_mem h (by rw [List.length_map]; exact h') fun d hd => by
    obtain ⟨n, hn, rfl⟩ := List.mem_map.mp hd
    exact q n hn

theorem ix_t0 {x : D} {l : List D} {M : Mem} {Q : D → Mem → Prop} : f_ix (.tup (x :: l)) (.int 0) M Q = Q x M := by
  have h : atI (x :: l) 0 = some x := by
    unfold atI ixN; rw [if_pos (by decide), if_pos (by rw [List.length_cons]; omega)]; rfl
  simp only [f_ix, seqD, h]
theorem ix_t1 {x y : D} {l : List D} {M : Mem} {Q : D → Mem → Prop} : f_ix (.tup (x :: y :: l)) (.int 1) M Q = Q y M := by
  have h : atI (x :: y :: l) 1 = some y := by
    unfold atI ixN; rw [if_pos (by decide), if_pos (by rw [List.length_cons, List.length_cons]; omega)]; rfl
  simp only [f_ix, seqD, h]

theorem cut_to {α : Type} (xs : List α) (k : Nat) : cutD xs none (some (k : Int)) = xs.take k := by
  unfold cutD
  have e0 : HT.sIx xs.length 0 none = 0 := by first | rfl | simp [HT.sIx]
  have e1 : HT.sIx xs.length xs.length (some (k : Int)) = min k xs.length := by
    unfold HT.sIx
    first | omega | (dsimp only; omega) | (dsimp only; split <;> omega) | (simp; omega)
  rw [e0, e1, List.drop_zero, Nat.sub_zero]
  rw [List.take_eq_take_iff]; omega
theorem cut_from {α : Type} (xs : List α) (k : Nat) : cutD xs (some (k : Int)) none = xs.drop k := by
  unfold cutD
  have e1 : HT.sIx xs.length xs.length none = xs.length := by first | rfl | simp [HT.sIx]
  have e0 : HT.sIx xs.length 0 (some (k : Int)) = min k xs.length := by
    unfold HT.sIx
    first | omega | (dsimp only; omega) | (dsimp only; split <;> omega) | (simp; omega)
  rw [e0, e1]
  rcases Nat.le_total k xs.length with h | h
  · rw [Nat.min_eq_left h, List.take_of_length_le (by rw [List.length_drop]; omega)]
  · rw [Nat.min_eq_right h, Nat.sub_self, List.take_zero, List.drop_eq_nil_of_le h]
theorem ix_t2 {x y z : D} {l : List D} {M : Mem} {Q : D → Mem → Prop} : f_ix (.tup (x :: y :: z :: l)) (.int 2) M Q = Q z M := by
  have h : atI (x :: y :: z :: l) 2 = some z := by
    unfold atI ixN; rw [if_pos (by decide), if_pos (by simp only [List.length_cons]; omega)]; rfl
  simp only [f_ix, seqD, h]
theorem ix_t3 {x y z w : D} {l : List D} {M : Mem} {Q : D → Mem → Prop} : f_ix (.tup (x :: y :: z :: w :: l)) (.int 3) M Q = Q w M := by
  have h : atI (x :: y :: z :: w :: l) 3 = some w := by
    unfold atI ixN; rw [if_pos (by decide), if_pos (by simp only [List.length_cons]; omega)]; rfl
  simp only [f_ix, seqD, h]
theorem ix_l0 {x : D} {l : List D} {M : Mem} {Q : D → Mem → Prop} : f_ix (.lst (x :: l)) (.int 0) M Q = Q x M := by
  have h : atI (x :: l) 0 = some x := by
    unfold atI ixN; rw [if_pos (by decide), if_pos (by rw [List.length_cons]; omega)]; rfl
  simp only [f_ix, seqD, listD, h]
theorem ix_l1 {x y : D} {l : List D} {M : Mem} {Q : D → Mem → Prop} : f_ix (.lst (x :: y :: l)) (.int 1) M Q = Q y M := by
  have h : atI (x :: y :: l) 1 = some y := by
    unfold atI ixN; rw [if_pos (by decide), if_pos (by rw [List.length_cons, List.length_cons]; omega)]; rfl
  simp only [f_ix, seqD, listD, h]
theorem shaped_of (z : String) : SeqAt.shaped (.str (Str.ofString z)) = true := by
  have h : PyData.strOk (Str.ofString z) = true := by
    unfold PyData.strOk
    rw [Str.ofString_eq_toList, Array.all_eq_true']
    intro c hc
    have hc : c ∈ z.toList.map Char.toNat := by simpa using hc
    obtain ⟨d, _, rfl⟩ := List.mem_map.mp hc
    refine decide_eq_true ?_
    have v := d.valid
    have e : d.toNat = d.val.toNat := rfl
    rw [e]
    rcases v with v | ⟨_, v⟩
    · have : d.val.toNat < 0xd800 := v
      omega
    · exact v
  have : PyData.canLay0 (.str (Str.ofString z)) = true := by simp only [PyData.canLay0, h]
  unfold SeqAt.shaped
  rw [this]
  rfl

/-! ### the draws' state -/
def stC (ns : List Int) (t : Int) : Cell := .dk [(.inr "numbers", .lst (ns.map D.int)), (.inr "at", .int t)]
structure NsOk (ns : List Int) : Prop where
  pos : 0 < ns.length
  hi : ns.length ≤ 10000
def So (M : Mem) (p : Addr) : Prop := ∃ ns t, M p = some (stC ns t) ∧ NsOk ns ∧ 0 ≤ t
def Adv (M M' : Mem) (p : Addr) : Prop := ∃ ns t, M' = Dl.st M p (stC ns t) ∧ NsOk ns ∧ 0 ≤ t
theorem Adv.so {M M' : Mem} {p : Addr} (h : Adv M M' p) : So M' p := by
  obtain ⟨ns, t, rfl, h1, h2⟩ := h
  exact ⟨ns, t, st_same, h1, h2⟩
theorem Adv.trans {M M' M'' : Mem} {p : Addr} (h : Adv M M' p) (h' : Adv M' M'' p) : Adv M M'' p := by
  obtain ⟨ns, t, rfl, _, _⟩ := h
  obtain ⟨ms, u, rfl, h1, h2⟩ := h'
  exact ⟨ms, u, st_st, h1, h2⟩
theorem So.refl {M : Mem} {p : Addr} (h : So M p) : Adv M M p := by
  obtain ⟨ns, t, e, h1, h2⟩ := h
  exact ⟨ns, t, (st_get e).symm, h1, h2⟩

theorem ix_num {ns : List Int} {t : Int} {p : Addr} {M : Mem} {Q : D → Mem → Prop} : f_ix (.obj p) (.str "numbers") (Dl.st M p (stC ns t)) Q = Q (.lst (ns.map D.int)) (Dl.st M p (stC ns t)) := by
  simp [f_ix, dlook, st_same, stC, keyD, dget]
theorem ix_at {ns : List Int} {t : Int} {p : Addr} {M : Mem} {Q : D → Mem → Prop} : f_ix (.obj p) (.str "at") (Dl.st M p (stC ns t)) Q = Q (.int t) (Dl.st M p (stC ns t)) := by
  simp [f_ix, dlook, st_same, stC, keyD, dget, so_inj]
theorem set_at {ns : List Int} {t u : Int} {p : Addr} {M : Mem} {Q : Mem → Prop} : f_set (.obj p) (.str "at") (.int u) (Dl.st M p (stC ns t)) Q = Q (Dl.st M p (stC ns u)) := by
  simp [f_set, st_same, stC, keyD, dput, dhas, dsub, so_inj, sizeLine, st_st]

/-! ### lowest terms -/
abbrev Am (n d : Int) : D := .tup [.int n, .int d]
def low (n d : Int) : Int × Int := if d < 0 then (-n / (Nat.gcd n.natAbs d.natAbs : Int), -d / (Nat.gcd n.natAbs d.natAbs : Int)) else (n / (Nat.gcd n.natAbs d.natAbs : Int), d / (Nat.gcd n.natAbs d.natAbs : Int))
structure Lo (n d : Int) : Prop where
  pos : 0 < d
  cop : Nat.gcd n.natAbs d.natAbs = 1
theorem gcd_pos {n d : Int} (h : d ≠ 0) : 0 < Nat.gcd n.natAbs d.natAbs := Nat.gcd_pos_of_pos_right _ (Int.natAbs_pos.mpr h)
/-- n = g * n', d = g * d' up to sign -/
theorem low_of {n d : Int} (h : d ≠ 0) : ∃ g : Int, 0 < g ∧ ((0 < d ∧ n = (low n d).1 * g ∧ d = (low n d).2 * g) ∨ (d < 0 ∧ -n = (low n d).1 * g ∧ -d = (low n d).2 * g)) ∧ Lo (low n d).1 (low n d).2 := by
  have hg := gcd_pos (n := n) h
  have d1 : (Nat.gcd n.natAbs d.natAbs : Int) ∣ n := Int.ofNat_dvd_left.mpr (Nat.gcd_dvd_left _ _)
  have d2 : (Nat.gcd n.natAbs d.natAbs : Int) ∣ d := Int.ofNat_dvd_left.mpr (Nat.gcd_dvd_right _ _)
  have hgi : (0 : Int) < (Nat.gcd n.natAbs d.natAbs : Int) := by exact_mod_cast hg
  have cop : ∀ m e : Int, m.natAbs = n.natAbs → e.natAbs = d.natAbs → Nat.gcd (m / (Nat.gcd n.natAbs d.natAbs : Int)).natAbs (e / (Nat.gcd n.natAbs d.natAbs : Int)).natAbs = 1 := by
    intro m e hm he
    have dm : (Nat.gcd n.natAbs d.natAbs : Int) ∣ m := Int.ofNat_dvd_left.mpr (by rw [hm]; exact Nat.gcd_dvd_left _ _)
    have de : (Nat.gcd n.natAbs d.natAbs : Int) ∣ e := Int.ofNat_dvd_left.mpr (by rw [he]; exact Nat.gcd_dvd_right _ _)
    rw [Int.natAbs_ediv_of_dvd dm, Int.natAbs_ediv_of_dvd de, hm, he, Int.natAbs_natCast]
    rw [Nat.gcd_div (Nat.gcd_dvd_left _ _) (Nat.gcd_dvd_right _ _), Nat.div_self hg]
  refine ⟨_, hgi, ?_, ?_⟩
  · unfold low
    by_cases hd : d < 0
    · rw [if_pos hd]
      exact .inr ⟨hd, (Int.ediv_mul_cancel (Int.dvd_neg.mpr d1)).symm, (Int.ediv_mul_cancel (Int.dvd_neg.mpr d2)).symm⟩
    · rw [if_neg hd]
      exact .inl ⟨by omega, (Int.ediv_mul_cancel d1).symm, (Int.ediv_mul_cancel d2).symm⟩
  · unfold low
    by_cases hd : d < 0
    · rw [if_pos hd]
      refine ⟨?_, cop _ _ (Int.natAbs_neg n) (Int.natAbs_neg d)⟩
      have := Int.ediv_mul_cancel (Int.dvd_neg.mpr d2)
      refine Int.pos_of_mul_pos_left (b := (Nat.gcd n.natAbs d.natAbs : Int)) ?_ hgi
      show 0 < -d / _ * _
      rw [this]; omega
    · rw [if_neg hd]
      refine ⟨?_, cop _ _ rfl rfl⟩
      have := Int.ediv_mul_cancel d2
      refine Int.pos_of_mul_pos_left (b := (Nat.gcd n.natAbs d.natAbs : Int)) ?_ hgi
      show 0 < d / _ * _
      rw [this]; omega
theorem low_dvd {n d : Int} (h : d ≠ 0) : (low n d).1.natAbs ≤ n.natAbs ∧ (low n d).2.natAbs ≤ d.natAbs := by
  obtain ⟨g, hg, h1, _⟩ := low_of (n := n) h
  have key : ∀ x y : Int, y = x * g → x.natAbs ≤ y.natAbs := fun x y e => by
    rw [e, Int.natAbs_mul]
    exact Nat.le_mul_of_pos_right _ (Int.natAbs_pos.mpr (by omega))
  rcases h1 with ⟨_, a, b⟩ | ⟨_, a, b⟩
  · exact ⟨key _ _ a, key _ _ b⟩
  · have x := key _ _ a
    have y := key _ _ b
    rw [Int.natAbs_neg] at x y
    exact ⟨x, y⟩
/-- equal as fractions, both in lowest terms -/
theorem Lo.uniq {n d m e : Int} (h : Lo n d) (h' : Lo m e) (q : n * e = m * d) : n = m ∧ d = e := by
  have q' : n.natAbs * e.natAbs = m.natAbs * d.natAbs := by rw [← Int.natAbs_mul, ← Int.natAbs_mul, q]
  have d1 : d.natAbs ∣ e.natAbs := (Nat.Coprime.symm h.cop : Nat.Coprime d.natAbs n.natAbs).dvd_of_dvd_mul_left ⟨m.natAbs, by rw [q', Nat.mul_comm]⟩
  have d2 : e.natAbs ∣ d.natAbs := (Nat.Coprime.symm h'.cop : Nat.Coprime e.natAbs m.natAbs).dvd_of_dvd_mul_left ⟨n.natAbs, by rw [← q', Nat.mul_comm]⟩
  have ed : d.natAbs = e.natAbs := Nat.dvd_antisymm d1 d2
  have p1 := h.pos
  have p2 := h'.pos
  have e1 : d = e := by omega
  subst e1
  exact ⟨Int.eq_of_mul_eq_mul_right (by omega) q, rfl⟩
theorem low_lo {n d : Int} (h : Lo n d) : low n d = (n, d) := by
  unfold low
  have p := h.pos
  rw [if_neg (by omega), h.cop]
  simp
/-- floor of the lowest terms -/
theorem low_floor {n d : Int} (h : 0 < d) : (low n d).1 / (low n d).2 = n / d := by
  obtain ⟨g, hg, h1, _⟩ := low_of (n := n) (d := d) (by omega)
  rcases h1 with ⟨_, a, b⟩ | ⟨z, _⟩
  · have : n / d = ((low n d).1 * g) / ((low n d).2 * g) := by rw [← a, ← b]
    rw [this, Int.mul_ediv_mul_of_pos_left _ _ hg]
  · omega
end Dl

/-! Dn: texts, the draws of k80 to k83. -/
namespace Dl
open L2 PySem PyProof.Rows PySem.Spec
/-! ### what may be of several kinds -/
theorem pi_or {X : Cx} {tg e : Expr} {t t' : TI} (h : PI X tg e t) (h' : PI X tg e t') : PI X tg e (fun σ H Q => t σ H Q ∨ t' σ H Q) :=
  ⟨fun pins s σ H Q I q => q.elim (fun q => h.run pins s σ H Q I q) fun q => h'.run pins s σ H Q I q⟩
theorem pdi_or {X : Cx} {F : Fm} {tg e : Expr} {d1 d2 : DI} (h : PDI X F tg e d1) (h' : PDI X F tg e d2) : PDI X F tg e (fun ρ M Q => d1 ρ M Q ∨ d2 ρ M Q) :=
  pi_imp (pi_or h h') fun σ H R ⟨G, ρ, M, post, hr, sr, d, k⟩ => by
    rcases d with d | d
    · exact .inl ⟨G, ρ, M, post, hr, sr, d, k⟩
    · exact .inr ⟨G, ρ, M, post, hr, sr, d, k⟩
def diMix (da : DE) : DI := fun ρ M Q => diList da ρ M Q ∨ diTup da ρ M Q ∨ diKeys da ρ M Q
theorem pdi_mix {X : Cx} {F : Fm} {tg e : Expr} {da : DE} (ha : PD X F e da) : PDI X F tg e (diMix da) := pdi_or (pdi_list ha) (pdi_or (pdi_tup ha) (pdi_keys ha))
/-! ### kinds of a dict under tuples -/
section
variable {M : Mem} {Q : D → Mem → Prop}
theorem ii_dt_int {kv : List (List Key × D)} : f_isi [.dt kv, .ty "int"] M Q = Q (.bl false) M := by
  have h : isI "dict" "int" = false := by decide
  have h2 : "int" ∈ tys := by decide
  simp [f_isi, tyD, h, h2]
theorem ii_dt_bool {kv : List (List Key × D)} : f_isi [.dt kv, .ty "bool"] M Q = Q (.bl false) M := by
  have h : isI "dict" "bool" = false := by decide
  have h2 : "bool" ∈ tys := by decide
  simp [f_isi, tyD, h, h2]
theorem ii_dt_str {kv : List (List Key × D)} : f_isi [.dt kv, .ty "str"] M Q = Q (.bl false) M := by
  have h : isI "dict" "str" = false := by decide
  have h2 : "str" ∈ tys := by decide
  simp [f_isi, tyD, h, h2]
theorem ii_dt_list {kv : List (List Key × D)} : f_isi [.dt kv, .ty "list"] M Q = Q (.bl false) M := by
  have h : isI "dict" "list" = false := by decide
  have h2 : "list" ∈ tys := by decide
  simp [f_isi, tyD, h, h2]
theorem ii_dt_tuple {kv : List (List Key × D)} : f_isi [.dt kv, .ty "tuple"] M Q = Q (.bl false) M := by
  have h : isI "dict" "tuple" = false := by decide
  have h2 : "tuple" ∈ tys := by decide
  simp [f_isi, tyD, h, h2]
theorem ii_dt_dict {kv : List (List Key × D)} : f_isi [.dt kv, .ty "dict"] M Q = Q (.bl true) M := by
  have h : isI "dict" "dict" = true := by decide
  have h2 : "dict" ∈ tys := by decide
  simp [f_isi, tyD, h, h2]
end
/-! ### texts -/
structure Gs (z : Str) : Prop where
  ok : ∀ c ∈ z.cps.toList, c < 0x110000
theorem Gs.str {z : Str} (h : Gs z) : PyData.strOk z = true := by
  unfold PyData.strOk
  rw [Array.all_eq_true']
  intro c hc
  exact decide_eq_true (h.ok c (Array.mem_toList_iff.mpr hc))
theorem Gs.shaped {z : Str} (h : Gs z) : SeqAt.shaped (.str z) = true := by
  have : PyData.canLay0 (.str z) = true := by simp only [PyData.canLay0, h.str]
  unfold SeqAt.shaped
  rw [this]
  rfl
theorem Gs.app {a b : Str} (h : Gs a) (h' : Gs b) : Gs (a ++ b) := ⟨fun c hc => by
  have e : (a ++ b).cps.toList = a.cps.toList ++ b.cps.toList := by show (a.cps ++ b.cps).toList = _; simp
  rw [e, List.mem_append] at hc
  exact hc.elim (h.ok c) (h'.ok c)⟩
theorem Gs.cut {a : Str} (h : Gs a) (lo hi : Option Int) : Gs (cutS a lo hi) := ⟨fun c hc => by
  unfold cutS at hc
  exact h.ok c (List.mem_of_mem_drop (List.mem_of_mem_take hc))⟩
theorem Gs.lit {z : Str} (h : z.cps.toList.all (fun c => decide (c < 0x110000)) = true) : Gs z := ⟨fun c hc => of_decide_eq_true (List.all_eq_true.mp h c hc)⟩
theorem Gs.one {c : Nat} (h : c < 0x110000) : Gs ⟨#[c]⟩ := ⟨fun d hd => by
  have : d = c := by simpa using hd
  rw [this]; exact h⟩
theorem len_app (a b : Str) : (a ++ b).length = a.length + b.length := Str.length_append a b
theorem len_cut (a : Str) (lo hi : Option Int) : (cutS a lo hi).length ≤ a.length := cutS_length a lo hi
/-- signs joined -/
theorem join_ones : ∀ {ys : List Str}, (∀ y ∈ ys, y.length = 1 ∧ Gs y) → (Str.join "" ys).length = ys.length ∧ Gs (Str.join "" ys)
  | [], _ => ⟨by decide +kernel, ⟨fun c hc => by
    have : (Str.join "" []).cps.toList = [] := by decide +kernel
    rw [this] at hc; cases hc⟩⟩
  | [y], h => ⟨(h y List.mem_cons_self).1, (h y List.mem_cons_self).2⟩
  | y :: z :: r, h => by
    obtain ⟨i1, i2⟩ := join_ones (ys := z :: r) fun w hw => h w (List.mem_cons_of_mem _ hw)
    have h1 := h y List.mem_cons_self
    have e : (Str.ofString "").length = 0 := by decide +kernel
    refine ⟨?_, ?_⟩
    · show (y ++ Str.ofString "" ++ Str.join "" (z :: r)).length = _
      rw [len_app, len_app, i1, h1.1, e, List.length_cons]; simp; omega
    · show Gs (y ++ Str.ofString "" ++ Str.join "" (z :: r))
      exact (h1.2.app (.lit (by decide +kernel))).app i2
/-! ### the draws -/
def drC (ns : List Int) (a b c : Int) : Cell := .lst [.lst (ns.map D.int), .int a, .int b, .int c]
def Dr (M : Mem) (p : Addr) : Prop := ∃ ns a b c, M p = some (drC ns a b c) ∧ 0 ≤ a ∧ Sm 40 c
def AdvD (M M' : Mem) (p : Addr) : Prop := ∃ ns a b c, M' = Dl.st M p (drC ns a b c) ∧ 0 ≤ a ∧ Sm 40 c
theorem AdvD.dr {M M' : Mem} {p : Addr} (h : AdvD M M' p) : Dr M' p := by
  obtain ⟨ns, a, b, c, rfl, h1, h2⟩ := h
  exact ⟨ns, a, b, c, st_same, h1, h2⟩
theorem AdvD.trans {M M' M'' : Mem} {p : Addr} (h : AdvD M M' p) (h' : AdvD M' M'' p) : AdvD M M'' p := by
  obtain ⟨ns, a, b, c, rfl, _, _⟩ := h
  obtain ⟨ms, d, e, f, rfl, h1, h2⟩ := h'
  exact ⟨ms, d, e, f, st_st, h1, h2⟩
theorem Dr.refl {M : Mem} {p : Addr} (h : Dr M p) : AdvD M M p := by
  obtain ⟨ns, a, b, c, e, h1, h2⟩ := h
  exact ⟨ns, a, b, c, (st_get e).symm, h1, h2⟩
theorem AdvD.other {M M' : Mem} {p q : Addr} (h : AdvD M M' p) (hq : q ≠ p) : M' q = M q := by
  obtain ⟨ns, a, b, c, rfl, _, _⟩ := h
  exact st_ne hq
theorem gs_of (z : String) : Gs (Str.ofString z) := ⟨fun c hc => by
  rw [Str.ofString_eq_toList] at hc
  have hc : c ∈ z.toList.map Char.toNat := by simpa using hc
  obtain ⟨d, _, rfl⟩ := List.mem_map.mp hc
  have e : d.toNat = d.val.toNat := rfl
  rw [e]
  rcases d.valid with v | ⟨_, v⟩
  · have : d.val.toNat < 0xd800 := v
    omega
  · exact v⟩

section
variable {p : Addr} {M : Mem} {Q : D → Mem → Prop} {R : Mem → Prop} {ns : List Int} {i j l : Int}
theorem dr_0 : f_ix (.obj p) (.int 0) (Dl.st M p (drC ns i j l)) Q = Q (.lst (ns.map D.int)) (Dl.st M p (drC ns i j l)) := by simp [f_ix, seqD, listD, st_same, drC, atI, ixN]
theorem dr_1 : f_ix (.obj p) (.int 1) (Dl.st M p (drC ns i j l)) Q = Q (.int i) (Dl.st M p (drC ns i j l)) := by simp [f_ix, seqD, listD, st_same, drC, atI, ixN]
theorem dr_2 : f_ix (.obj p) (.int 2) (Dl.st M p (drC ns i j l)) Q = Q (.int j) (Dl.st M p (drC ns i j l)) := by simp [f_ix, seqD, listD, st_same, drC, atI, ixN]
theorem dr_3 : f_ix (.obj p) (.int 3) (Dl.st M p (drC ns i j l)) Q = Q (.int l) (Dl.st M p (drC ns i j l)) := by simp [f_ix, seqD, listD, st_same, drC, atI, ixN]
theorem ds_1 {u : Int} : f_set (.obj p) (.int 1) (.int u) (Dl.st M p (drC ns i j l)) R = R (Dl.st M p (drC ns u j l)) := by simp [f_set, st_same, st_st, drC, ixN]
theorem ds_2 {u : Int} : f_set (.obj p) (.int 2) (.int u) (Dl.st M p (drC ns i j l)) R = R (Dl.st M p (drC ns i u l)) := by simp [f_set, st_same, st_st, drC, ixN]
theorem ds_3 {u : Int} : f_set (.obj p) (.int 3) (.int u) (Dl.st M p (drC ns i j l)) R = R (Dl.st M p (drC ns i j u)) := by simp [f_set, st_same, st_st, drC, ixN]
theorem st_none {c : Cell} {q : Addr} (h : Dl.st M p c q = none) : q ≠ p ∧ M q = none := by
  by_cases e : q = p
  · subst e; rw [st_same] at h; cases h
  · rw [st_ne e] at h; exact ⟨e, h⟩
theorem strs_map (ys : List Str) : strsD (ys.map D.str) = some ys := by
  induction ys with
  | nil => rfl
  | cons y ys ih => rw [List.map_cons, strsD, ih]; rfl
theorem jn {z : Str} {ys : List Str} : f_join (.str z) [.lst (ys.map D.str)] M Q = ((ys.map (·.length)).sum + ys.length * z.length ≤ 16777216 ∧ Q (.str (Txt.join z ys)) M) := by
  simp only [f_join, seqD, listD, strs_map]
theorem join_eq (z : Str) (ys : List Str) : Txt.join z ys = Str.join z ys := StrLaws.glued_eq_join z ys
theorem ix_str {z : Str} {r : Int} (hz : z.length ≤ sizeLine) (h : 0 ≤ r) (h' : r < z.length) (q : ∀ c ∈ z.cps.toList, Q (.str ⟨#[c]⟩) M) : f_ix (.str z) (.int r) M Q := by
  obtain ⟨x, e, m, _⟩ := atI_pos (xs := z.cps.toList) h (by rw [Array.length_toList]; exact h')
  simp only [f_ix, seqD, listD, e]
  exact ⟨hz, q x m⟩

end
end Dl

/-! Do: loops as map, filter, fold; sums; lists of ints; sorted lists of tuples; memory that stays. -/
namespace Dl
open L2 PySem PyProof.Rows PySem.Spec
theorem big24 : (16000000 : Nat) < sizeLine := by decide
/-- [f x for x in xs if p x], nothing changed -/
theorem dLcL_fm {α : Type} {g : DG} {dt : DT} {de : DE} {vs : List Nat} {stay : Mem → Prop} {ρ : Rho} {Q : List D → Mem → Prop} {M : Mem} (xs : List α) (enc : α → D) (p : α → Bool) (f : α → D) (hst : stay M) (hn : xs.length ≤ 16000000)
    (step : ∀ x ∈ xs, ∀ (nx : D → Mem → Prop) (sk : Mem → Prop), (p x = true → nx (f x) M) → (p x = false → sk M) → g (enc x) (dwipe ρ vs) M fun ρ1 M1 => dt ρ1 M1 fun b M2 => if b = true then de ρ1 M2 nx else sk M2)
    (out : Q ((xs.filter p).map f) M) : dLcL g dt de vs stay ρ Q (xs.map enc) [] M := by
  have big := big24
  refine dLcL_by (fun i acc M' => M' = M ∧ acc = ((xs.take i).filter p).map f) (fun _ _ _ h => h.1 ▸ hst) ?_ ?_ ⟨rfl, rfl⟩
  · rintro i d acc M' e ⟨rfl, rfl⟩ nx k
    obtain ⟨x, hx, e2, rfl⟩ := map_item e
    obtain ⟨hi, rfl⟩ := List.getElem?_eq_some_iff.mp e2
    have tks : xs.take (i + 1) = xs.take i ++ [xs[i]] := List.take_succ_eq_append_getElem hi
    refine step _ hx (fun y M3 => (((xs.take i).filter p).map f).length < sizeLine ∧ nx (((xs.take i).filter p).map f ++ [y]) M3) (fun M2 => nx (((xs.take i).filter p).map f) M2) (fun hp => ⟨?_, k _ _ ⟨rfl, ?_⟩⟩) fun hp => k _ _ ⟨rfl, ?_⟩
    · rw [List.length_map]
      have := List.length_filter_le p (xs.take i)
      rw [List.length_take] at this
      omega
    · rw [tks, List.filter_append]; simp [hp]
    · rw [tks, List.filter_append]; simp [hp]
  · rintro acc M' ⟨rfl, rfl⟩
    rw [List.length_map, List.take_length]; exact out
/-- [f x for x in xs], nothing changed -/
theorem dLcL_map {α : Type} {g : DG} {de : DE} {vs : List Nat} {stay : Mem → Prop} {ρ : Rho} {Q : List D → Mem → Prop} {M : Mem} (xs : List α) (enc : α → D) (f : α → D) (hst : stay M) (hn : xs.length ≤ 16000000)
    (step : ∀ x ∈ xs, ∀ (nx : D → Mem → Prop), nx (f x) M → g (enc x) (dwipe ρ vs) M fun ρ1 M1 => de ρ1 M1 nx)
    (out : Q (xs.map f) M) : dLcL g dYes de vs stay ρ Q (xs.map enc) [] M := by
  have e : xs.filter (fun _ => true) = xs := List.filter_eq_self.mpr fun _ _ => rfl
  refine dLcL_fm xs enc (fun _ => true) f hst hn (fun x hx nx sk h1 _ => ?_) (e.symm ▸ out)
  simp only [dYes, if_true]
  exact step x hx nx (h1 rfl)
/-- a loop as a fold -/
theorem dForL_fold {α σ : Type} {g : DG} {db : DS} {E : DEnds} {stay : Mem → Prop} {ρ : Rho} {M : Mem} (xs : List α) (enc : α → D) (R : σ → Rho → Mem → Prop) (up : σ → α → σ) (s0 : σ) (hs : ∀ s ρ M, R s ρ M → stay M)
    (step : ∀ i (hi : i < xs.length) ρ M, R ((xs.take i).foldl up s0) ρ M → ∀ nx : Rho → Mem → Prop, (∀ ρ' M', R (up ((xs.take i).foldl up s0) xs[i]) ρ' M' → nx ρ' M') → g (enc xs[i]) ρ M fun ρ1 M1 => db { nx := nx, rt := E.rt, ct := nx, bk := E.nx } ρ1 M1)
    (out : ∀ ρ M, R (xs.foldl up s0) ρ M → E.nx ρ M) (h0 : R s0 ρ M) : dForL g db E stay (xs.map enc) ρ M := by
  refine dForL_inv (fun i ρ M => R ((xs.take i).foldl up s0) ρ M) (fun i ρ M h => hs _ ρ M h) ?_ ?_ h0
  · rintro i d ρ M e h nx k
    obtain ⟨x, hx, e2, rfl⟩ := map_item e
    obtain ⟨hi, rfl⟩ := List.getElem?_eq_some_iff.mp e2
    refine step i hi ρ M h nx fun ρ' M' r => k _ _ ?_
    rw [List.take_succ_eq_append_getElem hi, List.foldl_append]
    exact r
  · rintro ρ M h
    rw [List.length_map, List.take_length] at h
    exact out ρ M h
theorem intsD_map : ∀ xs : List Int, intsD (xs.map D.int) = some xs
  | [] => rfl
  | x :: xs => by rw [List.map_cons, intsD, intsD_map xs]; rfl
theorem sum_ints {xs : List Int} {M : Mem} {Q : D → Mem → Prop} : f_sum [.lst (xs.map D.int)] M Q = Q (.int xs.sum) M := by
  simp only [f_sum, listD, intsD_map]
theorem getD_ix {ds : List Int} {i : Nat} (h : i < ds.length) {M : Mem} {Q : D → Mem → Prop} (q : Q (.int (ds.getD i 0)) M) : f_ix (.lst (ds.map D.int)) (.int (0 + (i : Int))) M Q := by
  obtain ⟨x, e, m, e2⟩ := atI_pos (xs := ds.map D.int) (i := 0 + (i : Int)) (by omega) (by rw [List.length_map]; omega)
  have : (0 + (i : Int)).toNat = i := by omega
  rw [this, List.getElem?_map, List.getElem?_eq_getElem h] at e2
  simp only [Option.map_some, Option.some.injEq] at e2
  subst e2
  simp only [f_ix, seqD, listD, e]
  rw [List.getD_eq_getElem?_getD, List.getElem?_eq_getElem h] at q
  exact q
/-- xs[i] of a list of data -/
theorem ix_of {ds : List D} {i : Int} {M : Mem} {Q : D → Mem → Prop} (h : 0 ≤ i) (h' : i.toNat < ds.length) (q : Q (ds[i.toNat]) M) : f_ix (.lst ds) (.int i) M Q := by
  obtain ⟨x, e, _, e2⟩ := atI_pos (xs := ds) (i := i) h (by omega)
  rw [List.getElem?_eq_getElem h'] at e2
  simp only [f_ix, seqD, listD, e, ← Option.some.inj e2]
  exact q
theorem range_snoc {α : Type} (f : Nat → α) (i : Nat) : (List.range (i + 1)).map f = (List.range i).map f ++ [f i] := by rw [List.range_succ, List.map_append]; rfl
/-- what stood stays -/
def Keeps (M M' : Mem) : Prop := ∀ q, M q ≠ none → M' q = M q
theorem Keeps.refl (M : Mem) : Keeps M M := fun _ _ => rfl
theorem Keeps.trans {M M' M'' : Mem} (a : Keeps M M') (b : Keeps M' M'') : Keeps M M'' := fun q h => (b q (by rw [a q h]; exact h)).trans (a q h)
theorem Keeps.new {M : Mem} {p : Addr} {c : Cell} (h : M p = none) : Keeps M (Dl.st M p c) := fun q hq => st_ne fun z => hq (z ▸ h)
theorem Keeps.dr {M M' : Mem} {p : Addr} (k : Keeps M M') (d : Dr M p) : Dr M' p := by
  obtain ⟨ns, x, y, z, e, h1, h2⟩ := d
  exact ⟨ns, x, y, z, by rw [k p (by rw [e]; exact nofun)]; exact e, h1, h2⟩
theorem adv_under {N M : Mem} {p q : Addr} {c : Cell} (h : AdvD (Dl.st N q c) M p) (ne : q ≠ p) : ∃ N', AdvD N N' p ∧ M = Dl.st N' q c := by
  obtain ⟨ns, a, b, d, rfl, h1, h2⟩ := h
  exact ⟨_, ⟨ns, a, b, d, rfl, h1, h2⟩, st_comm ne⟩
theorem dr_over {N : Mem} {p q : Addr} {c : Cell} (h : Dr N p) (ne : q ≠ p) : Dr (Dl.st N q c) p := by
  obtain ⟨ns, a, b, d, e, h1, h2⟩ := h
  exact ⟨ns, a, b, d, by rw [st_ne (Ne.symm ne)]; exact e, h1, h2⟩
theorem dr_there {M : Mem} {p q : Addr} (d : Dr M p) (e : M q = none) : q ≠ p := by
  rintro rfl
  obtain ⟨_, _, _, _, h, _⟩ := d
  rw [h] at e; cases e
theorem adv_none {M M' : Mem} {p q : Addr} (a : AdvD M M' p) (ne : q ≠ p) (e : M q = none) : M' q = none := by rw [a.other ne]; exact e
theorem sm_mul (j : Int) (k : Nat) (h : 0 ≤ j ∧ j < 2 ^ k) : Sm k j := by
  unfold Sm
  have : ((2 ^ k : Nat) : Int) = 2 ^ k := by norm_cast
  omega
theorem sm_abs {j : Int} (k : Nat) (h : -(2 ^ k) < j ∧ j < 2 ^ k) : Sm k j := by
  unfold Sm
  have : ((2 ^ k : Nat) : Int) = 2 ^ k := by norm_cast
  omega
theorem sm_bnd {j : Int} {k : Nat} (h : Sm k j) : -(2 ^ k) < j ∧ j < 2 ^ k := by
  unfold Sm at h
  have : ((2 ^ k : Nat) : Int) = 2 ^ k := by norm_cast
  omega
theorem ix_last {ds : List D} {x : D} {M : Mem} {Q : D → Mem → Prop} {p : Addr} (e : M p = some (.lst (ds ++ [x]))) (q : Q x M) : f_ix (.obj p) (.int (-1)) M Q := by
  have e2 : atI (ds ++ [x]) (-1) = some x := by
    unfold atI ixN
    rw [if_neg (by decide), List.length_append, List.length_singleton, if_pos (by omega)]
    have : (-1 + ((ds.length + 1 : Nat) : Int)).toNat = ds.length := by omega
    simp only [this, Option.bind_some]
    simp
  simp only [f_ix, seqD, e, listD, e2]
  exact q
/-! ### dicts under tuples -/
theorem keyT_kT (k : List Key) : keyT (kT k) = some k := keysD_kD k
theorem ix_dt {kvs : List (List Key × D)} {k : List Key} {d : D} {M : Mem} {Q : D → Mem → Prop} (e : dget kvs k = some d) (q : Q d M) : f_ix (.dt kvs) (kT k) M Q := by
  have : dlook (.dt kvs) (kT k) M = some (some d) := by simp only [dlook, keyT_kT, Option.map_some, e]
  unfold kT at *
  simp only [f_ix, this]
  exact q
section
variable {κ α : Type} [DecidableEq κ]
theorem dget_at : ∀ {kvs : List (κ × α)} {i : Nat} (nd : (kvs.map (·.1)).Nodup) (h : i < kvs.length), dget kvs kvs[i].1 = some kvs[i].2
  | (k, v) :: r, 0, _, _ => by simp [dget]
  | (k, v) :: r, i + 1, nd, h => by
    rw [List.map_cons, List.nodup_cons] at nd
    have hi : i < r.length := by simpa using h
    have ne : ¬ k = r[i].1 := fun e => nd.1 (e ▸ List.mem_map.mpr ⟨r[i], List.getElem_mem hi, rfl⟩)
    simp only [List.getElem_cons_succ, dget, if_neg ne]
    exact dget_at nd.2 hi
theorem dhas_not : ∀ {kvs : List (κ × α)} {k : κ}, k ∉ kvs.map (·.1) → dhas kvs k = false
  | [], _, _ => rfl
  | (j, v) :: r, k, h => by
    rw [List.map_cons, List.mem_cons, not_or] at h
    have ne : ¬ j = k := fun e => h.1 e.symm
    simp only [dhas, if_neg ne]
    exact dhas_not h.2
theorem dput_cons {j k : κ} {v x : α} {l : List (κ × α)} (ne : ¬ j = k) : dput ((j, v) :: l) k x = (j, v) :: dput l k x := by
  unfold dput
  simp only [dhas, dsub, if_neg ne]
  split <;> rfl
theorem dput_next : ∀ {kvs : List (κ × α)} {i : Nat} (nd : (kvs.map (·.1)).Nodup) (h : i < kvs.length), dput (kvs.take i) kvs[i].1 kvs[i].2 = kvs.take (i + 1)
  | (k, v) :: r, 0, _, _ => by simp [dput, dhas]
  | (k, v) :: r, i + 1, nd, h => by
    rw [List.map_cons, List.nodup_cons] at nd
    have hi : i < r.length := by simpa using h
    have ne : ¬ k = r[i].1 := fun e => nd.1 (e ▸ List.mem_map.mpr ⟨r[i], List.getElem_mem hi, rfl⟩)
    simp only [List.getElem_cons_succ, List.take_succ_cons]
    rw [dput_cons ne, dput_next nd.2 hi]
theorem dsub_keys {k : κ} {v : α} : ∀ {l : List (κ × α)}, (dsub l k v).map (·.1) = l.map (·.1)
  | [] => rfl
  | (j, u) :: r => by
    rw [dsub, List.map_cons, List.map_cons, dsub_keys (l := r)]
    split <;> rfl
theorem dhas_iff {k : κ} : ∀ {l : List (κ × α)}, dhas l k = true ↔ k ∈ l.map (·.1)
  | [] => by simp [dhas]
  | (j, u) :: r => by
    rw [dhas, List.map_cons, List.mem_cons]
    by_cases h : j = k
    · rw [if_pos h]; simp [h]
    · rw [if_neg h, dhas_iff (l := r)]
      exact ⟨.inr, fun z => z.resolve_left fun e => h e.symm⟩
theorem dput_mem {l : List (κ × α)} {k r : κ} {v : α} : r ∈ (dput l k v).map (·.1) ↔ r ∈ l.map (·.1) ∨ r = k := by
  unfold dput
  by_cases h : dhas l k = true
  · rw [if_pos h, dsub_keys]
    exact ⟨.inl, fun z => z.elim id fun e => e ▸ dhas_iff.mp h⟩
  · rw [if_neg h, List.map_append, List.mem_append]
    simp
theorem dput_nd {l : List (κ × α)} {k : κ} {v : α} (nd : (l.map (·.1)).Nodup) : ((dput l k v).map (·.1)).Nodup := by
  unfold dput
  by_cases h : dhas l k = true
  · rw [if_pos h, dsub_keys]; exact nd
  · rw [if_neg h, List.map_append, List.nodup_append]
    refine ⟨nd, by simp, fun a ha b hb e => h (dhas_iff.mpr ?_)⟩
    have : b = k := by simpa using hb
    rw [← this, ← e]; exact ha
theorem dput_len {l : List (κ × α)} {k : κ} {v : α} : (dput l k v).length ≤ l.length + 1 := by
  unfold dput
  by_cases h : dhas l k = true
  · rw [if_pos h]
    have := congrArg List.length (dsub_keys (k := k) (v := v) (l := l))
    rw [List.length_map, List.length_map] at this
    omega
  · rw [if_neg h, List.length_append]; exact Nat.le_refl _
theorem dsub_mem {k : κ} {v : α} {P : α → Prop} (hv : P v) : ∀ {l : List (κ × α)}, (∀ q ∈ l, P q.2) → ∀ q ∈ dsub l k v, P q.2
  | [], _, q, hq => by cases hq
  | (j, u) :: r, h, q, hq => by
    rw [dsub] at hq
    rcases List.mem_cons.mp hq with rfl | hq
    · split
      · exact hv
      · exact h _ List.mem_cons_self
    · exact dsub_mem hv (fun q hq => h q (List.mem_cons_of_mem _ hq)) q hq
theorem dput_all {k : κ} {v : α} {P : α → Prop} (hv : P v) {l : List (κ × α)} (h : ∀ q ∈ l, P q.2) : ∀ q ∈ dput l k v, P q.2 := fun q hq => by
  unfold dput at hq
  split at hq
  · exact dsub_mem hv h q hq
  · rcases List.mem_append.mp hq with m | m
    · exact h q m
    · have : q = (k, v) := by simpa using m
      rw [this]; exact hv
end
/-! ### rows sorted -/
noncomputable def srt (l : List (List Key)) : List (List Key) :=
  open Classical in if h : ∃ out : List (List Key), out.Perm l ∧ out.Pairwise (fun x y => lexK y x = false) then Classical.choose h else []
theorem srt_ok (l : List (List Key)) : (srt l).Perm l ∧ (srt l).Pairwise (fun x y => lexK y x = false) := by
  have sw := swo_lexK (fun k : List Key => k)
  have h : ∃ out : List (List Key), out.Perm l ∧ out.Pairwise (fun x y => lexK y x = false) := by
    refine ⟨l.mergeSort (fun x y => !lexK y x), List.mergeSort_perm _ _, ?_⟩
    have := List.pairwise_mergeSort (le := fun x y => !lexK y x) (fun a b c h1 h2 => by
      have h1 : lexK b a = false := by simpa using h1
      have h2 : lexK c b = false := by simpa using h2
      have := sw.2 a b c h1 h2
      simpa using this) (fun a b => by
      cases q : lexK b a with
      | false => rfl
      | true => simp [lexK_asym q]) l
    exact this.imp fun h => by simpa using h
  unfold srt
  rw [dif_pos h]
  exact Classical.choose_spec h
theorem srt_eq {l out : List (List Key)} (h1 : out.Perm l) (h2 : out.Pairwise (fun x y => lexK y x = false)) : out = srt l :=
  sort_uniq (h1.trans (srt_ok l).1.symm) h2 (srt_ok l).2
/-- what is compared: flat, at most n deep -/
def Pl : Nat → D → Prop
  | 0, _ => False
  | n + 1, d => match d with
    | .non => True
    | .bl _ => True
    | .int _ => True
    | .str z => Gs z
    | .tup ds => ds.length ≤ 1000 ∧ ∀ d ∈ ds, Pl n d
    | .lst ds => ds.length ≤ 1000 ∧ ∀ d ∈ ds, Pl n d
    | .dt kvs => kvs.length ≤ 1000 ∧ (kvs.map (·.1)).Nodup ∧ ∀ q ∈ kvs, Pl n q.2
    | _ => False
/-! ### dict comprehensions under ints and texts, merged dicts -/
theorem dDckL_map {α : Type} {g : DG} {dk dv : DE} {vs : List Nat} {stay : Mem → Prop} {ρ : Rho} {Q : List (Key × D) → Mem → Prop} {M : Mem} (xs : List α) (enc : α → D) (kf : α → Key) (vf : α → D) (hst : stay M) (hn : xs.length ≤ 16000000)
    (step : ∀ x ∈ xs, ∀ nx : D → D → Mem → Prop, nx (kD (kf x)) (vf x) M → g (enc x) (dwipe ρ vs) M fun ρ1 M1 => dk ρ1 M1 fun y M3 => dv ρ1 M3 fun z M4 => nx y z M4)
    (out : Q (dmergeK [] (xs.map fun x => (kf x, vf x))) M) : dDckL g dYes dk dv vs stay ρ Q (xs.map enc) [] M := by
  have big := big24
  have key : ∀ (ys : List α) (acc : List (Key × D)), (∀ y ∈ ys, y ∈ xs) → acc.length + ys.length ≤ 16000000 → Q (dmergeK acc (ys.map fun x => (kf x, vf x))) M → dDckL g dYes dk dv vs stay ρ Q (ys.map enc) acc M := by
    intro ys
    induction ys with
    | nil => intro acc _ _ q; exact ⟨hst, q⟩
    | cons y ys ih =>
      intro acc hy hl q
      rw [List.length_cons] at hl
      refine ⟨hst, ?_⟩
      simp only [dYes, if_true]
      refine step y (hy y List.mem_cons_self) (fun y' z M4 => ∃ k, keyD y' = some k ∧ acc.length < sizeLine ∧ dDckL g dYes dk dv vs stay ρ Q (ys.map enc) (dput acc k z) M4) ?_
      refine ⟨kf y, by cases kf y <;> rfl, by omega, ih _ (fun w hw => hy w (List.mem_cons_of_mem _ hw)) ?_ q⟩
      have : (dput acc (kf y) (vf y)).length ≤ acc.length + 1 := dput_len
      omega
  exact key xs [] (fun _ h => h) (by simpa using hn) out
theorem merge_mem : ∀ {more kvs : List (Key × D)} {r : Key}, r ∈ (dmergeK kvs more).map (·.1) ↔ r ∈ kvs.map (·.1) ∨ r ∈ more.map (·.1)
  | [], kvs, r => by simp [dmergeK]
  | (k, v) :: more, kvs, r => by
    have := merge_mem (more := more) (kvs := dput kvs k v) (r := r)
    show r ∈ (dmergeK (dput kvs k v) more).map (·.1) ↔ _
    rw [this, dput_mem, List.map_cons, List.mem_cons, or_assoc]
theorem merge_nd : ∀ {more kvs : List (Key × D)}, (kvs.map (·.1)).Nodup → ((dmergeK kvs more).map (·.1)).Nodup
  | [], _, h => h
  | (k, v) :: more, kvs, h => by
    show ((dmergeK (dput kvs k v) more).map (·.1)).Nodup
    exact merge_nd (dput_nd h)
theorem intKs_all : ∀ {ks : List Key}, (∀ k ∈ ks, ∃ i, k = .inl i) → ∃ is, intKs ks = some is
  | [], _ => ⟨[], rfl⟩
  | k :: ks, h => by
    obtain ⟨i, rfl⟩ := h k List.mem_cons_self
    obtain ⟨is, e⟩ := intKs_all fun k hk => h k (List.mem_cons_of_mem _ hk)
    exact ⟨i :: is, by rw [intKs, e]; rfl⟩
theorem foldl_app {α β : Type} (f : α → List β) (xs : List α) : ∀ s : List β, xs.foldl (fun s x => s ++ f x) s = s ++ xs.flatMap f := by
  induction xs with
  | nil => intro s; simp
  | cons x xs ih => intro s; rw [List.foldl_cons, ih, List.flatMap_cons, List.append_assoc]
/-- the cell q of a dict under tuples, over what stood -/
structure Acc (M M' : Mem) (q : Addr) (s : List (List Key × D)) : Prop where
  at_ : M' q = some (.dt s)
  ke : Keeps M M'
  fr : M q = none
theorem Acc.set {M M' : Mem} {q : Addr} {s : List (List Key × D)} (a : Acc M M' q s) {k : D} {ks : List Key} (hk : keyT k = some ks) {v : D} (hl : s.length ≤ 16000000) {R : Mem → Prop} (h : ∀ M'', Acc M M'' q (dput s ks v) → R M'') : f_set (.obj q) k v M' R := by
  have big := big24
  unfold f_set
  simp only [a.at_, hk]
  exact ⟨by omega, h _ ⟨st_same, fun x hx => by rw [st_ne (fun z : x = q => hx (z ▸ a.fr))]; exact a.ke x hx, a.fr⟩⟩
theorem Acc.keeps {M M' M'' : Mem} {q : Addr} {s : List (List Key × D)} (a : Acc M M' q s) (k : Keeps M' M'') : Acc M M'' q s := ⟨(k q (by rw [a.at_]; exact nofun)).trans a.at_, a.ke.trans k, a.fr⟩
theorem Keeps.rm {M M' : Mem} {q : Addr} (k : Keeps M M') (f : M q = none) : Keeps M (rm M' q) := fun x hx => by rw [rm_ne (fun z : x = q => hx (z ▸ f))]; exact k x hx
def sumR (f : Nat → Int) (i : Nat) : Int := ((List.range i).map f).sum
theorem sumR_succ (f : Nat → Int) (i : Nat) : sumR f (i + 1) = sumR f i + f i := by
  unfold sumR
  rw [List.range_succ, List.map_append, List.sum_append]; simp
theorem getI {ns : List Int} {i : Nat} (hi : i < ns.length) : ns.getD i 0 = ns[i] := by rw [List.getD_eq_getElem?_getD, List.getElem?_eq_getElem hi]; rfl
/-! ### blocks cut -/
section
variable {a b c d e f g r : DS} {E : DEnds} {ρ : Rho} {M : Mem}
theorem cut2 : (dSeq a (dSeq b r)) E ρ M = dSeq (dSeq a b) r E ρ M := rfl
theorem cut3 : (dSeq a (dSeq b (dSeq c r))) E ρ M = dSeq (dSeq a (dSeq b c)) r E ρ M := rfl
theorem cut4 : (dSeq a (dSeq b (dSeq c (dSeq d r)))) E ρ M = dSeq (dSeq a (dSeq b (dSeq c d))) r E ρ M := rfl
theorem cut5 : (dSeq a (dSeq b (dSeq c (dSeq d (dSeq e r))))) E ρ M = dSeq (dSeq a (dSeq b (dSeq c (dSeq d e)))) r E ρ M := rfl
theorem cut6 : (dSeq a (dSeq b (dSeq c (dSeq d (dSeq e (dSeq f r)))))) E ρ M = dSeq (dSeq a (dSeq b (dSeq c (dSeq d (dSeq e f))))) r E ρ M := rfl
theorem cut7 : (dSeq a (dSeq b (dSeq c (dSeq d (dSeq e (dSeq f (dSeq g r))))))) E ρ M = dSeq (dSeq a (dSeq b (dSeq c (dSeq d (dSeq e (dSeq f g)))))) r E ρ M := rfl
end
end Dl

/-! DlE: the law's own def, at the end. -/
namespace Dl
open L2 PySem PyProof.Rows PySem.Spec

/-- an exception that is let out was wished for -/
def CXw : CXT := fun _ _ _ E _ _ => ∃ c d H', E c d H'
theorem fn_cxw {P : Program} {w : World} {K : Fg} {mg : Str → Option Value} {base : Heap} {k : Nat} {f : Addr} {fd : FuncData} {ps : List Str} {sp : Sp} (F : FnOk P w K mg base (L2.CX P w) k f fd ps sp) : FnOk P w K mg base CXw k f fd ps sp :=
  ⟨F.len, fun A outer s H args us vs Q E hr he hb hv hs => codeAny_mono (F.run A outer s H args us vs Q E hr he hb hv hs) fun r s' h => by
    cases r with
    | ok c => cases c <;> exact h
    | error e =>
      obtain ⟨a, B, H', cls, d, _, _, _, _, _, _, _, hE⟩ := h
      exact ⟨cls, d, H', hE⟩⟩
/-- a world's answer to one asking, written out -/
def setF (w : World) (k : String) (b : Bool) : World := { w with params := { w.params with followText := fun s => if s = k then b else w.params.followText s } }
theorem setF_eq {w : World} {k : String} {b : Bool} (h : w.params.followText k = b) : setF w k b = w := by
  have : (fun s => if s = k then b else w.params.followText s) = w.params.followText := by
    funext s
    split
    · rename_i e; rw [e, h]
    · rfl
  unfold setF
  rw [this]
/-- the law's promise at its script -/
theorem law_sp {K : Fg} {sp : DSp} {H : Hp} {a : Addr} {ns : List Int} (h : ∀ pox, sp [.ro (ns.map D.int)] (fun _ => none) (fun v _ => v = .bl true) pox) (hS : SqL K H a (ns.map V.int)) : LSp K sp [.ref a] H (fun v _ => v = .bl true) (fun _ _ _ => False) := by
  refine ⟨fun _ => none, H, [.ro (ns.map D.int)], fun _ => none, fun v _ => v = .bl true, fun _ _ => False, ⟨Same.refl _, Same.refl _, fun _ _ q => (by cases q), fun _ _ q => (by cases q), fun _ _ q => (by cases q)⟩, .cons (.ro hS Reps.ints) .nil, h _, ?_, fun _ _ _ _ _ _ _ _ _ z => z⟩
  intro G' H' M' x v _ _ r q
  subst q
  cases r
  rfl
end Dl

set_option maxHeartbeats 0
namespace K81
open Dl PySem PySem.Spec PyProof.Rows L2
def top (i : Nat) : Stmt := PySem.Challenge.pw_fairlevy_k81_the_plain_account.main.body.getD i (.Pass ⟨0, 0, 0, 0⟩)
abbrev s_amount : Stmt := top 5
abbrev s_times : Stmt := top 6
abbrev s_floor_of : Stmt := top 7
abbrev s_parts_of_charge : Stmt := top 13
abbrev s_paid_by : Stmt := top 14
abbrev s_due_by : Stmt := top 15
abbrev s_overdue_days : Stmt := top 16
abbrev s_left_of : Stmt := top 17
abbrev s_plain_account : Stmt := top 18
abbrev s_law_draws : Stmt := top 20
abbrev s_law_draw : Stmt := top 21
abbrev s_law_same : Stmt := top 22
abbrev s_law_copy : Stmt := top 23
abbrev s_law_parts : Stmt := top 24
abbrev s_law_open : Stmt := top 25
abbrev s_law_counted : Stmt := top 26
abbrev s_law_left : Stmt := top 27
abbrev s_law_due : Stmt := top 28
abbrev s_law_charges : Stmt := top 29
abbrev s_law_payments : Stmt := top 30
abbrev s_law_turned : Stmt := top 31
abbrev s_law : Stmt := top 32
structure Zx (K : Fg) : Prop where
  zz : True
/-- what the head tells -/
structure Tx (w : World) (K : Fg) (mg : Str → Option Value) : Prop where
  b_abs : mg "abs" = none
  b_all : mg "all" = none
  b_bool : mg "bool" = none
  b_dict : mg "dict" = none
  b_int : mg "int" = none
  b_isinstance : mg "isinstance" = none
  b_len : mg "len" = none
  b_list : mg "list" = none
  b_max : mg "max" = none
  b_min : mg "min" = none
  b_range : mg "range" = none
  b_sorted : mg "sorted" = none
  b_str : mg "str" = none
  b_sum : mg "sum" = none
  b_tuple : mg "tuple" = none
  g_ZeroAmount : mg "ZeroAmount" = some (.ref (cA K "ZeroAmount"))
  x_ZeroAmount : PySem.W.excIn K (cA K "ZeroAmount") He.veBase "ValueError.__new__" = true ∧ PySem.W.keepIn K (.ref (cA K "ZeroAmount")) = true ∧ PySem.W.subIn K (.ref (cA K "ZeroAmount")) (.type "BaseException") = some true ∧ PySem.W.typeIn K (.ref (cA K "ZeroAmount")) = some (.type "type")
  z : Zx K
  gcd : mg "gcd" = some (.builtin "math.gcd")
  k_CHARGE : ∃ t, mg "CHARGE" = some (.str "charge" t)
  k_INTEREST : ∃ t, mg "INTEREST" = some (.str "interest" t)
  k_PAYMENT : ∃ t, mg "PAYMENT" = some (.str "payment" t)
  k_SURCHARGE : ∃ t, mg "SURCHARGE" = some (.str "surcharge" t)
  f_amount : Df K mg "amount" s_amount
  f_times : Df K mg "times" s_times
  f_floor_of : Df K mg "floor_of" s_floor_of
  f_parts_of_charge : Df K mg "parts_of_charge" s_parts_of_charge
  f_paid_by : Df K mg "paid_by" s_paid_by
  f_due_by : Df K mg "due_by" s_due_by
  f_overdue_days : Df K mg "overdue_days" s_overdue_days
  f_left_of : Df K mg "left_of" s_left_of
  f_plain_account : Df K mg "plain_account" s_plain_account
  f_law_draws : Df K mg "_law_draws" s_law_draws
  f_law_draw : Df K mg "_law_draw" s_law_draw
  f_law_same : Df K mg "_law_same" s_law_same
  f_law_copy : Df K mg "_law_copy" s_law_copy
  f_law_parts : Df K mg "_law_parts" s_law_parts
  f_law_open : Df K mg "_law_open" s_law_open
  f_law_counted : Df K mg "_law_counted" s_law_counted
  f_law_left : Df K mg "_law_left" s_law_left
  f_law_due : Df K mg "_law_due" s_law_due
  f_law_charges : Df K mg "_law_charges" s_law_charges
  f_law_payments : Df K mg "_law_payments" s_law_payments
  f_law_turned : Df K mg "_law_turned" s_law_turned
  f_law : Df K mg "law" s_law
/-! ### parts, payments, plainly -/
def cut1 (pn : Int) (n i : Nat) : Int := pn * ((i : Int) + 1) / (n : Int) - pn * (i : Int) / (n : Int)
def kk (kd : Str) (a b : Int) : List Key := [.inr kd, .inl a, .inl b]
structure Ch where
  y : Int
  pn : Int
  ds : List Int
def chD (c : Ch) : D := .tup [.int c.y, .int c.pn, .lst (c.ds.map D.int)]
structure Pay where
  n : Int
  w : Int
  p : Int
def payD (p : Pay) : D := .tup [.int p.n, .int p.w, .int p.p]
structure Pt where
  d : Int
  y : Int
  a : Int
  n : Int
instance : Inhabited Pt := ⟨⟨0, 0, 0, 0⟩⟩
def ptK (r : Pt) : List Key := [.inl r.d, .inl r.y, .inl r.a, .inl r.n]
def kPt : List Key → Pt
  | [.inl d, .inl y, .inl a, .inl n] => ⟨d, y, a, n⟩
  | _ => ⟨0, 0, 0, 0⟩
def ptD (r : Pt) : D := .tup [.int r.d, .int r.y, .int r.a, .int r.n]
theorem ptD_kT (r : Pt) : kT (ptK r) = ptD r := rfl
def partAt (y pn : Int) (ds : List Int) (i : Nat) : Pt := ⟨ds.getD i 0, y, i, cut1 pn ds.length i⟩
def partsOf (y pn : Int) (ds : List Int) : List Pt := (List.range ds.length).map (partAt y pn ds)
def allP (cs : List Ch) : List Pt := cs.flatMap fun c => partsOf c.y c.pn c.ds
noncomputable def srtP (ps : List Pt) : List Pt := (srt (ps.map ptK)).map kPt
theorem srtP_keys (ps : List Pt) : (srtP ps).map ptK = srt (ps.map ptK) := by
  unfold srtP
  rw [List.map_map]
  have h := (srt_ok (ps.map ptK)).1
  have : ∀ k ∈ srt (ps.map ptK), (ptK ∘ kPt) k = k := fun k hk => by
    obtain ⟨r, _, rfl⟩ := List.mem_map.mp (h.mem_iff.mp hk)
    rfl
  exact (List.map_congr_left this).trans (List.map_id _)
theorem srtP_perm (ps : List Pt) : (srtP ps).Perm ps := by
  have h := ((srt_ok (ps.map ptK)).1.map kPt)
  rw [List.map_map] at h
  have : ps.map (kPt ∘ ptK) = ps := List.map_id' _
  rw [this] at h
  exact h
theorem sortP {ps : List Pt} {v : D} {M : Mem} {Q : D → Mem → Prop} (e : listD v M = some (ps.map ptD)) (q : Q (.lst ((srtP ps).map ptD)) M) : f_sortT [v] M Q := by
  refine ⟨ps.map ptK, false, by rw [e, List.map_map]; rfl, fun x hx y hy => ?_, fun x hx => ?_, fun out h1 h2 => ?_⟩
  · obtain ⟨_, _, rfl⟩ := List.mem_map.mp hx
    obtain ⟨_, _, rfl⟩ := List.mem_map.mp hy
    exact .int (.int (.int (.int .nil)))
  · obtain ⟨_, _, rfl⟩ := List.mem_map.mp hx
    rfl
  · have : out.map kT = (srtP ps).map ptD := by
      rw [srt_eq h1 h2, ← srtP_keys, List.map_map]; rfl
    rw [this]; exact q
def dueBy (rs : List Pt) (d : Int) : Int := ((rs.filter fun r => decide (r.d ≤ d)).map Pt.n).sum
def paidBy (ps : List Pay) (d : Int) : Int := ((ps.filter fun p => decide (p.w ≤ d)).map Pay.p).sum
def max0 (x : Int) : Int := if x > 0 then x else 0
def openF (rs : List Pt) (ps : List Pay) (d : Int) : Int := max0 (dueBy rs d - paidBy ps d)
def integ (rs : List Pt) (ps : List Pay) (t : Int) : Int := ((List.range t.toNat).map fun x : Nat => openF rs ps (x : Int)).sum
/-- e is a day on which something happens -/
def Ev (rs : List Pt) (ps : List Pay) (e : Int) : Prop := (∃ r ∈ rs, r.d = e) ∨ ∃ p ∈ ps, p.w = e
theorem open_const {rs : List Pt} {ps : List Pay} {a x : Int} (h : a ≤ x) (no : ∀ e, Ev rs ps e → ¬ (a < e ∧ e ≤ x)) : openF rs ps x = openF rs ps a := by
  have h1 : rs.filter (fun r => decide (r.d ≤ x)) = rs.filter (fun r => decide (r.d ≤ a)) := List.filter_congr fun r hr => by
    have := no r.d (.inl ⟨r, hr, rfl⟩)
    exact decide_eq_decide.mpr ⟨fun z => by omega, fun z => by omega⟩
  have h2 : ps.filter (fun r => decide (r.w ≤ x)) = ps.filter (fun r => decide (r.w ≤ a)) := List.filter_congr fun r hr => by
    have := no r.w (.inr ⟨r, hr, rfl⟩)
    exact decide_eq_decide.mpr ⟨fun z => by omega, fun z => by omega⟩
  unfold openF dueBy paidBy
  rw [h1, h2]
theorem open_zero {rs : List Pt} {ps : List Pay} {x : Int} (no : ∀ e, Ev rs ps e → x < e) : openF rs ps x = 0 := by
  have h1 : rs.filter (fun r => decide (r.d ≤ x)) = [] := List.filter_eq_nil_iff.mpr fun r hr => by
    have := no r.d (.inl ⟨r, hr, rfl⟩)
    simp only [decide_eq_true_eq]; omega
  have h2 : ps.filter (fun r => decide (r.w ≤ x)) = [] := List.filter_eq_nil_iff.mpr fun r hr => by
    have := no r.w (.inr ⟨r, hr, rfl⟩)
    simp only [decide_eq_true_eq]; omega
  unfold openF dueBy paidBy
  rw [h1, h2]
  rfl
theorem integ_step {rs : List Pt} {ps : List Pay} {a : Int} (ha : 0 ≤ a) : ∀ (n : Nat), (∀ e, Ev rs ps e → ¬ (a < e ∧ e < a + n)) → integ rs ps (a + n) = integ rs ps a + openF rs ps a * n
  | 0, _ => by simp
  | n + 1, no => by
    have ih := integ_step ha n fun e he z => no e he ⟨z.1, by omega⟩
    have e1 : (a + ((n + 1 : Nat) : Int)).toNat = (a + n).toNat + 1 := by omega
    unfold integ at ih ⊢
    rw [e1, List.range_succ, List.map_append, List.sum_append, ih]
    have e2 : (((a + (n : Int)).toNat : Nat) : Int) = a + n := by omega
    simp only [List.map_cons, List.map_nil, List.sum_cons, List.sum_nil, e2]
    rw [open_const (a := a) (x := a + n) (by omega) fun e he z => no e he ⟨z.1, by omega⟩]
    have : ((n + 1 : Nat) : Int) = (n : Int) + 1 := by omega
    rw [this, Int.mul_add]
    omega
theorem integ_to {rs : List Pt} {ps : List Pay} {a b : Int} (ha : 0 ≤ a) (hb : a ≤ b) (no : ∀ e, Ev rs ps e → ¬ (a < e ∧ e < b)) : openF rs ps a * (b - a) = integ rs ps b - integ rs ps a := by
  have := integ_step (rs := rs) (ps := ps) ha (b - a).toNat fun e he z => no e he ⟨z.1, by omega⟩
  have e : a + ((b - a).toNat : Int) = b := by omega
  rw [e] at this
  rw [this]
  have e2 : (((b - a).toNat : Nat) : Int) = b - a := by omega
  rw [e2]; omega
theorem integ_zero {rs : List Pt} {ps : List Pay} {a : Int} (no : ∀ e, Ev rs ps e → a ≤ e) : integ rs ps a = 0 := by
  unfold integ
  have : (List.range a.toNat).map (fun x : Nat => openF rs ps (x : Int)) = (List.range a.toNat).map (fun _ => (0 : Int)) := List.map_congr_left fun x hx => by
    have := List.mem_range.mp hx
    exact open_zero fun e he => by have := no e he; omega
  rw [this]
  generalize a.toNat = n
  induction n with
  | zero => rfl
  | succ n ih => rw [List.range_succ, List.map_append, List.sum_append, ih]; rfl
theorem tele (F : Nat → Int) : ∀ n : Nat, ((List.range n).map fun j => F (j + 1) - F j).sum = F n - F 0
  | 0 => by simp
  | n + 1 => by
    rw [List.range_succ, List.map_append, List.sum_append, tele F n]
    simp only [List.map_cons, List.map_nil, List.sum_cons, List.sum_nil]
    omega
theorem sum_take {α : Type} (f : α → Int) (xs : List α) (i : Nat) (hi : i < xs.length) : ((xs.take (i + 1)).map f).sum = ((xs.take i).map f).sum + f xs[i] := by
  rw [List.take_succ_eq_append_getElem hi, List.map_append, List.sum_append]
  simp
theorem pair_le {ns : List Int} (h : ns.Pairwise (· ≤ ·)) {i j : Nat} (hi : i < ns.length) (hj : j < ns.length) (hij : i ≤ j) : ns[i] ≤ ns[j] := by
  rcases Nat.lt_or_eq_of_le hij with l | rfl
  · exact (List.pairwise_iff_getElem.mp h) i j hi hj l
  · exact Int.le_refl _
/-- the stops of the program: sorted, each once, all events before today -/
def stopP (ds : List Int) (t : Int) (j : Nat) : Int := if j < ds.length then ds.getD j 0 else t
theorem sum_prog {rs : List Pt} {ps : List Pay} {ds : List Int} {t : Int} (ht : 0 ≤ t) (hs : ds.Pairwise (· ≤ ·)) (pos : ∀ d ∈ ds, 0 ≤ d ∧ d < t) (ev : ∀ e, Ev rs ps e → e < t → e ∈ ds) (evd : ∀ d ∈ ds, Ev rs ps d) :
    ((List.range ds.length).map fun j => openF rs ps (ds.getD j 0) * (stopP ds t (j + 1) - ds.getD j 0)).sum = integ rs ps t := by
  have h1 : (List.range ds.length).map (fun j => openF rs ps (ds.getD j 0) * (stopP ds t (j + 1) - ds.getD j 0)) = (List.range ds.length).map (fun j => integ rs ps (stopP ds t (j + 1)) - integ rs ps (stopP ds t j)) := by
    refine List.map_congr_left fun j hj => ?_
    have hj := List.mem_range.mp hj
    have gj : ds.getD j 0 = ds[j] := by rw [List.getD_eq_getElem?_getD, List.getElem?_eq_getElem hj]; rfl
    have ej : stopP ds t j = ds[j] := by unfold stopP; rw [if_pos hj, gj]
    have pj := pos _ (List.getElem_mem hj)
    rw [ej, gj]
    by_cases h2 : j + 1 < ds.length
    · have e2 : stopP ds t (j + 1) = ds[j + 1] := by unfold stopP; rw [if_pos h2, List.getD_eq_getElem?_getD, List.getElem?_eq_getElem h2]; rfl
      rw [e2]
      refine integ_to pj.1 (pair_le hs hj h2 (by omega)) fun e he z => ?_
      have p2 := pos _ (List.getElem_mem h2)
      obtain ⟨k, hk, ek⟩ := List.mem_iff_getElem.mp (ev e he (by omega))
      rcases Nat.lt_or_ge j k with l | l
      · have := pair_le hs h2 hk (by omega); omega
      · have := pair_le hs hk hj l; omega
    · have e2 : stopP ds t (j + 1) = t := by unfold stopP; rw [if_neg h2]
      rw [e2]
      refine integ_to pj.1 (by omega) fun e he z => ?_
      obtain ⟨k, hk, ek⟩ := List.mem_iff_getElem.mp (ev e he (by omega))
      have := pair_le hs hk hj (by omega)
      omega
  rw [h1, tele (fun j => integ rs ps (stopP ds t j))]
  have e1 : stopP ds t ds.length = t := by unfold stopP; rw [if_neg (by omega)]
  have z : integ rs ps (stopP ds t 0) = 0 := by
    refine integ_zero fun e he => ?_
    unfold stopP
    by_cases h0 : 0 < ds.length
    · rw [if_pos h0]
      have g0 : ds.getD 0 0 = ds[0] := by rw [List.getD_eq_getElem?_getD, List.getElem?_eq_getElem h0]; rfl
      rw [g0]
      have p0 := pos _ (List.getElem_mem h0)
      rcases Int.lt_or_le e t with l | l
      · obtain ⟨k, hk, ek⟩ := List.mem_iff_getElem.mp (ev e he l)
        have := pair_le hs h0 hk (by omega)
        omega
      · omega
    · rw [if_neg h0]
      rcases Int.lt_or_le e t with l | l
      · have := ev e he l
        have : ds = [] := List.eq_nil_of_length_eq_zero (by omega)
        simp_all
      · exact l
  show integ rs ps (stopP ds t ds.length) - integ rs ps (stopP ds t 0) = _
  rw [e1, z]; omega
def minI (a b : Int) : Int := if b < a then b else a
/-- the stops of the law: sorted, all events and today -/
theorem sum_law {rs : List Pt} {ps : List Pay} {ss : List Int} {t : Int} (hs : ss.Pairwise (· ≤ ·)) (pos : ∀ d ∈ ss, 0 ≤ d) (ev : ∀ e, Ev rs ps e → e ∈ ss) (ht : t ∈ ss) :
    ((List.range (ss.length - 1)).map fun j => if ss.getD j 0 < t then openF rs ps (ss.getD j 0) * (minI t (ss.getD (j + 1) 0) - ss.getD j 0) else 0).sum = integ rs ps t := by
  obtain ⟨k0, hk0, ek0⟩ := List.mem_iff_getElem.mp ht
  have g : ∀ {j : Nat} (h : j < ss.length), ss.getD j 0 = ss[j] := fun {j} h => by rw [List.getD_eq_getElem?_getD, List.getElem?_eq_getElem h]; rfl
  have h1 : (List.range (ss.length - 1)).map (fun j => if ss.getD j 0 < t then openF rs ps (ss.getD j 0) * (minI t (ss.getD (j + 1) 0) - ss.getD j 0) else 0) = (List.range (ss.length - 1)).map (fun j => integ rs ps (minI t (ss.getD (j + 1) 0)) - integ rs ps (minI t (ss.getD j 0))) := by
    refine List.map_congr_left fun j hj => ?_
    have hj := List.mem_range.mp hj
    have a1 : j < ss.length := by omega
    have a2 : j + 1 < ss.length := by omega
    have o := pair_le hs a1 a2 (by omega)
    have pj := pos _ (List.getElem_mem a1)
    rw [g a1, g a2]
    by_cases hl : ss[j] < t
    · rw [if_pos hl]
      have m0 : minI t ss[j] = ss[j] := if_pos hl
      rw [m0]
      have mb : minI t ss[j + 1] ≤ t ∧ minI t ss[j + 1] ≤ ss[j + 1] ∧ (minI t ss[j + 1] = t ∨ minI t ss[j + 1] = ss[j + 1]) := by unfold minI; split <;> omega
      refine integ_to pj (by omega) fun e he z => ?_
      obtain ⟨k, hk, ek⟩ := List.mem_iff_getElem.mp (ev e he)
      rcases Nat.lt_or_ge j k with l | l
      · have := pair_le hs a2 hk (by omega); omega
      · have := pair_le hs hk a1 l; omega
    · rw [if_neg hl]
      have m0 : minI t ss[j] = t := if_neg hl
      have m1 : minI t ss[j + 1] = t := if_neg (by omega)
      rw [m0, m1]; omega
  rw [h1, tele (fun j => integ rs ps (minI t (ss.getD j 0)))]
  have l0 : 0 < ss.length := by omega
  have e1 : minI t (ss.getD (ss.length - 1) 0) = t := by
    rw [g (by omega)]
    have := pair_le hs hk0 (show ss.length - 1 < ss.length by omega) (by omega)
    exact if_neg (by omega)
  have e0 : minI t (ss.getD 0 0) = ss[0] := by
    rw [g l0]
    have := pair_le hs l0 hk0 (by omega)
    unfold minI; split <;> omega
  have z : integ rs ps ss[0] = 0 := integ_zero fun e he => by
    obtain ⟨k, hk, ek⟩ := List.mem_iff_getElem.mp (ev e he)
    have := pair_le hs l0 hk (by omega)
    omega
  show integ rs ps (minI t (ss.getD (ss.length - 1) 0)) - integ rs ps (minI t (ss.getD 0 0)) = _
  rw [e1, e0, z]; omega
/-! ### what is left of a part -/
def posS (rs : List Pt) : Int := ((rs.filter fun r => decide (r.n > 0)).map Pt.n).sum
def negS (rs : List Pt) (day : Int) : Int := ((rs.filter fun r => decide (r.n < 0) && decide (r.d ≤ day)).map Pt.n).sum
def leftP (rs : List Pt) (ps : List Pay) (i : Nat) (day : Int) : Int := max0 (minI (rs.getD i default).n (posS (rs.take (i + 1)) - (paidBy ps day - negS rs day)))
/-- the law's walk: the credit, what is left -/
def lstep (s : Int × Int) (r : Pt) : Int × Int := if r.n > 0 then (s.1 - minI s.1 r.n, r.n - minI s.1 r.n) else s
theorem posS_snoc (l : List Pt) (r : Pt) : posS (l ++ [r]) = posS l + if r.n > 0 then r.n else 0 := by
  unfold posS
  rw [List.filter_append, List.map_append, List.sum_append]
  by_cases h : r.n > 0
  · simp [h]
  · simp [h]
theorem posS_nn : ∀ l : List Pt, 0 ≤ posS l
  | [] => Int.le_refl _
  | r :: l => by
    have ih := posS_nn l
    unfold posS at ih ⊢
    by_cases h : r.n > 0
    · rw [List.filter_cons_of_pos (by simpa using h), List.map_cons, List.sum_cons]; omega
    · rw [List.filter_cons_of_neg (by simpa using h)]; exact ih
theorem lfold {C : Int} (hC : 0 ≤ C) (z : Int) (l : List Pt) : (l.reverse.foldl lstep (C, z)).1 = max0 (C - posS l.reverse) := by
  induction l with
  | nil => unfold max0 posS; simp; omega
  | cons r l ih =>
    rw [List.reverse_cons, List.foldl_append, posS_snoc]
    show (lstep _ r).1 = _
    have p := posS_nn l.reverse
    generalize l.reverse.foldl lstep (C, z) = s at ih
    unfold lstep minI max0 at *
    by_cases h : r.n > 0
    · rw [if_pos h, if_pos h]
      dsimp only
      rw [ih]
      split <;> split <;> (try split) <;> omega
    · rw [if_neg h, if_neg h, ih]
      simp
theorem neg_sum : ∀ l : List Pt, (l.map fun r => 0 - r.n).sum = - (l.map Pt.n).sum
  | [] => rfl
  | r :: l => by
    have ih := neg_sum l
    simp only [List.map_cons, List.sum_cons] at ih ⊢
    omega
theorem left_law {rs : List Pt} {ps : List Pay} {i : Nat} {day : Int} (hi : i < rs.length) (pos : (rs.getD i default).n > 0) :
    ((rs.take (i + 1)).foldl lstep (max0 (paidBy ps day + ((rs.filter fun r => decide (r.n < 0) && decide (r.d ≤ day)).map fun r => 0 - r.n).sum), 0)).2 = leftP rs ps i day := by
  have g : rs.getD i default = rs[i] := by rw [List.getD_eq_getElem?_getD, List.getElem?_eq_getElem hi]; rfl
  have e : (rs.take (i + 1)) = rs.take i ++ [rs[i]] := List.take_succ_eq_append_getElem hi
  unfold leftP
  rw [neg_sum, e, List.foldl_append, posS_snoc, g]
  rw [g] at pos
  show (lstep _ rs[i]).2 = _
  have nn : ∀ x : Int, 0 ≤ max0 x := fun x => by unfold max0; split <;> omega
  have cr := lfold (nn (paidBy ps day + -((rs.filter fun r => decide (r.n < 0) && decide (r.d ≤ day)).map Pt.n).sum)) 0 (rs.take i).reverse
  rw [List.reverse_reverse] at cr
  have p := posS_nn (rs.take i)
  generalize (rs.take i).foldl lstep _ = s at cr
  unfold negS
  generalize ((rs.filter fun r => decide (r.n < 0) && decide (r.d ≤ day)).map Pt.n).sum = ng at *
  generalize paidBy ps day = pd at *
  generalize posS (rs.take i) = sp at *
  unfold lstep minI max0 at *
  rw [if_pos pos, if_pos pos]
  dsimp only
  rw [cr]
  split <;> (try split) <;> (try split) <;> (try split) <;> (try split) <;> omega
theorem sum_sm {k m : Nat} : ∀ {l : List Int}, (∀ x ∈ l, Sm k x) → l.length ≤ 2 ^ m → Sm (k + m + 1) l.sum := by
  intro l hl hn
  have key : ∀ l : List Int, (∀ x ∈ l, Sm k x) → l.sum.natAbs ≤ l.length * 2 ^ k := fun l => by
    induction l with
    | nil => intro _; simp
    | cons x l ih =>
      intro h
      have h1 := h x List.mem_cons_self
      have h2 := ih fun y hy => h y (List.mem_cons_of_mem _ hy)
      unfold Sm at h1
      have h3 := Int.natAbs_add_le x l.sum
      rw [List.sum_cons, List.length_cons, Nat.succ_mul]
      omega
  have h := key l hl
  have h2 : l.length * 2 ^ k ≤ 2 ^ m * 2 ^ k := Nat.mul_le_mul_right _ hn
  have e : 2 ^ (k + m + 1) = 2 * (2 ^ m * 2 ^ k) := by rw [Nat.pow_succ, Nat.pow_add, Nat.mul_comm (2 ^ k), Nat.mul_comm _ 2]
  have p : 0 < 2 ^ m * 2 ^ k := Nat.mul_pos (Nat.two_pow_pos m) (Nat.two_pow_pos k)
  unfold Sm
  omega
/-! ### bounds -/
structure Wc (cs : List Ch) : Prop where
  len : cs.length ≤ 4
  each : ∀ c ∈ cs, 0 < c.ds.length ∧ c.ds.length ≤ 12 ∧ Sm 40 c.pn ∧ ∀ d ∈ c.ds, 0 ≤ d ∧ d < 2 ^ 59
structure Wp (ps : List Pay) : Prop where
  len : ps.length ≤ 8
  each : ∀ p ∈ ps, Sm 40 p.p ∧ 0 ≤ p.w ∧ p.w < 2 ^ 60
structure Wr (rs : List Pt) : Prop where
  len : rs.length ≤ 48
  each : ∀ r ∈ rs, Sm 52 r.n ∧ 0 ≤ r.d ∧ r.d < 2 ^ 60
theorem cut1_sm {pn : Int} {n i : Nat} (h : Sm 40 pn) (hn : 0 < n) (hi : i < 12) : Sm 52 (cut1 pn n i) := by
  unfold cut1
  have a1 : Sm 10 ((i : Int) + 1) := by unfold Sm; omega
  have a2 : Sm 10 (i : Int) := by unfold Sm; omega
  have b1 := ((h.mul a1).ediv (j := (n : Int)) (by omega)).sub ((h.mul a2).ediv (j := (n : Int)) (by omega))
  exact b1.up (by decide)
theorem Wc.rows {cs : List Ch} (h : Wc cs) : Wr (allP cs) := by
  have key : ∀ cs : List Ch, (∀ c ∈ cs, 0 < c.ds.length ∧ c.ds.length ≤ 12 ∧ Sm 40 c.pn ∧ ∀ d ∈ c.ds, 0 ≤ d ∧ d < 2 ^ 59) → (allP cs).length ≤ 12 * cs.length ∧ ∀ r ∈ allP cs, Sm 52 r.n ∧ 0 ≤ r.d ∧ r.d < 2 ^ 60 := fun cs => by
    induction cs with
    | nil => intro _; exact ⟨Nat.le_refl _, fun r hr => by cases hr⟩
    | cons c cs ih =>
      intro h
      obtain ⟨i1, i2⟩ := ih fun c hc => h c (List.mem_cons_of_mem _ hc)
      obtain ⟨h0, h1, h2, h3⟩ := h c List.mem_cons_self
      have e : allP (c :: cs) = partsOf c.y c.pn c.ds ++ allP cs := rfl
      have l : (partsOf c.y c.pn c.ds).length = c.ds.length := by unfold partsOf; rw [List.length_map, List.length_range]
      refine ⟨by rw [e, List.length_append, List.length_cons, l]; omega, fun r hr => ?_⟩
      rw [e] at hr
      rcases List.mem_append.mp hr with m | m
      · obtain ⟨i, hi, rfl⟩ := List.mem_map.mp m
        have hi := List.mem_range.mp hi
        refine ⟨cut1_sm h2 h0 (by omega), ?_⟩
        show 0 ≤ c.ds.getD i 0 ∧ c.ds.getD i 0 < 2 ^ 60
        have : c.ds.getD i 0 = c.ds[i] := by rw [List.getD_eq_getElem?_getD, List.getElem?_eq_getElem hi]; rfl
        rw [this]
        have h4 := h3 _ (List.getElem_mem hi)
        exact ⟨h4.1, by omega⟩
      · exact i2 r m
  obtain ⟨h1, h2⟩ := key cs h.each
  exact ⟨by have := h.len; omega, h2⟩
theorem Wc.sorted {cs : List Ch} (h : Wc cs) : Wr (srtP (allP cs)) := by
  have w := h.rows
  have p := srtP_perm (allP cs)
  exact ⟨by rw [p.length_eq]; exact w.len, fun r hr => w.each r (p.mem_iff.mp hr)⟩
theorem Wr.due {rs : List Pt} (h : Wr rs) (d : Int) : Sm 60 (dueBy rs d) := by
  refine (sum_sm (k := 52) (m := 6) (fun x hx => ?_) ?_).up (by decide)
  · obtain ⟨r, hr, rfl⟩ := List.mem_map.mp hx
    exact (h.each r (List.mem_filter.mp hr).1).1
  · rw [List.length_map]
    have := List.length_filter_le (fun r : Pt => decide (r.d ≤ d)) rs
    have := h.len
    omega
theorem Wp.paid {ps : List Pay} (h : Wp ps) (d : Int) : Sm 50 (paidBy ps d) := by
  refine (sum_sm (k := 40) (m := 4) (fun x hx => ?_) ?_).up (by decide)
  · obtain ⟨r, hr, rfl⟩ := List.mem_map.mp hx
    exact (h.each r (List.mem_filter.mp hr).1).1
  · rw [List.length_map]
    have := List.length_filter_le (fun r : Pay => decide (r.w ≤ d)) ps
    have := h.len
    omega
theorem max0_sm {k : Nat} {x : Int} (h : Sm k x) : Sm k (max0 x) := by
  unfold max0
  split
  · exact h
  · exact .lit (decide_eq_true (Nat.two_pow_pos k))
theorem open_sm {rs : List Pt} {ps : List Pay} (h : Wr rs) (h' : Wp ps) (d : Int) : Sm 61 (openF rs ps d) := max0_sm ((h.due d).sub ((h'.paid d).up (by decide)))
theorem integ_sm {rs : List Pt} {ps : List Pay} (h : Wr rs) (h' : Wp ps) {t : Int} (ht : t < 2 ^ 62) : Sm 130 (integ rs ps t) := by
  refine (sum_sm (k := 61) (m := 62) (fun x hx => ?_) ?_).up (by decide)
  · obtain ⟨r, hr, rfl⟩ := List.mem_map.mp hx
    exact open_sm h h' _
  · rw [List.length_map, List.length_range]
    omega
theorem left_sm {rs : List Pt} {ps : List Pay} (h : Wr rs) {i : Nat} (hi : i < rs.length) (day : Int) : Sm 52 (leftP rs ps i day) := by
  have g : rs.getD i default = rs[i] := by rw [List.getD_eq_getElem?_getD, List.getElem?_eq_getElem hi]; rfl
  have b := sm_bnd (h.each _ (List.getElem_mem hi)).1
  unfold leftP
  rw [g]
  refine sm_abs 52 ?_
  unfold max0 minI
  split <;> (try split) <;> omega
theorem ev_day {rs : List Pt} {ps : List Pay} (h : Wr rs) (h' : Wp ps) {e : Int} (he : Ev rs ps e) : 0 ≤ e ∧ e < 2 ^ 60 := by
  rcases he with ⟨r, hr, rfl⟩ | ⟨r, hr, rfl⟩
  · exact (h.each r hr).2
  · exact (h'.each r hr).2
/-! ### the account -/
abbrev Bk := List (List Key × D)
structure Tm where
  r0 : Int
  r1 : Int
  g : Int
  e0 : Int
  e1 : Int
structure Wt (t : Tm) : Prop where
  r0 : Sm 20 t.r0
  r1 : Sm 20 t.r1
  e0 : Sm 20 t.e0
  e1 : Sm 20 t.e1
  pr : 0 < t.r1
  pe : 0 < t.e1
  g0 : 0 ≤ t.g
  g1 : t.g < 2 ^ 60
def tmD (t : Tm) : D := .tup [.tup [.int t.r0, .int t.r1], .int t.g, .tup [.int t.e0, .int t.e1]]
def rowUp (rs : List Pt) (ps : List Pay) (t : Tm) (today : Int) (acc : Bk) (i : Nat) : Bk :=
  if (rs.getD i default).n > 0 ∧ (rs.getD i default).d + t.g < today then dput (dput acc (kk "charge" (rs.getD i default).y (rs.getD i default).a) (.int (rs.getD i default).n)) (kk "surcharge" (rs.getD i default).y (rs.getD i default).a) (.int (t.e0 * leftP rs ps i ((rs.getD i default).d + t.g) / t.e1))
  else dput acc (kk "charge" (rs.getD i default).y (rs.getD i default).a) (.int (rs.getD i default).n)
def payUp (acc : Bk) (p : Pay) : Bk := dput acc (kk "payment" p.n 0) (.int (-p.p))
def acctR (rs : List Pt) (ps : List Pay) (t : Tm) (today : Int) : Bk := ps.foldl payUp (dput ((List.range rs.length).foldl (rowUp rs ps t today) []) (kk "interest" 0 0) (.int (t.r0 * integ rs ps today / t.r1)))
noncomputable def acct (cs : List Ch) (ps : List Pay) (t : Tm) (today : Int) : Bk := acctR (srtP (allP cs)) ps t today
/-- a book of at most n entries, all ints -/
structure BkN (n : Nat) (l : Bk) : Prop where
  nd : (l.map (·.1)).Nodup
  sz : l.length ≤ n
  it : ∀ q ∈ l, ∃ i, q.2 = D.int i
theorem BkN.put {n : Nat} {l : Bk} (h : BkN n l) (k : List Key) (i : Int) : BkN (n + 1) (dput l k (.int i)) :=
  ⟨dput_nd h.nd, Nat.le_trans dput_len (Nat.succ_le_succ h.sz), dput_all (P := fun d => ∃ i, d = D.int i) ⟨i, rfl⟩ h.it⟩
theorem BkN.up {n m : Nat} {l : Bk} (h : BkN n l) (e : n ≤ m) : BkN m l := ⟨h.nd, Nat.le_trans h.sz e, h.it⟩
theorem BkN.nil : BkN 0 [] := ⟨List.nodup_nil, Nat.le_refl _, fun _ h => (List.not_mem_nil h).elim⟩
theorem rows_bk (rs : List Pt) (ps : List Pay) (t : Tm) (today : Int) : ∀ i, BkN (2 * i) ((List.range i).foldl (rowUp rs ps t today) [])
  | 0 => BkN.nil
  | i + 1 => by
    rw [List.range_succ, List.foldl_append]
    have ih := rows_bk rs ps t today i
    show BkN _ (rowUp rs ps t today _ i)
    unfold rowUp
    split
    · exact ((ih.put _ _).put _ _).up (by omega)
    · exact (ih.put _ _).up (by omega)
theorem pays_bk : ∀ {ps : List Pay} {n : Nat} {l : Bk}, BkN n l → BkN (n + ps.length) (ps.foldl payUp l)
  | [], _, _, h => h
  | p :: ps, n, l, h => by
    have := pays_bk (ps := ps) (h.put (kk "payment" p.n 0) (-p.p))
    rw [List.length_cons]
    exact this.up (by omega)
theorem acct_bk {cs : List Ch} {ps : List Pay} (h : Wc cs) (h' : Wp ps) (t : Tm) (today : Int) : BkN 200 (acct cs ps t today) := by
  have w := h.sorted
  have := pays_bk (ps := ps) ((rows_bk (srtP (allP cs)) ps t today (srtP (allP cs)).length).put (kk "interest" 0 0) (t.r0 * integ (srtP (allP cs)) ps today / t.r1))
  refine this.up ?_
  have := w.len
  have := h'.len
  omega
/-! ### what each def promises -/
abbrev w_amount (K : Fg) : D → D → W0 := fun a b M Q E => ∃ n d : Int, a = .int n ∧ b = .int d ∧ Sm 4000 n ∧ Sm 4000 d ∧ d ≠ 0 ∧ Q (Am (low n d).1 (low n d).2) M
abbrev w_times (K : Fg) : D → D → W0 := fun a b M Q E => ∃ n d m e : Int, a = Am n d ∧ b = Am m e ∧ Sm 1000 n ∧ Sm 1000 d ∧ Sm 1000 m ∧ Sm 1000 e ∧ 0 < d ∧ 0 < e ∧ Q (Am (low (n * m) (d * e)).1 (low (n * m) (d * e)).2) M
abbrev w_floor_of (K : Fg) : D → W0 := fun a M Q E => ∃ n d : Int, a = Am n d ∧ 0 < d ∧ Sm 8000 d ∧ Q (.int (n / d)) M
abbrev w_parts_of_charge (K : Fg) : D → D → D → W0 := fun a b c M Q E => ∃ (y pn : Int) (ds : List Int), a = .int y ∧ b = .int pn ∧ c = .lst (ds.map D.int) ∧ Sm 100 pn ∧ 0 < ds.length ∧ ds.length ≤ 1000 ∧ Q (.lst ((partsOf y pn ds).map ptD)) M
abbrev w_paid_by (K : Fg) : D → D → W0 := fun a b M Q E => ∃ (ps : List Pay) (d : Int), a = .lst (ps.map payD) ∧ b = .int d ∧ ps.length ≤ 1000 ∧ Q (.int (paidBy ps d)) M
abbrev w_due_by (K : Fg) : D → D → W0 := fun a b M Q E => ∃ (rs : List Pt) (d : Int), a = .lst (rs.map ptD) ∧ b = .int d ∧ rs.length ≤ 1000 ∧ Q (.int (dueBy rs d)) M
abbrev w_overdue_days (K : Fg) : D → D → D → W0 := fun a b c M Q E => ∃ (rs : List Pt) (ps : List Pay) (t : Int), a = .lst (rs.map ptD) ∧ b = .lst (ps.map payD) ∧ c = .int t ∧ Wr rs ∧ Wp ps ∧ 0 ≤ t ∧ t < 2 ^ 62 ∧ ∀ M', Keeps M M' → Q (.int (integ rs ps t)) M'
abbrev w_left_of (K : Fg) : D → D → D → D → W0 := fun a b c d M Q E => ∃ (rs : List Pt) (ps : List Pay) (i : Nat) (day : Int), a = .lst (rs.map ptD) ∧ b = .lst (ps.map payD) ∧ c = .int (0 + (i : Int)) ∧ d = .int day ∧ i < rs.length ∧ rs.length ≤ 1000 ∧ ps.length ≤ 1000 ∧ Q (.int (leftP rs ps i day)) M
abbrev w_plain_account (K : Fg) : D → D → D → D → W0 := fun a b c d M Q E => ∃ (cs : List Ch) (ps : List Pay) (tm : Tm) (t : Int), a = .lst (cs.map chD) ∧ b = .lst (ps.map payD) ∧ c = tmD tm ∧ d = .int t ∧ Wc cs ∧ Wp ps ∧ Wt tm ∧ 0 ≤ t ∧ t < 2 ^ 62 ∧ ∀ M' p, M p = none → M' p = some (.dt (acct cs ps tm t)) → Keeps M M' → Q (.obj p) M'
abbrev w_law_draws (K : Fg) : D → W0 := fun a M Q E => ∃ ns : List Int, a = .ro (ns.map D.int) ∧ ∀ p, M p = none → Q (.obj p) (Dl.st M p (drC ns 0 0 1))
abbrev w_law_draw (K : Fg) : D → D → W0 := fun a b M Q E => ∃ (p : Addr) (m : Int), a = .obj p ∧ b = .int m ∧ Dr M p ∧ 0 < m ∧ Sm 100 m ∧ ∀ M' r, AdvD M M' p → 0 ≤ r → r < m → Q (.int r) M'
abbrev w_law_same (K : Fg) (n : Nat) : D → D → W0 := fun a b M Q E => (a = b ∨ (∃ p ds, a = .obj p ∧ b = .lst ds ∧ M p = some (.lst ds)) ∨ ∃ p kv, a = .obj p ∧ b = .dt kv ∧ M p = some (.dt kv)) ∧ Pl n b ∧ Q (.bl true) M
theorem no_law_same {K : Fg} (a b : D) (M : Mem) (Q : D → Mem → Prop) (E : DX → Mem → Prop) (h : w_law_same K 0 a b M Q E) : False := h.2.1
abbrev w_law_copy (K : Fg) (n : Nat) : D → W0 := fun a M Q E => Pl n a ∧ Q a M
theorem no_law_copy {K : Fg} (a : D) (M : Mem) (Q : D → Mem → Prop) (E : DX → Mem → Prop) (h : w_law_copy K 0 a M Q E) : False := h.1
abbrev w_law_parts (K : Fg) : D → W0 := fun a M Q E => ∃ cs : List Ch, a = .lst (cs.map chD) ∧ Wc cs ∧ ∀ M', Keeps M M' → Q (.lst ((srtP (allP cs)).map ptD)) M'
abbrev w_law_open (K : Fg) : D → D → D → W0 := fun a b c M Q E => ∃ (rs : List Pt) (ps : List Pay) (d : Int), a = .lst (rs.map ptD) ∧ b = .lst (ps.map payD) ∧ c = .int d ∧ rs.length ≤ 1000 ∧ ps.length ≤ 1000 ∧ Q (.int (dueBy rs d - paidBy ps d)) M
abbrev w_law_counted (K : Fg) : D → D → D → W0 := fun a b c M Q E => ∃ (rs : List Pt) (ps : List Pay) (t : Int), a = .lst (rs.map ptD) ∧ b = .lst (ps.map payD) ∧ c = .int t ∧ Wr rs ∧ Wp ps ∧ 0 ≤ t ∧ t < 2 ^ 62 ∧ Q (.int (integ rs ps t)) M
abbrev w_law_left (K : Fg) : D → D → D → D → W0 := fun a b c d M Q E => ∃ (rs : List Pt) (ps : List Pay) (i : Nat) (day : Int), a = .lst (rs.map ptD) ∧ b = .lst (ps.map payD) ∧ c = .int (0 + (i : Int)) ∧ d = .int day ∧ i < rs.length ∧ rs.length ≤ 1000 ∧ ps.length ≤ 1000 ∧ (rs.getD i default).n > 0 ∧ Q (.int (leftP rs ps i day)) M
abbrev w_law_due (K : Fg) : D → D → D → D → W0 := fun a b c d M Q E => ∃ (cs : List Ch) (ps : List Pay) (tm : Tm) (t : Int), a = .lst (cs.map chD) ∧ b = .lst (ps.map payD) ∧ c = tmD tm ∧ d = .int t ∧ Wc cs ∧ Wp ps ∧ Wt tm ∧ 0 ≤ t ∧ t < 2 ^ 62 ∧ ∀ M', Keeps M M' → Q (.dt (acct cs ps tm t)) M'
abbrev w_law_charges (K : Fg) : D → D → W0 := fun a b M Q E => ∃ (p : Addr) (s : Int), a = .obj p ∧ b = .int s ∧ Dr M p ∧ 0 ≤ s ∧ s ≤ 10 ^ 12 ∧ ∀ M' cs, AdvD M M' p → Wc cs → Q (.lst (cs.map chD)) M'
abbrev w_law_payments (K : Fg) : D → D → D → W0 := fun a b c M Q E => ∃ (p : Addr) (s : Int) (cs : List Ch), a = .obj p ∧ b = .int s ∧ c = .lst (cs.map chD) ∧ Wc cs ∧ Dr M p ∧ 0 ≤ s ∧ s ≤ 10 ^ 12 ∧ ∀ M' ps, AdvD M M' p → Wp ps → Q (.lst (ps.map payD)) M'
abbrev w_law_turned (K : Fg) : D → D → W0 := fun a b M Q E => ∃ (p : Addr) (ds : List D), a = .obj p ∧ b = .lst ds ∧ Dr M p ∧ ds.length ≤ 1000 ∧ ∀ M' out, AdvD M M' p → out.length = ds.length → (∀ x ∈ out, x ∈ ds) → Q (.lst out) M'
abbrev w_law (K : Fg) : D → W0 := fun a M Q E => ∃ ns : List Int, a = .ro (ns.map D.int) ∧ M = (fun _ => none) ∧ ∀ M', Q (.bl true) M'
abbrev sp_amount (K : Fg) : DSp := sp2 (w_amount K)
abbrev sp_times (K : Fg) : DSp := sp2 (w_times K)
abbrev sp_floor_of (K : Fg) : DSp := sp1 (w_floor_of K)
abbrev sp_parts_of_charge (K : Fg) : DSp := sp3 (w_parts_of_charge K)
abbrev sp_paid_by (K : Fg) : DSp := sp2 (w_paid_by K)
abbrev sp_due_by (K : Fg) : DSp := sp2 (w_due_by K)
abbrev sp_overdue_days (K : Fg) : DSp := sp3 (w_overdue_days K)
abbrev sp_left_of (K : Fg) : DSp := sp4 (w_left_of K)
abbrev sp_plain_account (K : Fg) : DSp := sp4 (w_plain_account K)
abbrev sp_law_draws (K : Fg) : DSp := sp1 (w_law_draws K)
abbrev sp_law_draw (K : Fg) : DSp := sp2 (w_law_draw K)
abbrev sp_law_same (K : Fg) (n : Nat) : DSp := sp2 (w_law_same K n)
abbrev sp_law_copy (K : Fg) (n : Nat) : DSp := sp1 (w_law_copy K n)
abbrev sp_law_parts (K : Fg) : DSp := sp1 (w_law_parts K)
abbrev sp_law_open (K : Fg) : DSp := sp3 (w_law_open K)
abbrev sp_law_counted (K : Fg) : DSp := sp3 (w_law_counted K)
abbrev sp_law_left (K : Fg) : DSp := sp4 (w_law_left K)
abbrev sp_law_due (K : Fg) : DSp := sp4 (w_law_due K)
abbrev sp_law_charges (K : Fg) : DSp := sp2 (w_law_charges K)
abbrev sp_law_payments (K : Fg) : DSp := sp3 (w_law_payments K)
abbrev sp_law_turned (K : Fg) : DSp := sp2 (w_law_turned K)
abbrev sp_law (K : Fg) : DSp := sp1 (w_law K)
/-! ### amount -/
theorem sc_amount : FnScope ["n", "d", "common"] ["n", "d"] (defScope s_amount) := ⟨rfl, rfl, rfl, by decide +kernel, rfl, by decide +kernel, by decide +kernel⟩
def d_amount (K : Fg) : DW → DS := fun pw => (dSeq (dIfS (dTr (dBin f_eq (dVar 1) (dC (.int 0)))) dNoS dNext) (dSeq (dIfS (dTr (dBin f_lt (dVar 1) (dC (.int 0)))) (dPar 0 1 (daCons (dUn f_neg (dVar 0)) (daCons (dUn f_neg (dVar 1)) daNil))) dNext) (dSeq (dSet 2 (dCB f_gcd (daCons (dVar 0) (daCons (dVar 1) daNil)))) (dRet (dTup (daCons (dBin f_fdiv (dVar 0) (dVar 2)) (daCons (dBin f_fdiv (dVar 1) (dVar 2)) daNil)))))))
theorem der_amount {P : Program} {w : World} {K : Fg} {mg : Str → Option Value} {base : Heap} (T : Tx w K mg)  : Der P w K mg base ["n", "d", "common"] "amount" s_amount 0 (d_amount K) := fun f cdv A outer s H E F pw hr tk hp =>
  have hu := hr.units; have nd := sc_amount.nd
  (pds_cons (pds_if (pt_eq hu (pd_var 1) pd_int) pds_no pds_nil) (pds_cons (pds_if (pt_lt (pd_var 1) pd_int) (pds_one (pds_par 0 1 rfl nd (pd_cons (pd_neg (pd_var 0)) (pd_cons (pd_neg (pd_var 1)) pd_nil)))) pds_nil) (pds_cons (pds_set 2 nd (pd_gcd T.gcd (pd_cons (pd_var 0) (pd_cons (pd_var 1) pd_nil)))) (pds_one (pds_ret (pd_tup (pd_cons (pd_fdiv (pd_var 0) (pd_var 2)) (pd_cons (pd_fdiv (pd_var 1) (pd_var 2)) pd_nil))))))))
/-! ### times -/
theorem sc_times : FnScope ["a", "b"] ["a", "b"] (defScope s_times) := ⟨rfl, rfl, rfl, by decide +kernel, rfl, by decide +kernel, by decide +kernel⟩
def d_times (K : Fg) : DW → DS := fun pw => (dRet (dCall (sp_amount K) pw (daCons (dBin f_mul (dBin f_ix (dVar 0) (dC (.int 0))) (dBin f_ix (dVar 1) (dC (.int 0)))) (daCons (dBin f_mul (dBin f_ix (dVar 0) (dC (.int 1))) (dBin f_ix (dVar 1) (dC (.int 1)))) daNil))))
theorem der_times {P : Program} {w : World} {K : Fg} {mg : Str → Option Value} {base : Heap} (T : Tx w K mg) (c_amount : Cal P w K mg base 1 "amount" (sp_amount K)) : Der P w K mg base ["a", "b"] "times" s_times 1 (d_times K) := fun f cdv A outer s H E F pw hr tk hp =>
  have hu := hr.units; have nd := sc_times.nd
  (pds_one (pds_ret (pd_call c_amount (hr.mono (by decide)) tk (pd_cons (pd_mul (pd_ix hu (pd_var 0) pd_int) (pd_ix hu (pd_var 1) pd_int)) (pd_cons (pd_mul (pd_ix hu (pd_var 0) pd_int) (pd_ix hu (pd_var 1) pd_int)) pd_nil)))))
/-! ### floor_of -/
theorem sc_floor_of : FnScope ["a"] ["a"] (defScope s_floor_of) := ⟨rfl, rfl, rfl, by decide +kernel, rfl, by decide +kernel, by decide +kernel⟩
def d_floor_of (K : Fg) : DW → DS := fun pw => (dRet (dBin f_fdiv (dBin f_ix (dVar 0) (dC (.int 0))) (dBin f_ix (dVar 0) (dC (.int 1)))))
theorem der_floor_of {P : Program} {w : World} {K : Fg} {mg : Str → Option Value} {base : Heap} (T : Tx w K mg)  : Der P w K mg base ["a"] "floor_of" s_floor_of 0 (d_floor_of K) := fun f cdv A outer s H E F pw hr tk hp =>
  have hu := hr.units; have nd := sc_floor_of.nd
  (pds_one (pds_ret (pd_fdiv (pd_ix hu (pd_var 0) pd_int) (pd_ix hu (pd_var 0) pd_int))))
/-! ### parts_of_charge -/
theorem sc_parts_of_charge : FnScope ["year", "pennies", "days", "count", "found", "at"] ["year", "pennies", "days"] (defScope s_parts_of_charge) := ⟨rfl, rfl, rfl, by decide +kernel, rfl, by decide +kernel, by decide +kernel⟩
def d_parts_of_charge (K : Fg) : DW → DS := fun pw => (dSeq (dSet 3 (dCB f_len (daCons (dVar 2) daNil))) (dSeq (dSet 4 (dLstC daNil)) (dSeq (dFor (diRng1 (daCons (dVar 3) daNil)) (dgName 5) (dDrop (dMt "list" f_append (dVar 4) (daCons (dTup (daCons (dBin f_ix (dVar 2) (dVar 5)) (daCons (dVar 0) (daCons (dVar 5) (daCons (dBin f_sub (dBin f_fdiv (dBin f_mul (dVar 1) (dBin f_add (dVar 5) (dC (.int 1)))) (dVar 3)) (dBin f_fdiv (dBin f_mul (dVar 1) (dVar 5)) (dVar 3))) daNil))))) daNil)))) (dRet (dFrz (dVar 4))))))
theorem der_parts_of_charge {P : Program} {w : World} {K : Fg} {mg : Str → Option Value} {base : Heap} (T : Tx w K mg)  : Der P w K mg base ["year", "pennies", "days", "count", "found", "at"] "parts_of_charge" s_parts_of_charge 0 (d_parts_of_charge K) := fun f cdv A outer s H E F pw hr tk hp =>
  have hu := hr.units; have nd := sc_parts_of_charge.nd
  (pds_cons (pds_set 3 nd (pd_len T.b_len (pd_cons (pd_var 2) pd_nil))) (pds_cons (pds_set 4 nd (pd_lstC pd_nil)) (pds_cons (pds_for hp rfl (pdi_range1 T.b_range (pd_cons (pd_var 3) pd_nil)) (pdg_name 5 nd) (pds_one (pds_expr (pd_append (pd_var 4) ((pd_cons (pd_tup (pd_cons (pd_ix hu (pd_var 2) (pd_var 5)) (pd_cons (pd_var 0) (pd_cons (pd_var 5) (pd_cons (pd_sub (pd_fdiv (pd_mul (pd_var 1) (pd_add (pd_var 5) pd_int)) (pd_var 3)) (pd_fdiv (pd_mul (pd_var 1) (pd_var 5)) (pd_var 3))) pd_nil))))) pd_nil)))))) (pds_one (pds_ret (pd_frz (pd_var 4)))))))
/-! ### paid_by -/
theorem sc_paid_by : FnScope ["payments", "day", "number", "when", "pennies"] ["payments", "day"] (defScope s_paid_by) := ⟨rfl, rfl, rfl, by decide +kernel, rfl, by decide +kernel, by decide +kernel⟩
def d_paid_by (K : Fg) : DW → DS := fun pw => (dRet (dCB f_sum (daCons (dLc false (diList (dVar 0)) (dgTup 3 (dgCons (dgName 2) (dgCons (dgName 3) (dgCons (dgName 4) dgNil)))) (dTr (dBin f_le (dVar 3) (dVar 1))) (dVar 4) [2, 3, 4]) daNil)))
theorem der_paid_by {P : Program} {w : World} {K : Fg} {mg : Str → Option Value} {base : Heap} (T : Tx w K mg)  : Der P w K mg base ["payments", "day", "number", "when", "pennies"] "paid_by" s_paid_by 0 (d_paid_by K) := fun f cdv A outer s H E F pw hr tk hp =>
  have hu := hr.units; have nd := sc_paid_by.nd
  (pds_one (pds_ret (pd_sum rfl T.b_sum (pd_cons (pd_lc (own := [("number", 2), ("when", 3), ("pennies", 4)]) rfl nd (pdi_list (pd_var 0)) (blkOk_by (N := ["payments", "day", "number", "when", "pennies"]) (sc := defScope s_paid_by) (own := [("number", 2), ("when", 3), ("pennies", 4)]) (by decide +kernel)) (fun _ _ _ _ _ F1 l1 => (pdgv_tup rfl (pdgsv_cons (pdgv_name 2 nd) (pdgsv_cons (pdgv_name 3 nd) (pdgsv_cons (pdgv_name 4 nd) pdgsv_nil))))) (fun _ _ _ _ _ F1 l1 => (pdts_one (pt_le (pd_var 3) (pd_var 1)))) (fun _ _ _ _ _ F1 l1 => (pd_var 4)) false) pd_nil))))
/-! ### due_by -/
theorem sc_due_by : FnScope ["parts", "day", "part"] ["parts", "day"] (defScope s_due_by) := ⟨rfl, rfl, rfl, by decide +kernel, rfl, by decide +kernel, by decide +kernel⟩
def d_due_by (K : Fg) : DW → DS := fun pw => (dRet (dCB f_sum (daCons (dLc false (diList (dVar 0)) (dgName 2) (dTr (dBin f_le (dBin f_ix (dVar 2) (dC (.int 0))) (dVar 1))) (dBin f_ix (dVar 2) (dC (.int 3))) [2]) daNil)))
theorem der_due_by {P : Program} {w : World} {K : Fg} {mg : Str → Option Value} {base : Heap} (T : Tx w K mg)  : Der P w K mg base ["parts", "day", "part"] "due_by" s_due_by 0 (d_due_by K) := fun f cdv A outer s H E F pw hr tk hp =>
  have hu := hr.units; have nd := sc_due_by.nd
  (pds_one (pds_ret (pd_sum rfl T.b_sum (pd_cons (pd_lc (own := [("part", 2)]) rfl nd (pdi_list (pd_var 0)) (blkOk_by (N := ["parts", "day", "part"]) (sc := defScope s_due_by) (own := [("part", 2)]) (by decide +kernel)) (fun _ _ _ _ _ F1 l1 => (pdgv_name 2 nd)) (fun _ _ _ _ _ F1 l1 => (pdts_one (pt_le (pd_ix hu (pd_var 2) pd_int) (pd_var 1)))) (fun _ _ _ _ _ F1 l1 => (pd_ix hu (pd_var 2) pd_int)) false) pd_nil))))
/-! ### overdue_days -/
theorem sc_overdue_days : FnScope ["parts", "payments", "today", "days", "total", "at", "end", "open_now", "day", "part", "number", "when", "pennies"] ["parts", "payments", "today"] (defScope s_overdue_days) := ⟨rfl, rfl, rfl, by decide +kernel, rfl, by decide +kernel, by decide +kernel⟩
def d_overdue_days (K : Fg) : DW → DS := fun pw => (dSeq (dSet 3 (dCB f_sortDI (daCons (dBin f_bor (dDck (diList (dVar 0)) (dgName 9) dYes (dBin f_ix (dVar 9) (dC (.int 0))) (dC (.bl true)) [9]) (dDck (diList (dVar 1)) (dgTup 3 (dgCons (dgName 10) (dgCons (dgName 11) (dgCons (dgName 12) dgNil)))) dYes (dVar 11) (dC (.bl true)) [10, 11, 12])) daNil))) (dSeq (dSet 3 (dLc false (diList (dVar 3)) (dgName 8) (dTr (dBin f_lt (dVar 8) (dVar 2))) (dVar 8) [8])) (dSeq (dSet 4 (dC (.int 0))) (dSeq (dFor (diRng1 (daCons (dCB f_len (daCons (dVar 3) daNil)) daNil)) (dgName 5) (dSeq (dSet 6 (dIf (dTr (dBin f_lt (dBin f_add (dVar 5) (dC (.int 1))) (dCB f_len (daCons (dVar 3) daNil)))) (dBin f_ix (dVar 3) (dBin f_add (dVar 5) (dC (.int 1)))) (dVar 2))) (dSeq (dSet 7 (dBin f_sub (dCall (sp_due_by K) pw (daCons (dVar 0) (daCons (dBin f_ix (dVar 3) (dVar 5)) daNil))) (dCall (sp_paid_by K) pw (daCons (dVar 1) (daCons (dBin f_ix (dVar 3) (dVar 5)) daNil))))) (dIfS (dTr (dBin f_gt (dVar 7) (dC (.int 0)))) (dSet 4 (dBin f_add (dVar 4) (dBin f_mul (dVar 7) (dBin f_sub (dVar 6) (dBin f_ix (dVar 3) (dVar 5)))))) dNext)))) (dRet (dVar 4))))))
theorem der_overdue_days {P : Program} {w : World} {K : Fg} {mg : Str → Option Value} {base : Heap} (T : Tx w K mg) (c_due_by : Cal P w K mg base 1 "due_by" (sp_due_by K)) (c_paid_by : Cal P w K mg base 1 "paid_by" (sp_paid_by K)) : Der P w K mg base ["parts", "payments", "today", "days", "total", "at", "end", "open_now", "day", "part", "number", "when", "pennies"] "overdue_days" s_overdue_days 1 (d_overdue_days K) := fun f cdv A outer s H E F pw hr tk hp =>
  have hu := hr.units; have nd := sc_overdue_days.nd
  (pds_cons (pds_set 3 nd (pd_sortDI rfl T.b_sorted (pd_cons (pd_bor (pd_dck (own := [("part", 9)]) rfl nd (pdi_list (pd_var 0)) (blkOk_by (N := ["parts", "payments", "today", "days", "total", "at", "end", "open_now", "day", "part", "number", "when", "pennies"]) (sc := defScope s_overdue_days) (own := [("part", 9)]) (by decide +kernel)) (fun _ _ _ _ _ F1 l1 => (pdgv_name 9 nd)) (fun _ _ _ _ _ F1 l1 => pdts_nil) (fun _ _ _ _ _ F1 l1 => (pd_ix hu (pd_var 9) pd_int)) (fun _ _ _ _ _ F1 l1 => pd_bl)) (pd_dck (own := [("number", 10), ("when", 11), ("pennies", 12)]) rfl nd (pdi_list (pd_var 1)) (blkOk_by (N := ["parts", "payments", "today", "days", "total", "at", "end", "open_now", "day", "part", "number", "when", "pennies"]) (sc := defScope s_overdue_days) (own := [("number", 10), ("when", 11), ("pennies", 12)]) (by decide +kernel)) (fun _ _ _ _ _ F2 l2 => (pdgv_tup rfl (pdgsv_cons (pdgv_name 10 nd) (pdgsv_cons (pdgv_name 11 nd) (pdgsv_cons (pdgv_name 12 nd) pdgsv_nil))))) (fun _ _ _ _ _ F2 l2 => pdts_nil) (fun _ _ _ _ _ F2 l2 => (pd_var 11)) (fun _ _ _ _ _ F2 l2 => pd_bl))) pd_nil))) (pds_cons (pds_setlc (own := [("day", 8)]) rfl nd (pdi_list (pd_var 3)) (blkOk_by (N := ["parts", "payments", "today", "days", "total", "at", "end", "open_now", "day", "part", "number", "when", "pennies"]) (sc := defScope s_overdue_days) (own := [("day", 8)]) (by decide +kernel)) (fun _ _ _ _ _ F3 l3 => (pdgv_name 8 nd)) (fun _ _ _ _ _ F3 l3 => (pdts_one (pt_lt (pd_var 8) (pd_var 2)))) (fun _ _ _ _ _ F3 l3 => (pd_var 8)) false 3 rfl rfl (sw_true rfl rfl rfl (by decide +kernel))) (pds_cons (pds_set 4 nd pd_int) (pds_cons (pds_for hp rfl (pdi_range1 T.b_range (pd_cons (pd_len T.b_len (pd_cons (pd_var 3) pd_nil)) pd_nil)) (pdg_name 5 nd) (pds_cons (pds_set 6 nd (pd_if (pt_lt (pd_add (pd_var 5) pd_int) (pd_len T.b_len (pd_cons (pd_var 3) pd_nil))) (pd_ix hu (pd_var 3) (pd_add (pd_var 5) pd_int)) (pd_var 2))) (pds_cons (pds_set 7 nd (pd_sub (pd_call c_due_by (hr.mono (by decide)) tk (pd_cons (pd_var 0) (pd_cons (pd_ix hu (pd_var 3) (pd_var 5)) pd_nil))) (pd_call c_paid_by (hr.mono (by decide)) tk (pd_cons (pd_var 1) (pd_cons (pd_ix hu (pd_var 3) (pd_var 5)) pd_nil))))) (pds_one (pds_if (pt_gt (pd_var 7) pd_int) (pds_one (pds_set 4 nd (pd_add (pd_var 4) (pd_mul (pd_var 7) (pd_sub (pd_var 6) (pd_ix hu (pd_var 3) (pd_var 5))))))) pds_nil))))) (pds_one (pds_ret (pd_var 4)))))))
/-! ### left_of -/
theorem sc_left_of : FnScope ["parts", "payments", "at", "day", "claimed", "credit", "part"] ["parts", "payments", "at", "day"] (defScope s_left_of) := ⟨rfl, rfl, rfl, by decide +kernel, rfl, by decide +kernel, by decide +kernel⟩
def d_left_of (K : Fg) : DW → DS := fun pw => (dSeq (dSet 4 (dCB f_sum (daCons (dLc false (diList (dSl false (dVar 0) doNone (doSome (dBin f_add (dVar 2) (dC (.int 1)))))) (dgName 6) (dTr (dBin f_gt (dBin f_ix (dVar 6) (dC (.int 3))) (dC (.int 0)))) (dBin f_ix (dVar 6) (dC (.int 3))) [6]) daNil))) (dSeq (dSet 5 (dBin f_sub (dCall (sp_paid_by K) pw (daCons (dVar 1) (daCons (dVar 3) daNil))) (dCB f_sum (daCons (dLc false (diList (dVar 0)) (dgName 6) (tAndD (dTr (dBin f_lt (dBin f_ix (dVar 6) (dC (.int 3))) (dC (.int 0)))) (dTr (dBin f_le (dBin f_ix (dVar 6) (dC (.int 0))) (dVar 3)))) (dBin f_ix (dVar 6) (dC (.int 3))) [6]) daNil)))) (dRet (dCB f_max2 (daCons (dC (.int 0)) (daCons (dCB f_min2 (daCons (dBin f_ix (dBin f_ix (dVar 0) (dVar 2)) (dC (.int 3))) (daCons (dBin f_sub (dVar 4) (dVar 5)) daNil))) daNil))))))
theorem der_left_of {P : Program} {w : World} {K : Fg} {mg : Str → Option Value} {base : Heap} (T : Tx w K mg) (c_paid_by : Cal P w K mg base 1 "paid_by" (sp_paid_by K)) : Der P w K mg base ["parts", "payments", "at", "day", "claimed", "credit", "part"] "left_of" s_left_of 1 (d_left_of K) := fun f cdv A outer s H E F pw hr tk hp =>
  have hu := hr.units; have nd := sc_left_of.nd
  (pds_cons (pds_set 4 nd (pd_sum rfl T.b_sum (pd_cons (pd_lc (own := [("part", 6)]) rfl nd (pdi_list (pd_slice false (pd_var 0) pd_none (pd_some (pd_add (pd_var 2) pd_int)))) (blkOk_by (N := ["parts", "payments", "at", "day", "claimed", "credit", "part"]) (sc := defScope s_left_of) (own := [("part", 6)]) (by decide +kernel)) (fun _ _ _ _ _ F1 l1 => (pdgv_name 6 nd)) (fun _ _ _ _ _ F1 l1 => (pdts_one (pt_gt (pd_ix hu (pd_var 6) pd_int) pd_int))) (fun _ _ _ _ _ F1 l1 => (pd_ix hu (pd_var 6) pd_int)) false) pd_nil))) (pds_cons (pds_set 5 nd (pd_sub (pd_call c_paid_by (hr.mono (by decide)) tk (pd_cons (pd_var 1) (pd_cons (pd_var 3) pd_nil))) (pd_sum rfl T.b_sum (pd_cons (pd_lc (own := [("part", 6)]) rfl nd (pdi_list (pd_var 0)) (blkOk_by (N := ["parts", "payments", "at", "day", "claimed", "credit", "part"]) (sc := defScope s_left_of) (own := [("part", 6)]) (by decide +kernel)) (fun _ _ _ _ _ F2 l2 => (pdgv_name 6 nd)) (fun _ _ _ _ _ F2 l2 => (pdts_one (ptw (pw_andd (pt_lt (pd_ix hu (pd_var 6) pd_int) pd_int) (pw_and1d (pt_le (pd_ix hu (pd_var 6) pd_int) (pd_var 3))))))) (fun _ _ _ _ _ F2 l2 => (pd_ix hu (pd_var 6) pd_int)) false) pd_nil)))) (pds_one (pds_ret (pd_max2 rfl T.b_max (pd_cons pd_int (pd_cons (pd_min2 rfl T.b_min (pd_cons (pd_ix hu (pd_ix hu (pd_var 0) (pd_var 2)) pd_int) (pd_cons (pd_sub (pd_var 4) (pd_var 5)) pd_nil))) pd_nil)))))))
/-! ### plain_account -/
theorem sc_plain_account : FnScope ["charges", "payments", "terms", "today", "parts", "found", "at", "rate", "grace", "extra", "year", "pennies", "days", "number", "when", "day", "part", "left"] ["charges", "payments", "terms", "today"] (defScope s_plain_account) := ⟨rfl, rfl, rfl, by decide +kernel, rfl, by decide +kernel, by decide +kernel⟩
def d_plain_account (K : Fg) : DW → DS := fun pw => (dSeq (dAsg (dVar 2) (dgTup 3 (dgCons (dgName 7) (dgCons (dgName 8) (dgCons (dgName 9) dgNil))))) (dSeq (dSet 4 (dLstC daNil)) (dSeq (dFor (diList (dVar 0)) (dgTup 3 (dgCons (dgName 10) (dgCons (dgName 11) (dgCons (dgName 12) dgNil)))) (dDrop (dMt "list" f_extend (dVar 4) (daCons (dCall (sp_parts_of_charge K) pw (daCons (dVar 10) (daCons (dVar 11) (daCons (dVar 12) daNil)))) daNil)))) (dSeq (dSet 4 (dCB f_sortT (daCons (dVar 4) daNil))) (dSeq (dSet 5 dNewT) (dSeq (dFor (diRng1 (daCons (dCB f_len (daCons (dVar 4) daNil)) daNil)) (dgName 6) (dSeq (dAsg (dBin f_ix (dVar 4) (dVar 6)) (dgTup 4 (dgCons (dgName 15) (dgCons (dgName 10) (dgCons (dgName 16) (dgCons (dgName 11) dgNil)))))) (dSeq (dAsg (dVar 11) (dgSub (dVar 5) (dTup (daCons (dC (.str "charge")) (daCons (dVar 10) (daCons (dVar 16) daNil)))))) (dIfS (tAndD (dTr (dBin f_gt (dVar 11) (dC (.int 0)))) (dTr (dBin f_lt (dBin f_add (dVar 15) (dVar 8)) (dVar 3)))) (dSeq (dSet 17 (dCall (sp_left_of K) pw (daCons (dVar 4) (daCons (dVar 1) (daCons (dVar 6) (daCons (dBin f_add (dVar 15) (dVar 8)) daNil)))))) (dAsg (dCall (sp_floor_of K) pw (daCons (dCall (sp_times K) pw (daCons (dVar 9) (daCons (dTup (daCons (dVar 17) (daCons (dC (.int 1)) daNil))) daNil))) daNil)) (dgSub (dVar 5) (dTup (daCons (dC (.str "surcharge")) (daCons (dVar 10) (daCons (dVar 16) daNil))))))) dNext)))) (dSeq (dAsg (dCall (sp_floor_of K) pw (daCons (dCall (sp_times K) pw (daCons (dVar 7) (daCons (dTup (daCons (dCall (sp_overdue_days K) pw (daCons (dVar 4) (daCons (dVar 1) (daCons (dVar 3) daNil)))) (daCons (dC (.int 1)) daNil))) daNil))) daNil)) (dgSub (dVar 5) (dTup (daCons (dC (.str "interest")) (daCons (dC (.int 0)) (daCons (dC (.int 0)) daNil)))))) (dSeq (dFor (diList (dVar 1)) (dgTup 3 (dgCons (dgName 13) (dgCons (dgName 14) (dgCons (dgName 11) dgNil)))) (dAsg (dUn f_neg (dVar 11)) (dgSub (dVar 5) (dTup (daCons (dC (.str "payment")) (daCons (dVar 13) (daCons (dC (.int 0)) daNil))))))) (dRet (dVar 5))))))))))
theorem der_plain_account {P : Program} {w : World} {K : Fg} {mg : Str → Option Value} {base : Heap} (T : Tx w K mg) (c_parts_of_charge : Cal P w K mg base 1 "parts_of_charge" (sp_parts_of_charge K)) (c_left_of : Cal P w K mg base 2 "left_of" (sp_left_of K)) (c_floor_of : Cal P w K mg base 1 "floor_of" (sp_floor_of K)) (c_times : Cal P w K mg base 2 "times" (sp_times K)) (c_overdue_days : Cal P w K mg base 2 "overdue_days" (sp_overdue_days K)) : Der P w K mg base ["charges", "payments", "terms", "today", "parts", "found", "at", "rate", "grace", "extra", "year", "pennies", "days", "number", "when", "day", "part", "left"] "plain_account" s_plain_account 2 (d_plain_account K) := fun f cdv A outer s H E F pw hr tk hp =>
  have hu := hr.units; have nd := sc_plain_account.nd
  (pds_cons (pds_asg (pd_var 2) (pdg_tup rfl (pdgs_cons (pdg_name 7 nd) (pdgs_cons (pdg_name 8 nd) (pdgs_cons (pdg_name 9 nd) pdgs_nil))))) (pds_cons (pds_set 4 nd (pd_lstC pd_nil)) (pds_cons (pds_for hp rfl (pdi_list (pd_var 0)) (pdg_tup rfl (pdgs_cons (pdg_name 10 nd) (pdgs_cons (pdg_name 11 nd) (pdgs_cons (pdg_name 12 nd) pdgs_nil)))) (pds_one (pds_expr (pd_extend (pd_var 4) ((pd_cons (pd_call c_parts_of_charge (hr.mono (by decide)) tk (pd_cons (pd_var 10) (pd_cons (pd_var 11) (pd_cons (pd_var 12) pd_nil)))) pd_nil)))))) (pds_cons (pds_set 4 nd (pd_sortT rfl T.b_sorted (pd_cons (pd_var 4) pd_nil))) (pds_cons (pds_set 5 nd pd_newT) (pds_cons (pds_for hp rfl (pdi_range1 T.b_range (pd_cons (pd_len T.b_len (pd_cons (pd_var 4) pd_nil)) pd_nil)) (pdg_name 6 nd) (pds_cons (pds_asg (pd_ix hu (pd_var 4) (pd_var 6)) (pdg_tup rfl (pdgs_cons (pdg_name 15 nd) (pdgs_cons (pdg_name 10 nd) (pdgs_cons (pdg_name 16 nd) (pdgs_cons (pdg_name 11 nd) pdgs_nil)))))) (pds_cons (pds_setitem hu (pd_var 5) (pd_tup (pd_cons (Dl.pd_gstr T.k_CHARGE) (pd_cons (pd_var 10) (pd_cons (pd_var 16) pd_nil)))) (pd_var 11)) (pds_one (pds_if (ptw (pw_andd (pt_gt (pd_var 11) pd_int) (pw_and1d (pt_lt (pd_add (pd_var 15) (pd_var 8)) (pd_var 3))))) (pds_cons (pds_set 17 nd (pd_call c_left_of (hr.mono (by decide)) tk (pd_cons (pd_var 4) (pd_cons (pd_var 1) (pd_cons (pd_var 6) (pd_cons (pd_add (pd_var 15) (pd_var 8)) pd_nil)))))) (pds_one (pds_setitem hu (pd_var 5) (pd_tup (pd_cons (Dl.pd_gstr T.k_SURCHARGE) (pd_cons (pd_var 10) (pd_cons (pd_var 16) pd_nil)))) (pd_call c_floor_of (hr.mono (by decide)) tk (pd_cons (pd_call c_times (hr.mono (by decide)) tk (pd_cons (pd_var 9) (pd_cons (pd_tup (pd_cons (pd_var 17) (pd_cons pd_int pd_nil))) pd_nil))) pd_nil))))) pds_nil))))) (pds_cons (pds_setitem hu (pd_var 5) (pd_tup (pd_cons (Dl.pd_gstr T.k_INTEREST) (pd_cons pd_int (pd_cons pd_int pd_nil)))) (pd_call c_floor_of (hr.mono (by decide)) tk (pd_cons (pd_call c_times (hr.mono (by decide)) tk (pd_cons (pd_var 7) (pd_cons (pd_tup (pd_cons (pd_call c_overdue_days (hr.mono (by decide)) tk (pd_cons (pd_var 4) (pd_cons (pd_var 1) (pd_cons (pd_var 3) pd_nil)))) (pd_cons pd_int pd_nil))) pd_nil))) pd_nil))) (pds_cons (pds_for hp rfl (pdi_list (pd_var 1)) (pdg_tup rfl (pdgs_cons (pdg_name 13 nd) (pdgs_cons (pdg_name 14 nd) (pdgs_cons (pdg_name 11 nd) pdgs_nil)))) (pds_one (pds_setitem hu (pd_var 5) (pd_tup (pd_cons (Dl.pd_gstr T.k_PAYMENT) (pd_cons (pd_var 13) (pd_cons pd_int pd_nil)))) (pd_neg (pd_var 11))))) (pds_one (pds_ret (pd_var 5)))))))))))
/-! ### _law_draws -/
theorem sc_law_draws : FnScope ["script"] ["script"] (defScope s_law_draws) := ⟨rfl, rfl, rfl, by decide +kernel, rfl, by decide +kernel, by decide +kernel⟩
def d_law_draws (K : Fg) : DW → DS := fun pw => (dRet (dLstC (daCons (dCB (f_list false) (daCons (dVar 0) daNil)) (daCons (dC (.int 0)) (daCons (dC (.int 0)) (daCons (dC (.int 1)) daNil))))))
theorem der_law_draws {P : Program} {w : World} {K : Fg} {mg : Str → Option Value} {base : Heap} (T : Tx w K mg)  : Der P w K mg base ["script"] "_law_draws" s_law_draws 0 (d_law_draws K) := fun f cdv A outer s H E F pw hr tk hp =>
  have hu := hr.units; have nd := sc_law_draws.nd
  (pds_one (pds_ret (pd_lstC (pd_cons (pd_listc false T.b_list (pd_cons (pd_var 0) pd_nil)) (pd_cons pd_int (pd_cons pd_int (pd_cons pd_int pd_nil)))))))
/-! ### _law_draw -/
theorem sc_law_draw : FnScope ["draws", "limit", "cell", "value"] ["draws", "limit"] (defScope s_law_draw) := ⟨rfl, rfl, rfl, by decide +kernel, rfl, by decide +kernel, by decide +kernel⟩
def d_law_draw (K : Fg) : DW → DS := fun pw => (dSeq (dIfS (tAndD (dTr (dBin f_eq (dBin f_ix (dVar 0) (dC (.int 2))) (dC (.int 0)))) (dTr (dBin f_lt (dBin f_ix (dVar 0) (dC (.int 1))) (dCB f_len (daCons (dBin f_ix (dVar 0) (dC (.int 0))) daNil))))) (dSeq (dSet 2 (dBin f_ix (dBin f_ix (dVar 0) (dC (.int 0))) (dBin f_ix (dVar 0) (dC (.int 1))))) (dSeq (dAsg (dBin f_add (dBin f_ix (dVar 0) (dC (.int 1))) (dC (.int 1))) (dgSub (dVar 0) (dC (.int 1)))) (dSeq (dIfS (dTr (dBin f_ge (dVar 2) (dBin f_pow (dC (.int 10)) (dC (.int 18))))) (dAsg (dVar 2) (dgSub (dVar 0) (dC (.int 2)))) dNext) (dAsg (dBin f_mod (dCB f_int (daCons (dBin f_add (dBin f_add (dBin f_mul (dBin f_ix (dVar 0) (dC (.int 3))) (dC (.int 48271))) (dVar 2)) (dC (.int 13))) daNil)) (dC (.int 2147483647))) (dgSub (dVar 0) (dC (.int 3))))))) dNext) (dSeq (dIfS (dTr (dBin f_gt (dBin f_ix (dVar 0) (dC (.int 2))) (dC (.int 0)))) (dSeq (dSet 3 (dBin f_mod (dCB f_int (daCons (dBin f_ix (dVar 0) (dC (.int 2))) daNil)) (dVar 1))) (dSeq (dAsg (dBin f_fdiv (dBin f_ix (dVar 0) (dC (.int 2))) (dVar 1)) (dgSub (dVar 0) (dC (.int 2)))) (dRet (dVar 3)))) dNext) (dSeq (dAsg (dBin f_mod (dCB f_int (daCons (dBin f_add (dBin f_mul (dBin f_ix (dVar 0) (dC (.int 3))) (dC (.int 69621))) (dC (.int 7))) daNil)) (dC (.int 2147483629))) (dgSub (dVar 0) (dC (.int 3)))) (dRet (dBin f_mod (dCB f_int (daCons (dBin f_fdiv (dBin f_ix (dVar 0) (dC (.int 3))) (dC (.int 11))) daNil)) (dVar 1))))))
theorem der_law_draw {P : Program} {w : World} {K : Fg} {mg : Str → Option Value} {base : Heap} (T : Tx w K mg)  : Der P w K mg base ["draws", "limit", "cell", "value"] "_law_draw" s_law_draw 0 (d_law_draw K) := fun f cdv A outer s H E F pw hr tk hp =>
  have hu := hr.units; have nd := sc_law_draw.nd
  (pds_cons (pds_if (ptw (pw_andd (pt_eq hu (pd_ix hu (pd_var 0) pd_int) pd_int) (pw_and1d (pt_lt (pd_ix hu (pd_var 0) pd_int) (pd_len T.b_len (pd_cons (pd_ix hu (pd_var 0) pd_int) pd_nil)))))) (pds_cons (pds_set 2 nd (pd_ix hu (pd_ix hu (pd_var 0) pd_int) (pd_ix hu (pd_var 0) pd_int))) (pds_cons (pds_setitem hu (pd_var 0) pd_int (pd_add (pd_ix hu (pd_var 0) pd_int) pd_int)) (pds_cons (pds_if (pt_ge (pd_var 2) (pd_pow pd_int pd_int)) (pds_one (pds_setitem hu (pd_var 0) pd_int (pd_var 2))) pds_nil) (pds_one (pds_setitem hu (pd_var 0) pd_int (pd_mod (pd_intc T.b_int (pd_cons (pd_add (pd_add (pd_mul (pd_ix hu (pd_var 0) pd_int) pd_int) (pd_var 2)) pd_int) pd_nil)) pd_int)))))) pds_nil) (pds_cons (pds_if (pt_gt (pd_ix hu (pd_var 0) pd_int) pd_int) (pds_cons (pds_set 3 nd (pd_mod (pd_intc T.b_int (pd_cons (pd_ix hu (pd_var 0) pd_int) pd_nil)) (pd_var 1))) (pds_cons (pds_setitem hu (pd_var 0) pd_int (pd_fdiv (pd_ix hu (pd_var 0) pd_int) (pd_var 1))) (pds_one (pds_ret (pd_var 3))))) pds_nil) (pds_cons (pds_setitem hu (pd_var 0) pd_int (pd_mod (pd_intc T.b_int (pd_cons (pd_add (pd_mul (pd_ix hu (pd_var 0) pd_int) pd_int) pd_int) pd_nil)) pd_int)) (pds_one (pds_ret (pd_mod (pd_intc T.b_int (pd_cons (pd_fdiv (pd_ix hu (pd_var 0) pd_int) pd_int) pd_nil)) (pd_var 1)))))))
/-! ### _law_same -/
theorem sc_law_same : FnScope ["x", "due", "right", "key", "at"] ["x", "due"] (defScope s_law_same) := ⟨rfl, rfl, rfl, by decide +kernel, rfl, by decide +kernel, by decide +kernel⟩
def d_law_same (K : Fg) (n : Nat) : DW → DS := fun pw => (dSeq (dIfS (dTr (dUn (f_is false) (dVar 1))) (dRet (dUn (f_is false) (dVar 0))) dNext) (dSeq (dIfS (dTr (dCB f_isi (daCons (dVar 1) (daCons (dC (.ty "bool")) daNil)))) (dRet (dAnd (dCB f_isi (daCons (dVar 0) (daCons (dC (.ty "bool")) daNil))) (dBin f_eq (dVar 0) (dVar 1)))) dNext) (dSeq (dIfS (dTr (dCB f_isi (daCons (dVar 1) (daCons (dC (.ty "int")) daNil)))) (dRet (dAnd (dCB f_isi (daCons (dVar 0) (daCons (dC (.ty "int")) daNil))) (dAnd (dUn f_not (dCB f_isi (daCons (dVar 0) (daCons (dC (.ty "bool")) daNil)))) (dBin f_eq (dVar 0) (dVar 1))))) dNext) (dSeq (dIfS (dTr (dCB f_isi (daCons (dVar 1) (daCons (dC (.ty "str")) daNil)))) (dRet (dAnd (dCB f_isi (daCons (dVar 0) (daCons (dC (.ty "str")) daNil))) (dBin f_eq (dVar 0) (dVar 1)))) dNext) (dSeq (dIfS (dTr (dCB f_isi (daCons (dVar 1) (daCons (dC (.ty "dict")) daNil)))) (dSeq (dIfS (tOrD (tNotD (dTr (dCB f_isi (daCons (dVar 0) (daCons (dC (.ty "dict")) daNil))))) (tOrD (dTr (dBin f_ne (dCB f_len (daCons (dVar 0) daNil)) (dCB f_len (daCons (dVar 1) daNil)))) (tNotD (dTr (dCB f_all (daCons (dLc false (diKeys (dVar 1)) (dgName 3) dYes (dBin (f_in false) (dVar 3) (dVar 0)) [3]) daNil)))))) (dRet (dC (.bl false))) dNext) (dRet (dCB f_all (daCons (dLc false (diKeys (dVar 1)) (dgName 3) dYes (dCall (sp_law_same K n) dw0 (daCons (dBin f_ix (dVar 0) (dVar 3)) (daCons (dBin f_ix (dVar 1) (dVar 3)) daNil))) [3]) daNil)))) dNext) (dSeq (dIfS (dTr (dCB f_isi (daCons (dVar 1) (daCons (dC (.ty "list")) daNil)))) (dSet 2 (dCB f_isi (daCons (dVar 0) (daCons (dC (.ty "list")) daNil)))) (dSet 2 (dCB f_isi (daCons (dVar 0) (daCons (dC (.ty "tuple")) daNil))))) (dRet (dAnd (dVar 2) (dAnd (dBin f_eq (dCB f_len (daCons (dVar 0) daNil)) (dCB f_len (daCons (dVar 1) daNil))) (dCB f_all (daCons (dLc false (diRng1 (daCons (dCB f_len (daCons (dVar 1) daNil)) daNil)) (dgName 4) dYes (dCall (sp_law_same K n) dw0 (daCons (dBin f_ix (dVar 0) (dVar 4)) (daCons (dBin f_ix (dVar 1) (dVar 4)) daNil))) [4]) daNil)))))))))))
theorem der_law_same {P : Program} {w : World} {K : Fg} {mg : Str → Option Value} {base : Heap} (T : Tx w K mg) (n : Nat) (c_law_same : Cal P w K mg base n "_law_same" (sp_law_same K n)) : Der P w K mg base ["x", "due", "right", "key", "at"] "_law_same" s_law_same n (d_law_same K n) := fun f cdv A outer s H E F pw hr tk hp =>
  have hu := hr.units; have nd := sc_law_same.nd
  (pds_cons (pds_if (pt_isN (pd_var 1)) (pds_one (pds_ret (pd_isN (pd_var 0)))) pds_nil) (pds_cons (pds_if (pt_vald (pd_isi T.b_isinstance (pd_cons (pd_var 1) (pd_cons (pd_ty T.b_bool) pd_nil)))) (pds_one (pds_ret (pd_and (pd_isi T.b_isinstance (pd_cons (pd_var 0) (pd_cons (pd_ty T.b_bool) pd_nil))) (pd_one (pd_eq hu (pd_var 0) (pd_var 1)))))) pds_nil) (pds_cons (pds_if (pt_vald (pd_isi T.b_isinstance (pd_cons (pd_var 1) (pd_cons (pd_ty T.b_int) pd_nil)))) (pds_one (pds_ret (pd_and (pd_isi T.b_isinstance (pd_cons (pd_var 0) (pd_cons (pd_ty T.b_int) pd_nil))) (pd_and (pd_not (pd_isi T.b_isinstance (pd_cons (pd_var 0) (pd_cons (pd_ty T.b_bool) pd_nil)))) (pd_one (pd_eq hu (pd_var 0) (pd_var 1))))))) pds_nil) (pds_cons (pds_if (pt_vald (pd_isi T.b_isinstance (pd_cons (pd_var 1) (pd_cons (pd_ty T.b_str) pd_nil)))) (pds_one (pds_ret (pd_and (pd_isi T.b_isinstance (pd_cons (pd_var 0) (pd_cons (pd_ty T.b_str) pd_nil))) (pd_one (pd_eq hu (pd_var 0) (pd_var 1)))))) pds_nil) (pds_cons (pds_if (pt_vald (pd_isi T.b_isinstance (pd_cons (pd_var 1) (pd_cons (pd_ty T.b_dict) pd_nil)))) (pds_cons (pds_if (ptw (pw_ord (pt_notd (pt_vald (pd_isi T.b_isinstance (pd_cons (pd_var 0) (pd_cons (pd_ty T.b_dict) pd_nil))))) (pw_ord (pt_ne hu (pd_len T.b_len (pd_cons (pd_var 0) pd_nil)) (pd_len T.b_len (pd_cons (pd_var 1) pd_nil))) (pw_or1d (pt_notd (pt_vald (pd_all rfl T.b_all (pd_cons (pd_lc (own := [("key", 3)]) rfl nd (pdi_keys (pd_var 1)) (blkOk_by (N := ["x", "due", "right", "key", "at"]) (sc := defScope s_law_same) (own := [("key", 3)]) (by decide +kernel)) (fun _ _ _ _ _ F1 l1 => (pdgv_name 3 nd)) (fun _ _ _ _ _ F1 l1 => pdts_nil) (fun _ _ _ _ _ F1 l1 => (pd_in hu (pd_var 3) (pd_var 0))) false) pd_nil)))))))) (pds_one (pds_ret pd_bl)) pds_nil) (pds_one (pds_ret (pd_all rfl T.b_all (pd_cons (pd_lc (own := [("key", 3)]) rfl nd (pdi_keys (pd_var 1)) (blkOk_by (N := ["x", "due", "right", "key", "at"]) (sc := defScope s_law_same) (own := [("key", 3)]) (by decide +kernel)) (fun _ _ _ _ _ F2 l2 => (pdgv_name 3 nd)) (fun _ _ _ _ _ F2 l2 => pdts_nil) (fun _ _ _ _ _ F2 l2 => (pd_call c_law_same (hr.mono (by omega)) tk0 (pd_cons (pd_ix hu (pd_var 0) (pd_var 3)) (pd_cons (pd_ix hu (pd_var 1) (pd_var 3)) pd_nil)))) false) pd_nil))))) pds_nil) (pds_cons (pds_if (pt_vald (pd_isi T.b_isinstance (pd_cons (pd_var 1) (pd_cons (pd_ty T.b_list) pd_nil)))) (pds_one (pds_set 2 nd (pd_isi T.b_isinstance (pd_cons (pd_var 0) (pd_cons (pd_ty T.b_list) pd_nil))))) (pds_one (pds_set 2 nd (pd_isi T.b_isinstance (pd_cons (pd_var 0) (pd_cons (pd_ty T.b_tuple) pd_nil)))))) (pds_one (pds_ret (pd_and (pd_var 2) (pd_and (pd_eq hu (pd_len T.b_len (pd_cons (pd_var 0) pd_nil)) (pd_len T.b_len (pd_cons (pd_var 1) pd_nil))) (pd_one (pd_all rfl T.b_all (pd_cons (pd_lc (own := [("at", 4)]) rfl nd (pdi_range1 T.b_range (pd_cons (pd_len T.b_len (pd_cons (pd_var 1) pd_nil)) pd_nil)) (blkOk_by (N := ["x", "due", "right", "key", "at"]) (sc := defScope s_law_same) (own := [("at", 4)]) (by decide +kernel)) (fun _ _ _ _ _ F3 l3 => (pdgv_name 4 nd)) (fun _ _ _ _ _ F3 l3 => pdts_nil) (fun _ _ _ _ _ F3 l3 => (pd_call c_law_same (hr.mono (by omega)) tk0 (pd_cons (pd_ix hu (pd_var 0) (pd_var 4)) (pd_cons (pd_ix hu (pd_var 1) (pd_var 4)) pd_nil)))) false) pd_nil)))))))))))))
/-! ### _law_copy -/
theorem sc_law_copy : FnScope ["thing", "found", "key", "part"] ["thing"] (defScope s_law_copy) := ⟨rfl, rfl, rfl, by decide +kernel, rfl, by decide +kernel, by decide +kernel⟩
def d_law_copy (K : Fg) (n : Nat) : DW → DS := fun pw => (dSeq (dIfS (dTr (dCB f_isi (daCons (dVar 0) (daCons (dC (.ty "list")) daNil)))) (dRet (dFrz (dLc false (diMix (dVar 0)) (dgName 3) dYes (dCall (sp_law_copy K n) dw0 (daCons (dVar 3) daNil)) [3]))) dNext) (dSeq (dIfS (dTr (dCB f_isi (daCons (dVar 0) (daCons (dC (.ty "tuple")) daNil)))) (dRet (dFrz (dCB f_tuple (daCons (dLc false (diMix (dVar 0)) (dgName 3) dYes (dCall (sp_law_copy K n) dw0 (daCons (dVar 3) daNil)) [3]) daNil)))) dNext) (dSeq (dIfS (dTr (dCB f_isi (daCons (dVar 0) (daCons (dC (.ty "dict")) daNil)))) (dSeq (dSet 1 dNewT) (dSeq (dFor (diMix (dVar 0)) (dgName 2) (dAsg (dCall (sp_law_copy K n) pw (daCons (dBin f_ix (dVar 0) (dVar 2)) daNil)) (dgSub (dVar 1) (dVar 2)))) (dRet (dFrz (dVar 1))))) dNext) (dRet (dFrz (dVar 0))))))
theorem der_law_copy {P : Program} {w : World} {K : Fg} {mg : Str → Option Value} {base : Heap} (T : Tx w K mg) (n : Nat) (c_law_copy : Cal P w K mg base n "_law_copy" (sp_law_copy K n)) : Der P w K mg base ["thing", "found", "key", "part"] "_law_copy" s_law_copy n (d_law_copy K n) := fun f cdv A outer s H E F pw hr tk hp =>
  have hu := hr.units; have nd := sc_law_copy.nd
  (pds_cons (pds_if (pt_vald (pd_isi T.b_isinstance (pd_cons (pd_var 0) (pd_cons (pd_ty T.b_list) pd_nil)))) (pds_one (pds_ret (pd_frz (pd_lc (own := [("part", 3)]) rfl nd (pdi_mix (pd_var 0)) (blkOk_by (N := ["thing", "found", "key", "part"]) (sc := defScope s_law_copy) (own := [("part", 3)]) (by decide +kernel)) (fun _ _ _ _ _ F1 l1 => (pdgv_name 3 nd)) (fun _ _ _ _ _ F1 l1 => pdts_nil) (fun _ _ _ _ _ F1 l1 => (pd_call c_law_copy (hr.mono (by omega)) tk0 (pd_cons (pd_var 3) pd_nil))) false)))) pds_nil) (pds_cons (pds_if (pt_vald (pd_isi T.b_isinstance (pd_cons (pd_var 0) (pd_cons (pd_ty T.b_tuple) pd_nil)))) (pds_one (pds_ret (pd_frz (pd_tuplec T.b_tuple (pd_cons (pd_lc (own := [("part", 3)]) rfl nd (pdi_mix (pd_var 0)) (blkOk_by (N := ["thing", "found", "key", "part"]) (sc := defScope s_law_copy) (own := [("part", 3)]) (by decide +kernel)) (fun _ _ _ _ _ F2 l2 => (pdgv_name 3 nd)) (fun _ _ _ _ _ F2 l2 => pdts_nil) (fun _ _ _ _ _ F2 l2 => (pd_call c_law_copy (hr.mono (by omega)) tk0 (pd_cons (pd_var 3) pd_nil))) false) pd_nil))))) pds_nil) (pds_cons (pds_if (pt_vald (pd_isi T.b_isinstance (pd_cons (pd_var 0) (pd_cons (pd_ty T.b_dict) pd_nil)))) (pds_cons (pds_set 1 nd pd_newT) (pds_cons (pds_for hp rfl (pdi_mix (pd_var 0)) (pdg_name 2 nd) (pds_one (pds_setitem hu (pd_var 1) (pd_var 2) (pd_call c_law_copy (hr.mono (by omega)) tk (pd_cons (pd_ix hu (pd_var 0) (pd_var 2)) pd_nil))))) (pds_one (pds_ret (pd_frz (pd_var 1)))))) pds_nil) (pds_one (pds_ret (pd_frz (pd_var 0)))))))
/-! ### _law_parts -/
theorem sc_law_parts : FnScope ["charges", "found", "year", "pennies", "days", "before", "at", "reached"] ["charges"] (defScope s_law_parts) := ⟨rfl, rfl, rfl, by decide +kernel, rfl, by decide +kernel, by decide +kernel⟩
def d_law_parts (K : Fg) : DW → DS := fun pw => (dSeq (dSet 1 (dLstC daNil)) (dSeq (dFor (diList (dVar 0)) (dgTup 3 (dgCons (dgName 2) (dgCons (dgName 3) (dgCons (dgName 4) dgNil)))) (dSeq (dSet 5 (dC (.int 0))) (dFor (diRng1 (daCons (dCB f_len (daCons (dVar 4) daNil)) daNil)) (dgName 6) (dSeq (dSet 7 (dBin f_fdiv (dBin f_mul (dVar 3) (dBin f_add (dVar 6) (dC (.int 1)))) (dCB f_len (daCons (dVar 4) daNil)))) (dSeq (dDrop (dMt "list" f_append (dVar 1) (daCons (dTup (daCons (dBin f_ix (dVar 4) (dVar 6)) (daCons (dVar 2) (daCons (dVar 6) (daCons (dBin f_sub (dVar 7) (dVar 5)) daNil))))) daNil))) (dSet 5 (dVar 7))))))) (dRet (dCB f_sortT (daCons (dVar 1) daNil)))))
theorem der_law_parts {P : Program} {w : World} {K : Fg} {mg : Str → Option Value} {base : Heap} (T : Tx w K mg)  : Der P w K mg base ["charges", "found", "year", "pennies", "days", "before", "at", "reached"] "_law_parts" s_law_parts 0 (d_law_parts K) := fun f cdv A outer s H E F pw hr tk hp =>
  have hu := hr.units; have nd := sc_law_parts.nd
  (pds_cons (pds_set 1 nd (pd_lstC pd_nil)) (pds_cons (pds_for hp rfl (pdi_list (pd_var 0)) (pdg_tup rfl (pdgs_cons (pdg_name 2 nd) (pdgs_cons (pdg_name 3 nd) (pdgs_cons (pdg_name 4 nd) pdgs_nil)))) (pds_cons (pds_set 5 nd pd_int) (pds_one (pds_for hp rfl (pdi_range1 T.b_range (pd_cons (pd_len T.b_len (pd_cons (pd_var 4) pd_nil)) pd_nil)) (pdg_name 6 nd) (pds_cons (pds_set 7 nd (pd_fdiv (pd_mul (pd_var 3) (pd_add (pd_var 6) pd_int)) (pd_len T.b_len (pd_cons (pd_var 4) pd_nil)))) (pds_cons (pds_expr (pd_append (pd_var 1) ((pd_cons (pd_tup (pd_cons (pd_ix hu (pd_var 4) (pd_var 6)) (pd_cons (pd_var 2) (pd_cons (pd_var 6) (pd_cons (pd_sub (pd_var 7) (pd_var 5)) pd_nil))))) pd_nil)))) (pds_one (pds_set 5 nd (pd_var 7))))))))) (pds_one (pds_ret (pd_sortT rfl T.b_sorted (pd_cons (pd_var 1) pd_nil))))))
/-! ### _law_open -/
theorem sc_law_open : FnScope ["parts", "payments", "day", "part", "number", "when", "pennies"] ["parts", "payments", "day"] (defScope s_law_open) := ⟨rfl, rfl, rfl, by decide +kernel, rfl, by decide +kernel, by decide +kernel⟩
def d_law_open (K : Fg) : DW → DS := fun pw => (dRet (dBin f_sub (dCB f_sum (daCons (dLc false (diList (dVar 0)) (dgName 3) (dTr (dBin f_le (dBin f_ix (dVar 3) (dC (.int 0))) (dVar 2))) (dBin f_ix (dVar 3) (dC (.int 3))) [3]) daNil)) (dCB f_sum (daCons (dLc false (diList (dVar 1)) (dgTup 3 (dgCons (dgName 4) (dgCons (dgName 5) (dgCons (dgName 6) dgNil)))) (dTr (dBin f_le (dVar 5) (dVar 2))) (dVar 6) [4, 5, 6]) daNil))))
theorem der_law_open {P : Program} {w : World} {K : Fg} {mg : Str → Option Value} {base : Heap} (T : Tx w K mg)  : Der P w K mg base ["parts", "payments", "day", "part", "number", "when", "pennies"] "_law_open" s_law_open 0 (d_law_open K) := fun f cdv A outer s H E F pw hr tk hp =>
  have hu := hr.units; have nd := sc_law_open.nd
  (pds_one (pds_ret (pd_sub (pd_sum rfl T.b_sum (pd_cons (pd_lc (own := [("part", 3)]) rfl nd (pdi_list (pd_var 0)) (blkOk_by (N := ["parts", "payments", "day", "part", "number", "when", "pennies"]) (sc := defScope s_law_open) (own := [("part", 3)]) (by decide +kernel)) (fun _ _ _ _ _ F1 l1 => (pdgv_name 3 nd)) (fun _ _ _ _ _ F1 l1 => (pdts_one (pt_le (pd_ix hu (pd_var 3) pd_int) (pd_var 2)))) (fun _ _ _ _ _ F1 l1 => (pd_ix hu (pd_var 3) pd_int)) false) pd_nil)) (pd_sum rfl T.b_sum (pd_cons (pd_lc (own := [("number", 4), ("when", 5), ("pennies", 6)]) rfl nd (pdi_list (pd_var 1)) (blkOk_by (N := ["parts", "payments", "day", "part", "number", "when", "pennies"]) (sc := defScope s_law_open) (own := [("number", 4), ("when", 5), ("pennies", 6)]) (by decide +kernel)) (fun _ _ _ _ _ F2 l2 => (pdgv_tup rfl (pdgsv_cons (pdgv_name 4 nd) (pdgsv_cons (pdgv_name 5 nd) (pdgsv_cons (pdgv_name 6 nd) pdgsv_nil))))) (fun _ _ _ _ _ F2 l2 => (pdts_one (pt_le (pd_var 5) (pd_var 2)))) (fun _ _ _ _ _ F2 l2 => (pd_var 6)) false) pd_nil)))))
/-! ### _law_counted -/
theorem sc_law_counted : FnScope ["parts", "payments", "today", "stops", "total", "at", "day", "part", "number", "when", "pennies"] ["parts", "payments", "today"] (defScope s_law_counted) := ⟨rfl, rfl, rfl, by decide +kernel, rfl, by decide +kernel, by decide +kernel⟩
def d_law_counted (K : Fg) : DW → DS := fun pw => (dSeq (dIfS (dTr (dBin f_le (dVar 2) (dC (.int 300)))) (dRet (dCB f_sum (daCons (dLc false (diRng1 (daCons (dVar 2) daNil)) (dgName 6) dYes (dCB f_max2 (daCons (dC (.int 0)) (daCons (dCall (sp_law_open K) dw0 (daCons (dVar 0) (daCons (dVar 1) (daCons (dVar 6) daNil)))) daNil))) [6]) daNil))) dNext) (dSeq (dSet 3 (dCB f_sortI (daCons (dBin f_add (dBin f_add (dLc false (diList (dVar 0)) (dgName 7) dYes (dBin f_ix (dVar 7) (dC (.int 0))) [7]) (dLc false (diList (dVar 1)) (dgTup 3 (dgCons (dgName 8) (dgCons (dgName 9) (dgCons (dgName 10) dgNil)))) dYes (dVar 9) [8, 9, 10])) (dLst (daCons (dVar 2) daNil))) daNil))) (dSeq (dSet 4 (dC (.int 0))) (dSeq (dFor (diRng1 (daCons (dBin f_sub (dCB f_len (daCons (dVar 3) daNil)) (dC (.int 1))) daNil)) (dgName 5) (dIfS (dTr (dBin f_lt (dBin f_ix (dVar 3) (dVar 5)) (dVar 2))) (dSet 4 (dBin f_add (dVar 4) (dBin f_mul (dCB f_max2 (daCons (dC (.int 0)) (daCons (dCall (sp_law_open K) pw (daCons (dVar 0) (daCons (dVar 1) (daCons (dBin f_ix (dVar 3) (dVar 5)) daNil)))) daNil))) (dBin f_sub (dCB f_min2 (daCons (dVar 2) (daCons (dBin f_ix (dVar 3) (dBin f_add (dVar 5) (dC (.int 1)))) daNil))) (dBin f_ix (dVar 3) (dVar 5)))))) dNext)) (dRet (dVar 4))))))
theorem der_law_counted {P : Program} {w : World} {K : Fg} {mg : Str → Option Value} {base : Heap} (T : Tx w K mg) (c_law_open : Cal P w K mg base 1 "_law_open" (sp_law_open K)) : Der P w K mg base ["parts", "payments", "today", "stops", "total", "at", "day", "part", "number", "when", "pennies"] "_law_counted" s_law_counted 1 (d_law_counted K) := fun f cdv A outer s H E F pw hr tk hp =>
  have hu := hr.units; have nd := sc_law_counted.nd
  (pds_cons (pds_if (pt_le (pd_var 2) pd_int) (pds_one (pds_ret (pd_sum rfl T.b_sum (pd_cons (pd_lc (own := [("day", 6)]) rfl nd (pdi_range1 T.b_range (pd_cons (pd_var 2) pd_nil)) (blkOk_by (N := ["parts", "payments", "today", "stops", "total", "at", "day", "part", "number", "when", "pennies"]) (sc := defScope s_law_counted) (own := [("day", 6)]) (by decide +kernel)) (fun _ _ _ _ _ F1 l1 => (pdgv_name 6 nd)) (fun _ _ _ _ _ F1 l1 => pdts_nil) (fun _ _ _ _ _ F1 l1 => (pd_max2 rfl T.b_max (pd_cons pd_int (pd_cons (pd_call c_law_open (hr.mono (by decide)) tk0 (pd_cons (pd_var 0) (pd_cons (pd_var 1) (pd_cons (pd_var 6) pd_nil)))) pd_nil)))) false) pd_nil)))) pds_nil) (pds_cons (pds_set 3 nd (pd_sortI T.b_sorted (pd_cons (pd_add (pd_add (pd_lc (own := [("part", 7)]) rfl nd (pdi_list (pd_var 0)) (blkOk_by (N := ["parts", "payments", "today", "stops", "total", "at", "day", "part", "number", "when", "pennies"]) (sc := defScope s_law_counted) (own := [("part", 7)]) (by decide +kernel)) (fun _ _ _ _ _ F2 l2 => (pdgv_name 7 nd)) (fun _ _ _ _ _ F2 l2 => pdts_nil) (fun _ _ _ _ _ F2 l2 => (pd_ix hu (pd_var 7) pd_int)) false) (pd_lc (own := [("number", 8), ("when", 9), ("pennies", 10)]) rfl nd (pdi_list (pd_var 1)) (blkOk_by (N := ["parts", "payments", "today", "stops", "total", "at", "day", "part", "number", "when", "pennies"]) (sc := defScope s_law_counted) (own := [("number", 8), ("when", 9), ("pennies", 10)]) (by decide +kernel)) (fun _ _ _ _ _ F3 l3 => (pdgv_tup rfl (pdgsv_cons (pdgv_name 8 nd) (pdgsv_cons (pdgv_name 9 nd) (pdgsv_cons (pdgv_name 10 nd) pdgsv_nil))))) (fun _ _ _ _ _ F3 l3 => pdts_nil) (fun _ _ _ _ _ F3 l3 => (pd_var 9)) false)) (pd_lst (pd_cons (pd_var 2) pd_nil))) pd_nil))) (pds_cons (pds_set 4 nd pd_int) (pds_cons (pds_for hp rfl (pdi_range1 T.b_range (pd_cons (pd_sub (pd_len T.b_len (pd_cons (pd_var 3) pd_nil)) pd_int) pd_nil)) (pdg_name 5 nd) (pds_one (pds_if (pt_lt (pd_ix hu (pd_var 3) (pd_var 5)) (pd_var 2)) (pds_one (pds_set 4 nd (pd_add (pd_var 4) (pd_mul (pd_max2 rfl T.b_max (pd_cons pd_int (pd_cons (pd_call c_law_open (hr.mono (by decide)) tk (pd_cons (pd_var 0) (pd_cons (pd_var 1) (pd_cons (pd_ix hu (pd_var 3) (pd_var 5)) pd_nil)))) pd_nil))) (pd_sub (pd_min2 rfl T.b_min (pd_cons (pd_var 2) (pd_cons (pd_ix hu (pd_var 3) (pd_add (pd_var 5) pd_int)) pd_nil))) (pd_ix hu (pd_var 3) (pd_var 5))))))) pds_nil))) (pds_one (pds_ret (pd_var 4)))))))
/-! ### _law_left -/
theorem sc_law_left : FnScope ["parts", "payments", "at", "day", "credit", "left", "part", "taken", "number", "when", "pennies"] ["parts", "payments", "at", "day"] (defScope s_law_left) := ⟨rfl, rfl, rfl, by decide +kernel, rfl, by decide +kernel, by decide +kernel⟩
def d_law_left (K : Fg) : DW → DS := fun pw => (dSeq (dSet 4 (dCB f_sum (daCons (dLc false (diList (dVar 1)) (dgTup 3 (dgCons (dgName 8) (dgCons (dgName 9) (dgCons (dgName 10) dgNil)))) (dTr (dBin f_le (dVar 9) (dVar 3))) (dVar 10) [8, 9, 10]) daNil))) (dSeq (dSet 4 (dBin f_add (dVar 4) (dCB f_sum (daCons (dLc false (diList (dVar 0)) (dgName 6) (tAndD (dTr (dBin f_lt (dBin f_ix (dVar 6) (dC (.int 3))) (dC (.int 0)))) (dTr (dBin f_le (dBin f_ix (dVar 6) (dC (.int 0))) (dVar 3)))) (dBin f_sub (dC (.int 0)) (dBin f_ix (dVar 6) (dC (.int 3)))) [6]) daNil)))) (dSeq (dSet 4 (dCB f_max2 (daCons (dC (.int 0)) (daCons (dVar 4) daNil)))) (dSeq (dSet 5 (dC (.int 0))) (dSeq (dFor (diList (dSl false (dVar 0) doNone (doSome (dBin f_add (dVar 2) (dC (.int 1)))))) (dgName 6) (dIfS (dTr (dBin f_gt (dBin f_ix (dVar 6) (dC (.int 3))) (dC (.int 0)))) (dSeq (dSet 7 (dCB f_min2 (daCons (dVar 4) (daCons (dBin f_ix (dVar 6) (dC (.int 3))) daNil)))) (dSeq (dSet 4 (dBin f_sub (dVar 4) (dVar 7))) (dSet 5 (dBin f_sub (dBin f_ix (dVar 6) (dC (.int 3))) (dVar 7))))) dNext)) (dRet (dVar 5)))))))
theorem der_law_left {P : Program} {w : World} {K : Fg} {mg : Str → Option Value} {base : Heap} (T : Tx w K mg)  : Der P w K mg base ["parts", "payments", "at", "day", "credit", "left", "part", "taken", "number", "when", "pennies"] "_law_left" s_law_left 0 (d_law_left K) := fun f cdv A outer s H E F pw hr tk hp =>
  have hu := hr.units; have nd := sc_law_left.nd
  (pds_cons (pds_set 4 nd (pd_sum rfl T.b_sum (pd_cons (pd_lc (own := [("number", 8), ("when", 9), ("pennies", 10)]) rfl nd (pdi_list (pd_var 1)) (blkOk_by (N := ["parts", "payments", "at", "day", "credit", "left", "part", "taken", "number", "when", "pennies"]) (sc := defScope s_law_left) (own := [("number", 8), ("when", 9), ("pennies", 10)]) (by decide +kernel)) (fun _ _ _ _ _ F1 l1 => (pdgv_tup rfl (pdgsv_cons (pdgv_name 8 nd) (pdgsv_cons (pdgv_name 9 nd) (pdgsv_cons (pdgv_name 10 nd) pdgsv_nil))))) (fun _ _ _ _ _ F1 l1 => (pdts_one (pt_le (pd_var 9) (pd_var 3)))) (fun _ _ _ _ _ F1 l1 => (pd_var 10)) false) pd_nil))) (pds_cons (pds_set 4 nd (pd_add (pd_var 4) (pd_sum rfl T.b_sum (pd_cons (pd_lc (own := [("part", 6)]) rfl nd (pdi_list (pd_var 0)) (blkOk_by (N := ["parts", "payments", "at", "day", "credit", "left", "part", "taken", "number", "when", "pennies"]) (sc := defScope s_law_left) (own := [("part", 6)]) (by decide +kernel)) (fun _ _ _ _ _ F2 l2 => (pdgv_name 6 nd)) (fun _ _ _ _ _ F2 l2 => (pdts_one (ptw (pw_andd (pt_lt (pd_ix hu (pd_var 6) pd_int) pd_int) (pw_and1d (pt_le (pd_ix hu (pd_var 6) pd_int) (pd_var 3))))))) (fun _ _ _ _ _ F2 l2 => (pd_sub pd_int (pd_ix hu (pd_var 6) pd_int))) false) pd_nil)))) (pds_cons (pds_set 4 nd (pd_max2 rfl T.b_max (pd_cons pd_int (pd_cons (pd_var 4) pd_nil)))) (pds_cons (pds_set 5 nd pd_int) (pds_cons (pds_for hp rfl (pdi_list (pd_slice false (pd_var 0) pd_none (pd_some (pd_add (pd_var 2) pd_int)))) (pdg_name 6 nd) (pds_one (pds_if (pt_gt (pd_ix hu (pd_var 6) pd_int) pd_int) (pds_cons (pds_set 7 nd (pd_min2 rfl T.b_min (pd_cons (pd_var 4) (pd_cons (pd_ix hu (pd_var 6) pd_int) pd_nil)))) (pds_cons (pds_set 4 nd (pd_sub (pd_var 4) (pd_var 7))) (pds_one (pds_set 5 nd (pd_sub (pd_ix hu (pd_var 6) pd_int) (pd_var 7)))))) pds_nil))) (pds_one (pds_ret (pd_var 5))))))))
/-! ### _law_due -/
theorem sc_law_due : FnScope ["charges", "payments", "terms", "today", "parts", "found", "at", "rate", "grace", "extra", "number", "when", "pennies", "day", "year", "part"] ["charges", "payments", "terms", "today"] (defScope s_law_due) := ⟨rfl, rfl, rfl, by decide +kernel, rfl, by decide +kernel, by decide +kernel⟩
def d_law_due (K : Fg) : DW → DS := fun pw => (dSeq (dAsg (dVar 2) (dgTup 3 (dgCons (dgName 7) (dgCons (dgName 8) (dgCons (dgName 9) dgNil))))) (dSeq (dSet 4 (dCall (sp_law_parts K) pw (daCons (dVar 0) daNil))) (dSeq (dSet 5 dNewT) (dSeq (dFor (diRng1 (daCons (dCB f_len (daCons (dVar 4) daNil)) daNil)) (dgName 6) (dSeq (dAsg (dBin f_ix (dVar 4) (dVar 6)) (dgTup 4 (dgCons (dgName 13) (dgCons (dgName 14) (dgCons (dgName 15) (dgCons (dgName 12) dgNil)))))) (dSeq (dAsg (dVar 12) (dgSub (dVar 5) (dTup (daCons (dC (.str "charge")) (daCons (dVar 14) (daCons (dVar 15) daNil)))))) (dIfS (tAndD (dTr (dBin f_gt (dVar 12) (dC (.int 0)))) (dTr (dBin f_lt (dBin f_add (dVar 13) (dVar 8)) (dVar 3)))) (dAsg (dBin f_fdiv (dBin f_mul (dBin f_ix (dVar 9) (dC (.int 0))) (dCall (sp_law_left K) pw (daCons (dVar 4) (daCons (dVar 1) (daCons (dVar 6) (daCons (dBin f_add (dVar 13) (dVar 8)) daNil)))))) (dBin f_ix (dVar 9) (dC (.int 1)))) (dgSub (dVar 5) (dTup (daCons (dC (.str "surcharge")) (daCons (dVar 14) (daCons (dVar 15) daNil)))))) dNext)))) (dSeq (dAsg (dBin f_fdiv (dBin f_mul (dBin f_ix (dVar 7) (dC (.int 0))) (dCall (sp_law_counted K) pw (daCons (dVar 4) (daCons (dVar 1) (daCons (dVar 3) daNil))))) (dBin f_ix (dVar 7) (dC (.int 1)))) (dgSub (dVar 5) (dTup (daCons (dC (.str "interest")) (daCons (dC (.int 0)) (daCons (dC (.int 0)) daNil)))))) (dSeq (dFor (diList (dVar 1)) (dgTup 3 (dgCons (dgName 10) (dgCons (dgName 11) (dgCons (dgName 12) dgNil)))) (dAsg (dBin f_sub (dC (.int 0)) (dVar 12)) (dgSub (dVar 5) (dTup (daCons (dC (.str "payment")) (daCons (dVar 10) (daCons (dC (.int 0)) daNil))))))) (dRet (dFrz (dVar 5)))))))))
theorem der_law_due {P : Program} {w : World} {K : Fg} {mg : Str → Option Value} {base : Heap} (T : Tx w K mg) (c_law_parts : Cal P w K mg base 1 "_law_parts" (sp_law_parts K)) (c_law_left : Cal P w K mg base 1 "_law_left" (sp_law_left K)) (c_law_counted : Cal P w K mg base 2 "_law_counted" (sp_law_counted K)) : Der P w K mg base ["charges", "payments", "terms", "today", "parts", "found", "at", "rate", "grace", "extra", "number", "when", "pennies", "day", "year", "part"] "_law_due" s_law_due 2 (d_law_due K) := fun f cdv A outer s H E F pw hr tk hp =>
  have hu := hr.units; have nd := sc_law_due.nd
  (pds_cons (pds_asg (pd_var 2) (pdg_tup rfl (pdgs_cons (pdg_name 7 nd) (pdgs_cons (pdg_name 8 nd) (pdgs_cons (pdg_name 9 nd) pdgs_nil))))) (pds_cons (pds_set 4 nd (pd_call c_law_parts (hr.mono (by decide)) tk (pd_cons (pd_var 0) pd_nil))) (pds_cons (pds_set 5 nd pd_newT) (pds_cons (pds_for hp rfl (pdi_range1 T.b_range (pd_cons (pd_len T.b_len (pd_cons (pd_var 4) pd_nil)) pd_nil)) (pdg_name 6 nd) (pds_cons (pds_asg (pd_ix hu (pd_var 4) (pd_var 6)) (pdg_tup rfl (pdgs_cons (pdg_name 13 nd) (pdgs_cons (pdg_name 14 nd) (pdgs_cons (pdg_name 15 nd) (pdgs_cons (pdg_name 12 nd) pdgs_nil)))))) (pds_cons (pds_setitem hu (pd_var 5) (pd_tup (pd_cons pd_str (pd_cons (pd_var 14) (pd_cons (pd_var 15) pd_nil)))) (pd_var 12)) (pds_one (pds_if (ptw (pw_andd (pt_gt (pd_var 12) pd_int) (pw_and1d (pt_lt (pd_add (pd_var 13) (pd_var 8)) (pd_var 3))))) (pds_one (pds_setitem hu (pd_var 5) (pd_tup (pd_cons pd_str (pd_cons (pd_var 14) (pd_cons (pd_var 15) pd_nil)))) (pd_fdiv (pd_mul (pd_ix hu (pd_var 9) pd_int) (pd_call c_law_left (hr.mono (by decide)) tk (pd_cons (pd_var 4) (pd_cons (pd_var 1) (pd_cons (pd_var 6) (pd_cons (pd_add (pd_var 13) (pd_var 8)) pd_nil)))))) (pd_ix hu (pd_var 9) pd_int)))) pds_nil))))) (pds_cons (pds_setitem hu (pd_var 5) (pd_tup (pd_cons pd_str (pd_cons pd_int (pd_cons pd_int pd_nil)))) (pd_fdiv (pd_mul (pd_ix hu (pd_var 7) pd_int) (pd_call c_law_counted (hr.mono (by decide)) tk (pd_cons (pd_var 4) (pd_cons (pd_var 1) (pd_cons (pd_var 3) pd_nil))))) (pd_ix hu (pd_var 7) pd_int))) (pds_cons (pds_for hp rfl (pdi_list (pd_var 1)) (pdg_tup rfl (pdgs_cons (pdg_name 10 nd) (pdgs_cons (pdg_name 11 nd) (pdgs_cons (pdg_name 12 nd) pdgs_nil)))) (pds_one (pds_setitem hu (pd_var 5) (pd_tup (pd_cons pd_str (pd_cons (pd_var 10) (pd_cons pd_int pd_nil)))) (pd_sub pd_int (pd_var 12))))) (pds_one (pds_ret (pd_frz (pd_var 5))))))))))
/-! ### _law_charges -/
theorem sc_law_charges : FnScope ["draws", "scale", "found", "year", "many", "days", "k", "size", "pennies"] ["draws", "scale"] (defScope s_law_charges) := ⟨rfl, rfl, rfl, by decide +kernel, rfl, by decide +kernel, by decide +kernel⟩
def d_law_charges (K : Fg) : DW → DS := fun pw => (dSeq (dSet 2 (dLstC daNil)) (dSeq (dFor (diRng1 (daCons (dCall (sp_law_draw K) pw (daCons (dVar 0) (daCons (dC (.int 5)) daNil))) daNil)) (dgName 3) (dSeq (dSet 4 (dBin f_add (dC (.int 1)) (dCall (sp_law_draw K) pw (daCons (dVar 0) (daCons (dBin f_ix (dLst (daCons (dC (.int 1)) (daCons (dC (.int 4)) (daCons (dC (.int 12)) daNil)))) (dCall (sp_law_draw K) pw (daCons (dVar 0) (daCons (dC (.int 3)) daNil)))) daNil))))) (dSeq (dSet 5 (dLstC (daCons (dBin f_mul (dCall (sp_law_draw K) pw (daCons (dVar 0) (daCons (dC (.int 30)) daNil))) (dVar 1)) daNil))) (dSeq (dFor (diRng1 (daCons (dBin f_sub (dVar 4) (dC (.int 1))) daNil)) (dgName 6) (dDrop (dMt "list" f_append (dVar 5) (daCons (dBin f_add (dBin f_ix (dVar 5) (dUn f_neg (dC (.int 1)))) (dBin f_mul (dBin f_add (dC (.int 1)) (dCall (sp_law_draw K) pw (daCons (dVar 0) (daCons (dC (.int 12)) daNil)))) (dVar 1))) daNil)))) (dSeq (dSet 7 (dBin f_ix (dLst (daCons (dC (.int 10)) (daCons (dC (.int 1000)) (daCons (dC (.int 100000)) daNil)))) (dCall (sp_law_draw K) pw (daCons (dVar 0) (daCons (dC (.int 3)) daNil))))) (dSeq (dSet 8 (dBin f_mul (dBin f_ix (dLst (daCons (dC (.int 1)) (daCons (dC (.int 1)) (daCons (dC (.int 1)) (daCons (dUn f_neg (dC (.int 1))) (daCons (dC (.int 0)) daNil)))))) (dCall (sp_law_draw K) pw (daCons (dVar 0) (daCons (dC (.int 5)) daNil)))) (dCall (sp_law_draw K) pw (daCons (dVar 0) (daCons (dVar 7) daNil))))) (dFz 5 (dDrop (dMt "list" f_append (dVar 2) (daCons (dTup (daCons (dBin f_add (dBin f_mul (dVar 3) (dBin f_ix (dLst (daCons (dC (.int 1)) (daCons (dC (.int 1)) (daCons (dC (.int 7)) daNil)))) (dCall (sp_law_draw K) pw (daCons (dVar 0) (daCons (dC (.int 3)) daNil))))) (dBin f_mul (dC (.int 20)) (dVar 3))) (daCons (dVar 8) (daCons (dVar 5) daNil)))) daNil)))))))))) (dRet (dFrz (dVar 2)))))
theorem der_law_charges {P : Program} {w : World} {K : Fg} {mg : Str → Option Value} {base : Heap} (T : Tx w K mg) (c_law_draw : Cal P w K mg base 1 "_law_draw" (sp_law_draw K)) : Der P w K mg base ["draws", "scale", "found", "year", "many", "days", "k", "size", "pennies"] "_law_charges" s_law_charges 1 (d_law_charges K) := fun f cdv A outer s H E F pw hr tk hp =>
  have hu := hr.units; have nd := sc_law_charges.nd
  (pds_cons (pds_set 2 nd (pd_lstC pd_nil)) (pds_cons (pds_for hp rfl (pdi_range1 T.b_range (pd_cons (pd_call c_law_draw (hr.mono (by decide)) tk (pd_cons (pd_var 0) (pd_cons pd_int pd_nil))) pd_nil)) (pdg_name 3 nd) (pds_cons (pds_set 4 nd (pd_add pd_int (pd_call c_law_draw (hr.mono (by decide)) tk (pd_cons (pd_var 0) (pd_cons (pd_ix hu (pd_lst (pd_cons pd_int (pd_cons pd_int (pd_cons pd_int pd_nil)))) (pd_call c_law_draw (hr.mono (by decide)) tk (pd_cons (pd_var 0) (pd_cons pd_int pd_nil)))) pd_nil))))) (pds_cons (pds_set 5 nd (pd_lstC (pd_cons (pd_mul (pd_call c_law_draw (hr.mono (by decide)) tk (pd_cons (pd_var 0) (pd_cons pd_int pd_nil))) (pd_var 1)) pd_nil))) (pds_cons (pds_for hp rfl (pdi_range1 T.b_range (pd_cons (pd_sub (pd_var 4) pd_int) pd_nil)) (pdg_name 6 nd) (pds_one (pds_expr (pd_append (pd_var 5) ((pd_cons (pd_add (pd_ix hu (pd_var 5) (pd_neg pd_int)) (pd_mul (pd_add pd_int (pd_call c_law_draw (hr.mono (by decide)) tk (pd_cons (pd_var 0) (pd_cons pd_int pd_nil)))) (pd_var 1))) pd_nil)))))) (pds_cons (pds_set 7 nd (pd_ix hu (pd_lst (pd_cons pd_int (pd_cons pd_int (pd_cons pd_int pd_nil)))) (pd_call c_law_draw (hr.mono (by decide)) tk (pd_cons (pd_var 0) (pd_cons pd_int pd_nil))))) (pds_cons (pds_set 8 nd (pd_mul (pd_ix hu (pd_lst (pd_cons pd_int (pd_cons pd_int (pd_cons pd_int (pd_cons (pd_neg pd_int) (pd_cons pd_int pd_nil)))))) (pd_call c_law_draw (hr.mono (by decide)) tk (pd_cons (pd_var 0) (pd_cons pd_int pd_nil)))) (pd_call c_law_draw (hr.mono (by decide)) tk (pd_cons (pd_var 0) (pd_cons (pd_var 7) pd_nil))))) (pds_fz 5 (pds_one (pds_expr (pd_append (pd_var 2) ((pd_cons (pd_tup (pd_cons (pd_add (pd_mul (pd_var 3) (pd_ix hu (pd_lst (pd_cons pd_int (pd_cons pd_int (pd_cons pd_int pd_nil)))) (pd_call c_law_draw (hr.mono (by decide)) tk (pd_cons (pd_var 0) (pd_cons pd_int pd_nil))))) (pd_mul pd_int (pd_var 3))) (pd_cons (pd_var 8) (pd_cons (pd_var 5) pd_nil)))) pd_nil)))))))))))) (pds_one (pds_ret (pd_frz (pd_var 2))))))
/-! ### _law_payments -/
theorem sc_law_payments : FnScope ["draws", "scale", "charges", "found", "k", "day", "pennies", "year", "whole", "days"] ["draws", "scale", "charges"] (defScope s_law_payments) := ⟨rfl, rfl, rfl, by decide +kernel, rfl, by decide +kernel, by decide +kernel⟩
def d_law_payments (K : Fg) : DW → DS := fun pw => (dSeq (dSet 3 (dLstC daNil)) (dSeq (dFor (diRng1 (daCons (dCall (sp_law_draw K) pw (daCons (dVar 0) (daCons (dC (.int 8)) daNil))) daNil)) (dgName 4) (dSeq (dSet 5 (dBin f_mul (dCall (sp_law_draw K) pw (daCons (dVar 0) (daCons (dC (.int 70)) daNil))) (dVar 1))) (dSeq (dSet 6 (dBin f_add (dC (.int 1)) (dCall (sp_law_draw K) pw (daCons (dVar 0) (daCons (dBin f_ix (dLst (daCons (dC (.int 10)) (daCons (dC (.int 500)) (daCons (dC (.int 100000)) daNil)))) (dCall (sp_law_draw K) pw (daCons (dVar 0) (daCons (dC (.int 3)) daNil)))) daNil))))) (dSeq (dIfS (tAndD (dTr (dBin f_gt (dCB f_len (daCons (dVar 2) daNil)) (dC (.int 0)))) (dTr (dBin f_eq (dCall (sp_law_draw K) pw (daCons (dVar 0) (daCons (dC (.int 2)) daNil))) (dC (.int 0))))) (dSeq (dAsg (dBin f_ix (dVar 2) (dCall (sp_law_draw K) pw (daCons (dVar 0) (daCons (dCB f_len (daCons (dVar 2) daNil)) daNil)))) (dgTup 3 (dgCons (dgName 7) (dgCons (dgName 8) (dgCons (dgName 9) dgNil))))) (dSeq (dSet 5 (dCB f_max2 (daCons (dC (.int 0)) (daCons (dBin f_sub (dBin f_add (dBin f_ix (dVar 9) (dCall (sp_law_draw K) pw (daCons (dVar 0) (daCons (dCB f_len (daCons (dVar 9) daNil)) daNil)))) (dCall (sp_law_draw K) pw (daCons (dVar 0) (daCons (dC (.int 3)) daNil)))) (dC (.int 1))) daNil)))) (dSet 6 (dCB f_max2 (daCons (dC (.int 1)) (daCons (dBin f_fdiv (dCB f_abs (daCons (dVar 8) daNil)) (dBin f_ix (dLst (daCons (dC (.int 1)) (daCons (dC (.int 2)) (daCons (dCB f_len (daCons (dVar 9) daNil)) daNil)))) (dCall (sp_law_draw K) pw (daCons (dVar 0) (daCons (dC (.int 3)) daNil))))) daNil)))))) dNext) (dSeq (dIfS (dTr (dBin f_eq (dCall (sp_law_draw K) pw (daCons (dVar 0) (daCons (dC (.int 5)) daNil))) (dC (.int 0)))) (dSet 6 (dBin f_sub (dC (.int 0)) (dVar 6))) dNext) (dDrop (dMt "list" f_append (dVar 3) (daCons (dTup (daCons (dBin f_add (dBin f_add (dBin f_mul (dC (.int 3)) (dVar 4)) (dC (.int 1))) (dCall (sp_law_draw K) pw (daCons (dVar 0) (daCons (dC (.int 3)) daNil)))) (daCons (dVar 5) (daCons (dVar 6) daNil)))) daNil)))))))) (dRet (dFrz (dVar 3)))))
theorem der_law_payments {P : Program} {w : World} {K : Fg} {mg : Str → Option Value} {base : Heap} (T : Tx w K mg) (c_law_draw : Cal P w K mg base 1 "_law_draw" (sp_law_draw K)) : Der P w K mg base ["draws", "scale", "charges", "found", "k", "day", "pennies", "year", "whole", "days"] "_law_payments" s_law_payments 1 (d_law_payments K) := fun f cdv A outer s H E F pw hr tk hp =>
  have hu := hr.units; have nd := sc_law_payments.nd
  (pds_cons (pds_set 3 nd (pd_lstC pd_nil)) (pds_cons (pds_for hp rfl (pdi_range1 T.b_range (pd_cons (pd_call c_law_draw (hr.mono (by decide)) tk (pd_cons (pd_var 0) (pd_cons pd_int pd_nil))) pd_nil)) (pdg_name 4 nd) (pds_cons (pds_set 5 nd (pd_mul (pd_call c_law_draw (hr.mono (by decide)) tk (pd_cons (pd_var 0) (pd_cons pd_int pd_nil))) (pd_var 1))) (pds_cons (pds_set 6 nd (pd_add pd_int (pd_call c_law_draw (hr.mono (by decide)) tk (pd_cons (pd_var 0) (pd_cons (pd_ix hu (pd_lst (pd_cons pd_int (pd_cons pd_int (pd_cons pd_int pd_nil)))) (pd_call c_law_draw (hr.mono (by decide)) tk (pd_cons (pd_var 0) (pd_cons pd_int pd_nil)))) pd_nil))))) (pds_cons (pds_if (ptw (pw_andd (pt_gt (pd_len T.b_len (pd_cons (pd_var 2) pd_nil)) pd_int) (pw_and1d (pt_eq hu (pd_call c_law_draw (hr.mono (by decide)) tk (pd_cons (pd_var 0) (pd_cons pd_int pd_nil))) pd_int)))) (pds_cons (pds_asg (pd_ix hu (pd_var 2) (pd_call c_law_draw (hr.mono (by decide)) tk (pd_cons (pd_var 0) (pd_cons (pd_len T.b_len (pd_cons (pd_var 2) pd_nil)) pd_nil)))) (pdg_tup rfl (pdgs_cons (pdg_name 7 nd) (pdgs_cons (pdg_name 8 nd) (pdgs_cons (pdg_name 9 nd) pdgs_nil))))) (pds_cons (pds_set 5 nd (pd_max2 rfl T.b_max (pd_cons pd_int (pd_cons (pd_sub (pd_add (pd_ix hu (pd_var 9) (pd_call c_law_draw (hr.mono (by decide)) tk (pd_cons (pd_var 0) (pd_cons (pd_len T.b_len (pd_cons (pd_var 9) pd_nil)) pd_nil)))) (pd_call c_law_draw (hr.mono (by decide)) tk (pd_cons (pd_var 0) (pd_cons pd_int pd_nil)))) pd_int) pd_nil)))) (pds_one (pds_set 6 nd (pd_max2 rfl T.b_max (pd_cons pd_int (pd_cons (pd_fdiv (pd_abs T.b_abs (pd_cons (pd_var 8) pd_nil)) (pd_ix hu (pd_lst (pd_cons pd_int (pd_cons pd_int (pd_cons (pd_len T.b_len (pd_cons (pd_var 9) pd_nil)) pd_nil)))) (pd_call c_law_draw (hr.mono (by decide)) tk (pd_cons (pd_var 0) (pd_cons pd_int pd_nil))))) pd_nil))))))) pds_nil) (pds_cons (pds_if (pt_eq hu (pd_call c_law_draw (hr.mono (by decide)) tk (pd_cons (pd_var 0) (pd_cons pd_int pd_nil))) pd_int) (pds_one (pds_set 6 nd (pd_sub pd_int (pd_var 6)))) pds_nil) (pds_one (pds_expr (pd_append (pd_var 3) ((pd_cons (pd_tup (pd_cons (pd_add (pd_add (pd_mul pd_int (pd_var 4)) pd_int) (pd_call c_law_draw (hr.mono (by decide)) tk (pd_cons (pd_var 0) (pd_cons pd_int pd_nil)))) (pd_cons (pd_var 5) (pd_cons (pd_var 6) pd_nil)))) pd_nil)))))))))) (pds_one (pds_ret (pd_frz (pd_var 3))))))
/-! ### _law_turned -/
theorem sc_law_turned : FnScope ["draws", "rows", "found", "row", "at"] ["draws", "rows"] (defScope s_law_turned) := ⟨rfl, rfl, rfl, by decide +kernel, rfl, by decide +kernel, by decide +kernel⟩
def d_law_turned (K : Fg) : DW → DS := fun pw => (dSeq (dSet 2 (dLst daNil)) (dSeq (dFor (diList (dVar 1)) (dgName 3) (dSeq (dSet 4 (dCall (sp_law_draw K) pw (daCons (dVar 0) (daCons (dBin f_add (dCB f_len (daCons (dVar 2) daNil)) (dC (.int 1))) daNil)))) (dSet 2 (dBin f_add (dBin f_add (dSl false (dVar 2) doNone (doSome (dVar 4))) (dLst (daCons (dVar 3) daNil))) (dSl false (dVar 2) (doSome (dVar 4)) doNone))))) (dRet (dVar 2))))
theorem der_law_turned {P : Program} {w : World} {K : Fg} {mg : Str → Option Value} {base : Heap} (T : Tx w K mg) (c_law_draw : Cal P w K mg base 1 "_law_draw" (sp_law_draw K)) : Der P w K mg base ["draws", "rows", "found", "row", "at"] "_law_turned" s_law_turned 1 (d_law_turned K) := fun f cdv A outer s H E F pw hr tk hp =>
  have hu := hr.units; have nd := sc_law_turned.nd
  (pds_cons (pds_set 2 nd (pd_lst pd_nil)) (pds_cons (pds_for hp rfl (pdi_list (pd_var 1)) (pdg_name 3 nd) (pds_cons (pds_set 4 nd (pd_call c_law_draw (hr.mono (by decide)) tk (pd_cons (pd_var 0) (pd_cons (pd_add (pd_len T.b_len (pd_cons (pd_var 2) pd_nil)) pd_int) pd_nil)))) (pds_one (pds_set 2 nd (pd_add (pd_add (pd_slice false (pd_var 2) pd_none (pd_some (pd_var 4))) (pd_lst (pd_cons (pd_var 3) pd_nil))) (pd_slice false (pd_var 2) (pd_some (pd_var 4)) pd_none)))))) (pds_one (pds_ret (pd_var 2)))))
/-! ### law -/
theorem sc_law : FnScope ["script", "draws", "scale", "charges", "payments", "rate", "extra", "terms", "days", "turn", "year", "pennies", "row", "today", "due", "handed", "told"] ["script"] (defScope s_law) := ⟨rfl, rfl, rfl, by decide +kernel, rfl, by decide +kernel, by decide +kernel⟩
def d_law (K : Fg) : DW → DS := fun pw => (dSeq (dSet 1 (dCall (sp_law_draws K) pw (daCons (dVar 0) daNil))) (dSeq (dSet 2 (dBin f_ix (dLst (daCons (dC (.int 1)) (daCons (dC (.int 1)) (daCons (dC (.int 1)) (daCons (dC (.int 1)) (daCons (dBin f_pow (dC (.int 10)) (dC (.int 12))) daNil)))))) (dCall (sp_law_draw K) pw (daCons (dVar 1) (daCons (dC (.int 5)) daNil))))) (dSeq (dSet 3 (dCall (sp_law_turned K) pw (daCons (dVar 1) (daCons (dCall (sp_law_charges K) pw (daCons (dVar 1) (daCons (dVar 2) daNil))) daNil)))) (dSeq (dSet 4 (dCall (sp_law_turned K) pw (daCons (dVar 1) (daCons (dCall (sp_law_payments K) pw (daCons (dVar 1) (daCons (dVar 2) (daCons (dVar 3) daNil)))) daNil)))) (dSeq (dSet 5 (dBin f_ix (dLst (daCons (dTup (daCons (dC (.int 0)) (daCons (dC (.int 1)) daNil))) (daCons (dTup (daCons (dC (.int 1)) (daCons (dC (.int 10000)) daNil))) (daCons (dTup (daCons (dC (.int 1)) (daCons (dC (.int 7)) daNil))) (daCons (dTup (daCons (dBin f_add (dC (.int 1)) (dCall (sp_law_draw K) pw (daCons (dVar 1) (daCons (dC (.int 100)) daNil)))) (daCons (dC (.int 3)) daNil))) (daCons (dTup (daCons (dC (.int 1)) (daCons (dC (.int 1)) daNil))) daNil)))))) (dCall (sp_law_draw K) pw (daCons (dVar 1) (daCons (dC (.int 5)) daNil))))) (dSeq (dIfS (tAndD (dTr (dBin f_eq (dBin f_ix (dVar 5) (dC (.int 1))) (dC (.int 3)))) (dTr (dBin f_eq (dBin f_mod (dCB f_int (daCons (dBin f_ix (dVar 5) (dC (.int 0))) daNil)) (dC (.int 3))) (dC (.int 0))))) (dSet 5 (dTup (daCons (dBin f_fdiv (dBin f_ix (dVar 5) (dC (.int 0))) (dC (.int 3))) (daCons (dC (.int 1)) daNil)))) dNext) (dSeq (dSet 6 (dBin f_ix (dLst (daCons (dTup (daCons (dC (.int 0)) (daCons (dC (.int 1)) daNil))) (daCons (dTup (daCons (dC (.int 1)) (daCons (dC (.int 20)) daNil))) (daCons (dTup (daCons (dC (.int 1)) (daCons (dC (.int 1)) daNil))) (daCons (dTup (daCons (dC (.int 2)) (daCons (dC (.int 1)) daNil))) (daCons (dTup (daCons (dC (.int 1)) (daCons (dC (.int 3)) daNil))) daNil)))))) (dCall (sp_law_draw K) pw (daCons (dVar 1) (daCons (dC (.int 5)) daNil))))) (dSeq (dSet 7 (dTup (daCons (dVar 5) (daCons (dBin f_mul (dBin f_ix (dLst (daCons (dC (.int 0)) (daCons (dC (.int 1)) (daCons (dCall (sp_law_draw K) pw (daCons (dVar 1) (daCons (dC (.int 40)) daNil))) daNil)))) (dCall (sp_law_draw K) pw (daCons (dVar 1) (daCons (dC (.int 3)) daNil)))) (dBin f_ix (dLst (daCons (dC (.int 1)) (daCons (dVar 2) daNil))) (dCall (sp_law_draw K) pw (daCons (dVar 1) (daCons (dC (.int 2)) daNil))))) (daCons (dVar 6) daNil))))) (dSeq (dSet 8 (dLst (daCons (dC (.int 0)) daNil))) (dSeq (dFor (diList (dVar 3)) (dgTup 3 (dgCons (dgName 10) (dgCons (dgName 11) (dgCons (dgName 12) dgNil)))) (dSet 8 (dBin f_add (dVar 8) (dVar 12)))) (dSeq (dFor (diRng1 (daCons (dC (.int 4)) daNil)) (dgName 9) (dSeq (dSet 13 (dBin f_add (dBin f_ix (dVar 8) (dCall (sp_law_draw K) pw (daCons (dVar 1) (daCons (dCB f_len (daCons (dVar 8) daNil)) daNil)))) (dBin f_ix (dLst (daCons (dC (.int 0)) (daCons (dC (.int 1)) (daCons (dBin f_ix (dVar 7) (dC (.int 1))) (daCons (dBin f_add (dBin f_ix (dVar 7) (dC (.int 1))) (dC (.int 1))) (daCons (dBin f_mul (dCall (sp_law_draw K) pw (daCons (dVar 1) (daCons (dC (.int 120)) daNil))) (dVar 2)) daNil)))))) (dCall (sp_law_draw K) pw (daCons (dVar 1) (daCons (dC (.int 5)) daNil)))))) (dSeq (dSet 14 (dCall (sp_law_due K) pw (daCons (dVar 3) (daCons (dVar 4) (daCons (dVar 7) (daCons (dVar 13) daNil)))))) (dSeq (dSet 15 (dCall (sp_law_copy K 5) pw (daCons (dLst (daCons (dVar 3) (daCons (dVar 4) (daCons (dVar 7) daNil)))) daNil))) (dSeq (dSet 16 (dCall (sp_plain_account K) pw (daCons (dBin f_ix (dVar 15) (dC (.int 0))) (daCons (dBin f_ix (dVar 15) (dC (.int 1))) (daCons (dBin f_ix (dVar 15) (dC (.int 2))) (daCons (dVar 13) daNil)))))) (dSeq (dIfS (tOrD (tNotD (dTr (dCall (sp_law_same K 5) pw (daCons (dVar 16) (daCons (dVar 14) daNil))))) (tNotD (dTr (dCall (sp_law_same K 5) pw (daCons (dVar 15) (daCons (dLst (daCons (dVar 3) (daCons (dVar 4) (daCons (dVar 7) daNil)))) daNil)))))) (dRet (dC (.bl false))) dNext) (dAsg (dC (.int 1)) (dgSub (dVar 16) (dTup (daCons (dC (.str "charge")) (daCons (dC (.int 0)) (daCons (dC (.int 0)) daNil)))))))))))) (dRet (dC (.bl true))))))))))))))
theorem der_law {P : Program} {w : World} {K : Fg} {mg : Str → Option Value} {base : Heap} (T : Tx w K mg) (c_law_draws : Cal P w K mg base 1 "_law_draws" (sp_law_draws K)) (c_law_draw : Cal P w K mg base 1 "_law_draw" (sp_law_draw K)) (c_law_turned : Cal P w K mg base 2 "_law_turned" (sp_law_turned K)) (c_law_charges : Cal P w K mg base 2 "_law_charges" (sp_law_charges K)) (c_law_payments : Cal P w K mg base 2 "_law_payments" (sp_law_payments K)) (c_law_due : Cal P w K mg base 3 "_law_due" (sp_law_due K)) (c_law_copy : Cal P w K mg base 5 "_law_copy" (sp_law_copy K 5)) (c_plain_account : Cal P w K mg base 3 "plain_account" (sp_plain_account K)) (c_law_same : Cal P w K mg base 5 "_law_same" (sp_law_same K 5)) : Der P w K mg base ["script", "draws", "scale", "charges", "payments", "rate", "extra", "terms", "days", "turn", "year", "pennies", "row", "today", "due", "handed", "told"] "law" s_law 5 (d_law K) := fun f cdv A outer s H E F pw hr tk hp =>
  have hu := hr.units; have nd := sc_law.nd
  (pds_cons (pds_set 1 nd (pd_call c_law_draws (hr.mono (by decide)) tk (pd_cons (pd_var 0) pd_nil))) (pds_cons (pds_set 2 nd (pd_ix hu (pd_lst (pd_cons pd_int (pd_cons pd_int (pd_cons pd_int (pd_cons pd_int (pd_cons (pd_pow pd_int pd_int) pd_nil)))))) (pd_call c_law_draw (hr.mono (by decide)) tk (pd_cons (pd_var 1) (pd_cons pd_int pd_nil))))) (pds_cons (pds_set 3 nd (pd_call c_law_turned (hr.mono (by decide)) tk (pd_cons (pd_var 1) (pd_cons (pd_call c_law_charges (hr.mono (by decide)) tk (pd_cons (pd_var 1) (pd_cons (pd_var 2) pd_nil))) pd_nil)))) (pds_cons (pds_set 4 nd (pd_call c_law_turned (hr.mono (by decide)) tk (pd_cons (pd_var 1) (pd_cons (pd_call c_law_payments (hr.mono (by decide)) tk (pd_cons (pd_var 1) (pd_cons (pd_var 2) (pd_cons (pd_var 3) pd_nil)))) pd_nil)))) (pds_cons (pds_set 5 nd (pd_ix hu (pd_lst (pd_cons (pd_tup (pd_cons pd_int (pd_cons pd_int pd_nil))) (pd_cons (pd_tup (pd_cons pd_int (pd_cons pd_int pd_nil))) (pd_cons (pd_tup (pd_cons pd_int (pd_cons pd_int pd_nil))) (pd_cons (pd_tup (pd_cons (pd_add pd_int (pd_call c_law_draw (hr.mono (by decide)) tk (pd_cons (pd_var 1) (pd_cons pd_int pd_nil)))) (pd_cons pd_int pd_nil))) (pd_cons (pd_tup (pd_cons pd_int (pd_cons pd_int pd_nil))) pd_nil)))))) (pd_call c_law_draw (hr.mono (by decide)) tk (pd_cons (pd_var 1) (pd_cons pd_int pd_nil))))) (pds_cons (pds_if (ptw (pw_andd (pt_eq hu (pd_ix hu (pd_var 5) pd_int) pd_int) (pw_and1d (pt_eq hu (pd_mod (pd_intc T.b_int (pd_cons (pd_ix hu (pd_var 5) pd_int) pd_nil)) pd_int) pd_int)))) (pds_one (pds_set 5 nd (pd_tup (pd_cons (pd_fdiv (pd_ix hu (pd_var 5) pd_int) pd_int) (pd_cons pd_int pd_nil))))) pds_nil) (pds_cons (pds_set 6 nd (pd_ix hu (pd_lst (pd_cons (pd_tup (pd_cons pd_int (pd_cons pd_int pd_nil))) (pd_cons (pd_tup (pd_cons pd_int (pd_cons pd_int pd_nil))) (pd_cons (pd_tup (pd_cons pd_int (pd_cons pd_int pd_nil))) (pd_cons (pd_tup (pd_cons pd_int (pd_cons pd_int pd_nil))) (pd_cons (pd_tup (pd_cons pd_int (pd_cons pd_int pd_nil))) pd_nil)))))) (pd_call c_law_draw (hr.mono (by decide)) tk (pd_cons (pd_var 1) (pd_cons pd_int pd_nil))))) (pds_cons (pds_set 7 nd (pd_tup (pd_cons (pd_var 5) (pd_cons (pd_mul (pd_ix hu (pd_lst (pd_cons pd_int (pd_cons pd_int (pd_cons (pd_call c_law_draw (hr.mono (by decide)) tk (pd_cons (pd_var 1) (pd_cons pd_int pd_nil))) pd_nil)))) (pd_call c_law_draw (hr.mono (by decide)) tk (pd_cons (pd_var 1) (pd_cons pd_int pd_nil)))) (pd_ix hu (pd_lst (pd_cons pd_int (pd_cons (pd_var 2) pd_nil))) (pd_call c_law_draw (hr.mono (by decide)) tk (pd_cons (pd_var 1) (pd_cons pd_int pd_nil))))) (pd_cons (pd_var 6) pd_nil))))) (pds_cons (pds_set 8 nd (pd_lst (pd_cons pd_int pd_nil))) (pds_cons (pds_for hp rfl (pdi_list (pd_var 3)) (pdg_tup rfl (pdgs_cons (pdg_name 10 nd) (pdgs_cons (pdg_name 11 nd) (pdgs_cons (pdg_name 12 nd) pdgs_nil)))) (pds_one (pds_set 8 nd (pd_add (pd_var 8) (pd_var 12))))) (pds_cons (pds_for hp rfl (pdi_range1 T.b_range (pd_cons pd_int pd_nil)) (pdg_name 9 nd) (pds_cons (pds_set 13 nd (pd_add (pd_ix hu (pd_var 8) (pd_call c_law_draw (hr.mono (by decide)) tk (pd_cons (pd_var 1) (pd_cons (pd_len T.b_len (pd_cons (pd_var 8) pd_nil)) pd_nil)))) (pd_ix hu (pd_lst (pd_cons pd_int (pd_cons pd_int (pd_cons (pd_ix hu (pd_var 7) pd_int) (pd_cons (pd_add (pd_ix hu (pd_var 7) pd_int) pd_int) (pd_cons (pd_mul (pd_call c_law_draw (hr.mono (by decide)) tk (pd_cons (pd_var 1) (pd_cons pd_int pd_nil))) (pd_var 2)) pd_nil)))))) (pd_call c_law_draw (hr.mono (by decide)) tk (pd_cons (pd_var 1) (pd_cons pd_int pd_nil)))))) (pds_cons (pds_set 14 nd (pd_call c_law_due (hr.mono (by decide)) tk (pd_cons (pd_var 3) (pd_cons (pd_var 4) (pd_cons (pd_var 7) (pd_cons (pd_var 13) pd_nil)))))) (pds_cons (pds_set 15 nd (pd_call c_law_copy (hr.mono (by decide)) tk (pd_cons (pd_lst (pd_cons (pd_var 3) (pd_cons (pd_var 4) (pd_cons (pd_var 7) pd_nil)))) pd_nil))) (pds_cons (pds_set 16 nd (pd_call c_plain_account (hr.mono (by decide)) tk (pd_cons (pd_ix hu (pd_var 15) pd_int) (pd_cons (pd_ix hu (pd_var 15) pd_int) (pd_cons (pd_ix hu (pd_var 15) pd_int) (pd_cons (pd_var 13) pd_nil)))))) (pds_cons (pds_if (ptw (pw_ord (pt_notd (pt_vald (pd_call c_law_same (hr.mono (by decide)) tk (pd_cons (pd_var 16) (pd_cons (pd_var 14) pd_nil))))) (pw_or1d (pt_notd (pt_vald (pd_call c_law_same (hr.mono (by decide)) tk (pd_cons (pd_var 15) (pd_cons (pd_lst (pd_cons (pd_var 3) (pd_cons (pd_var 4) (pd_cons (pd_var 7) pd_nil)))) pd_nil)))))))) (pds_one (pds_ret pd_bl)) pds_nil) (pds_one (pds_setitem hu (pd_var 16) (pd_tup (pd_cons pd_str (pd_cons pd_int (pd_cons pd_int pd_nil)))) pd_int)))))))) (pds_one (pds_ret pd_bl)))))))))))))
end K81

namespace K81
open Dl PySem PySem.Spec PyProof.Rows L2
local macro_rules | `(tactic| walk_at "dl") => `(tactic| simp only [dVar, dC, dBin, dUn, dTr, dIf, tAndD, tOrD, tNotD, dAnd, dOr, daNil, daCons, dTup, dLst, dLstC, add_ii, add_ss, add_ll, add_tt, sub_ii, sub_bb, mul_ii, fdiv_ii, mod_ii, pow_ii, shl_ii, neg_i, lt_ii, le_ii, gt_ii, ge_ii, not_b, abs_i, max_ii, min_ii, int_i, int_b, gcd_ii, len_l, len_r, len_t, len_s, len_o, app_o, ty_o, ii_non_int, ii_non_bool, ii_non_str, ii_non_list, ii_non_tuple, ii_non_dict, ii_bl_int, ii_bl_bool, ii_bl_str, ii_bl_list, ii_bl_tuple, ii_bl_dict, ii_int_int, ii_int_bool, ii_int_str, ii_int_list, ii_int_tuple, ii_int_dict, ii_str_int, ii_str_bool, ii_str_str, ii_str_list, ii_str_tuple, ii_str_dict, ii_tup_int, ii_tup_bool, ii_tup_str, ii_tup_list, ii_tup_tuple, ii_tup_dict, ii_lst_int, ii_lst_bool, ii_lst_str, ii_lst_list, ii_lst_tuple, ii_lst_dict, ii_dk_int, ii_dk_bool, ii_dk_str, ii_dk_list, ii_dk_tuple, ii_dk_dict, all_t, list_r, list_l,  dLc, dwipe, dYes, sl_l, sl_r, sl_fl, sl_fr, f_is, Dl.isNon, ix_t0, ix_t1, ix_t2, ix_t3, ix_l0, ix_l1, so_inj, String.reduceEq, shaped_of, ix_num, ix_at, set_at, eq_ii, ne_ii, eq_bb, ne_bb, eq_ss, ne_ss, eq_aa, ne_aa, dSl, doNone, doSome, dNewK, dNewT, dDisp, dFz, dGet2, diKeys, dPairs, pairsK, keyD, dCB, dMt, dMt0, dNext, dSeq, dBrk, dCnt, dDrop, dRet, dRetN, dIfS, dgName, dgTup, dgCons, dgNil, dAsg, dSet, dPar, dPar3, dgSub, dCall, dCall0, sp0_app, sp1_app, sp2_app, sp3_app, sp4_app, sp5_app, sp6_app, dRaise, dEndsN, dFrz, dFor, diList, diRng1, diRng2, diTup, dWhileI, List.set_cons_zero, List.set_cons_succ, List.getElem?_cons_zero, List.getElem?_cons_succ, List.length_cons, List.length_nil, st_same, decide_eq_true_eq, b2i, true_and, dr_0, dr_1, dr_2, dr_3, ds_1, ds_2, ds_3, diMix, or_false, false_or, ii_dt_int, ii_dt_bool, ii_dt_str, ii_dt_list, ii_dt_tuple, ii_dt_dict, dNewT, dDck, dDct,  if_true, if_false, decide_true, decide_false, and_self, eq_self, Bool.not_true, Bool.not_false, Bool.false_eq_true, Bool.true_eq_false])
theorem gcd_div {n d : Int} (h : d ≠ 0) (hd : Sm 4000 d) : DivOk (Nat.gcd n.natAbs d.natAbs : Int) :=
  Sm.cdiv (k := 4000) (hd.le (by rw [Int.natAbs_natCast]; exact Nat.gcd_le_right _ (Int.natAbs_pos.mpr h))) (by exact_mod_cast gcd_pos h)

theorem hs_amount {K : Fg} (Z : Zx K) (a0 a1 : D) (M : Mem) (post : D → Mem → Prop) (pox : DX → Mem → Prop) (h : w_amount K a0 a1 M post pox) : d_amount K (fun x _ M => pox x M) { nx := fun _ M => post .non M, rt := post } [some a0, some a1, none] M := by
  unfold d_amount
  obtain ⟨n, d, rfl, rfl, hn, hd, e0, p1⟩ := h
  walk_at "dl"
  simp only [e0, decide_false, Int.natAbs_neg]
  rw [if_neg (fun z => z)]
  unfold low at p1
  by_cases hs : d < 0
  · rw [if_pos hs]
    rw [if_pos hs] at p1
    exact ⟨gcd_div e0 hd, gcd_div e0 hd, by decide, p1⟩
  · rw [if_neg hs]
    rw [if_neg hs] at p1
    exact ⟨gcd_div e0 hd, gcd_div e0 hd, by decide, p1⟩
theorem hs_times {K : Fg} (Z : Zx K) (a0 a1 : D) (M : Mem) (post : D → Mem → Prop) (pox : DX → Mem → Prop) (h : w_times K a0 a1 M post pox) : d_times K (fun x _ M => pox x M) { nx := fun _ M => post .non M, rt := post } [some a0, some a1] M := by
  unfold d_times
  obtain ⟨n, d, m, e, rfl, rfl, hn, hd, hm, he, pd, pe, h⟩ := h
  walk_at "dl"
  have p := Int.mul_pos pd pe
  exact ⟨hn.cmul hm, hd.cmul he, _, _, rfl, rfl, (hn.mul hm).up (by decide), (hd.mul he).up (by decide), fun z => by omega, h⟩
theorem hs_floor_of {K : Fg} (Z : Zx K) (a0 : D) (M : Mem) (post : D → Mem → Prop) (pox : DX → Mem → Prop) (h : w_floor_of K a0 M post pox) : d_floor_of K (fun x _ M => pox x M) { nx := fun _ M => post .non M, rt := post } [some a0] M := by
  unfold d_floor_of
  obtain ⟨n, d, rfl, p, hd, h⟩ := h
  walk_at "dl"
  exact ⟨hd.cdiv p, h⟩
theorem hs_parts_of_charge {K : Fg} (Z : Zx K) (a0 a1 a2 : D) (M : Mem) (post : D → Mem → Prop) (pox : DX → Mem → Prop) (h : w_parts_of_charge K a0 a1 a2 M post pox) : d_parts_of_charge K (fun x _ M => pox x M) { nx := fun _ M => post .non M, rt := post } [some a0, some a1, some a2, none, none, none] M := by
  unfold d_parts_of_charge
  obtain ⟨y, pn, ds, rfl, rfl, rfl, sp, l0, l1, h⟩ := h
  have big := big24
  walk_at "dl"
  refine ⟨by decide, fun p ep => ⟨by rw [List.length_map]; omega, ?_⟩⟩
  refine dForL_inv (fun i ρ M' => ∃ v5 : Option D, ρ = [some (D.int y), some (D.int pn), some (D.lst (List.map D.int ds)), some (D.int ↑(List.map D.int ds).length), some (D.obj p), v5] ∧ M' = Dl.st M p (.lst (((List.range i).map (partAt y pn ds)).map ptD))) (fun _ _ _ _ => trivial) ?_ ?_ ⟨none, rfl, rfl⟩
  · rintro i d ρ M' hd ⟨v5, rfl, rfl⟩ nx k
    obtain ⟨rfl, hi⟩ := range_item hd
    rw [List.length_map] at hi
    have hi : i < ds.length := by omega
    walk_at "dl"
    refine getD_ix hi ?_
    walk_at "dl"
    have b1 : DivOk ((List.map D.int ds).length : Int) := by rw [List.length_map]; exact Sm.cdiv (k := 10) (by unfold Sm; omega) (by omega)
    refine ⟨sp.cmul (l := 10) (by unfold Sm; omega), b1, sp.cmul (l := 10) (by unfold Sm; omega), b1, by decide, by rw [List.length_map, List.length_map, List.length_range]; omega, k _ _ ⟨_, rfl, ?_⟩⟩
    rw [range_snoc, List.map_append]
    simp only [partAt, ptD, cut1, List.length_map, Int.zero_add, List.map_cons, List.map_nil]
  · rintro ρ M' ⟨v5, rfl, rfl⟩
    walk_at "dl"
    rw [rm_st ep, range_len, List.length_map, show ((ds.length : Int)).toNat = ds.length from by omega]
    exact h
theorem hs_paid_by {K : Fg} (Z : Zx K) (a0 a1 : D) (M : Mem) (post : D → Mem → Prop) (pox : DX → Mem → Prop) (h : w_paid_by K a0 a1 M post pox) : d_paid_by K (fun x _ M => pox x M) { nx := fun _ M => post .non M, rt := post } [some a0, some a1, none, none, none] M := by
  unfold d_paid_by
  obtain ⟨ps, d, rfl, rfl, hl, h⟩ := h
  walk_at "dl"
  refine dLcL_fm ps payD (fun p => decide (p.w ≤ d)) (fun p => .int p.p) trivial (by omega) (fun p hp nx sk h1 h2 => ?_) ?_
  · unfold payD
    walk_at "dl"
    by_cases c : p.w ≤ d
    · rw [if_pos c]; exact h1 (decide_eq_true c)
    · rw [if_neg c]; exact h2 (decide_eq_false c)
  · have e : (ps.filter fun p => decide (p.w ≤ d)).map (fun p => D.int p.p) = ((ps.filter fun p => decide (p.w ≤ d)).map Pay.p).map D.int := by rw [List.map_map]; rfl
    rw [e, sum_ints]
    exact h
theorem hs_due_by {K : Fg} (Z : Zx K) (a0 a1 : D) (M : Mem) (post : D → Mem → Prop) (pox : DX → Mem → Prop) (h : w_due_by K a0 a1 M post pox) : d_due_by K (fun x _ M => pox x M) { nx := fun _ M => post .non M, rt := post } [some a0, some a1, none] M := by
  unfold d_due_by
  obtain ⟨ps, d, rfl, rfl, hl, h⟩ := h
  walk_at "dl"
  refine dLcL_fm ps ptD (fun p => decide (p.d ≤ d)) (fun p => .int p.n) trivial (by omega) (fun p hp nx sk h1 h2 => ?_) ?_
  · unfold ptD
    walk_at "dl"
    by_cases c : p.d ≤ d
    · rw [if_pos c]; exact h1 (decide_eq_true c)
    · rw [if_neg c]; exact h2 (decide_eq_false c)
  · have e : (ps.filter fun p => decide (p.d ≤ d)).map (fun p => D.int p.n) = ((ps.filter fun p => decide (p.d ≤ d)).map Pt.n).map D.int := by rw [List.map_map]; rfl
    rw [e, sum_ints]
    exact h

theorem hs_overdue_days {K : Fg} (Z : Zx K) (a0 a1 a2 : D) (M : Mem) (post : D → Mem → Prop) (pox : DX → Mem → Prop) (h : w_overdue_days K a0 a1 a2 M post pox) : d_overdue_days K (fun x _ M => pox x M) { nx := fun _ M => post .non M, rt := post } [some a0, some a1, some a2, none, none, none, none, none, none, none, none, none, none] M := by
  unfold d_overdue_days
  obtain ⟨rs, ps, t, rfl, rfl, rfl, wr, wp, t0, t1, h⟩ := h
  have big := big24
  have lr := wr.len
  have lp := wp.len
  walk_at "dl"
  refine dDckL_map rs ptD (fun r => .inl r.d) (fun _ => .bl true) trivial (by omega) (fun r hr nx h1 => ?_) ?_
  · unfold ptD; walk_at "dl"; exact h1
  intro a ea
  refine dDckL_map ps payD (fun r => .inl r.w) (fun _ => .bl true) trivial (by omega) (fun r hr nx h1 => ?_) ?_
  · unfold payD; walk_at "dl"; exact h1
  intro b eb
  obtain ⟨ba, eb0⟩ := st_none eb
  have l1 : (dmergeK [] (rs.map fun r => (Sum.inl r.d, D.bl true))).length ≤ rs.length := by
    have := merge_length (rs.map fun r => ((Sum.inl r.d : Key), D.bl true)) []
    simpa using this
  have l2 : (dmergeK [] (ps.map fun r => (Sum.inl r.w, D.bl true))).length ≤ ps.length := by
    have := merge_length (ps.map fun r => ((Sum.inl r.w : Key), D.bl true)) []
    simpa using this
  generalize eA : dmergeK [] (rs.map fun r => (Sum.inl r.d, D.bl true)) = A at *
  generalize eB : dmergeK [] (ps.map fun r => (Sum.inl r.w, D.bl true)) = B at *
  have d1 : dkD (.obj a) (Dl.st (Dl.st M a (.dk A)) b (.dk B)) = some A := by simp [dkD, st_ne (Ne.symm ba), st_same]
  have d2 : dkD (.obj b) (Dl.st (Dl.st M a (.dk A)) b (.dk B)) = some B := by simp [dkD, st_same]
  unfold f_bor
  rw [d1, d2]
  refine ⟨by omega, fun c ec => ?_⟩
  obtain ⟨cb, ec⟩ := st_none ec
  obtain ⟨ca, ec⟩ := st_none ec
  have km : ∀ k, k ∈ (dmergeK A B).map (·.1) ↔ ∃ e, k = .inl e ∧ Ev rs ps e := fun k => by
    rw [merge_mem, ← eA, ← eB, merge_mem, merge_mem]
    constructor
    · rintro ((z | z) | (z | z))
      · cases z
      · obtain ⟨q, hq, rfl⟩ := List.mem_map.mp z
        obtain ⟨r, hr, rfl⟩ := List.mem_map.mp hq
        exact ⟨r.d, rfl, .inl ⟨r, hr, rfl⟩⟩
      · cases z
      · obtain ⟨q, hq, rfl⟩ := List.mem_map.mp z
        obtain ⟨r, hr, rfl⟩ := List.mem_map.mp hq
        exact ⟨r.w, rfl, .inr ⟨r, hr, rfl⟩⟩
    · rintro ⟨e, rfl, he⟩
      rcases he with ⟨r, hr, rfl⟩ | ⟨r, hr, rfl⟩
      · exact .inl (.inr (List.mem_map.mpr ⟨_, List.mem_map.mpr ⟨r, hr, rfl⟩, rfl⟩))
      · exact .inr (.inr (List.mem_map.mpr ⟨_, List.mem_map.mpr ⟨r, hr, rfl⟩, rfl⟩))
  obtain ⟨ks, eks⟩ := intKs_all (ks := (dmergeK A B).map (·.1)) fun k hk => let ⟨e, he, _⟩ := (km k).mp hk; ⟨e, he⟩
  have ek := intKs_ok eks
  have lk : ks.length < 64 := by
    have e1 := congrArg List.length ek
    rw [List.length_map, List.length_map] at e1
    have := merge_length B A
    omega
  refine ⟨dmergeK A B, ks, by simp [dkD, st_same], eks, lk, fun ys hp hs => ?_⟩
  have hm : ∀ e, e ∈ ys ↔ Ev rs ps e := fun e => by
    rw [hp.mem_iff]
    have : e ∈ ks ↔ (Sum.inl e : Key) ∈ ks.map Sum.inl := by
      rw [List.mem_map]
      exact ⟨fun z => ⟨e, z, rfl⟩, fun ⟨x, hx, ex⟩ => by cases ex; exact hx⟩
    rw [this, ← ek, km]
    exact ⟨fun ⟨x, hx, h⟩ => by cases hx; exact h, fun h => ⟨e, rfl, h⟩⟩
  have ly : ys.length < 64 := by rw [hp.length_eq]; exact lk
  walk_at "dl"
  refine dLcL_fm ys D.int (fun d => decide (d < t)) D.int trivial (by omega) (fun r hr nx sk h1 h2 => ?_) ?_
  · walk_at "dl"
    by_cases c : r < t
    · rw [if_pos c]; exact h1 (decide_eq_true c)
    · rw [if_neg c]; exact h2 (decide_eq_false c)
  try walk_at "dl"
  generalize eds : ys.filter (fun d => decide (d < t)) = ds
  have hd : ∀ e, e ∈ ds ↔ Ev rs ps e ∧ e < t := fun e => by rw [← eds, List.mem_filter, hm, decide_eq_true_eq]
  have ld : ds.length < 64 := by rw [← eds]; exact Nat.lt_of_le_of_lt (List.length_filter_le _ _) ly
  have fin := sum_prog (rs := rs) (ps := ps) (ds := ds) (t := t) t0 (by rw [← eds]; exact hs.filter _) (fun d h => ⟨(ev_day wr wp ((hd d).mp h).1).1, ((hd d).mp h).2⟩) (fun e he hl => (hd e).mpr ⟨he, hl⟩) (fun d h => ((hd d).mp h).1)
  refine ⟨by rw [List.length_map]; omega, ?_⟩
  refine dForL_inv (fun i ρ M' => ∃ v5 v6 v7 v8 v9 v10 v11 v12 : Option D, ρ = [some (.lst (rs.map ptD)), some (.lst (ps.map payD)), some (.int t), some (.lst (ds.map D.int)), some (.int (sumR (fun j => openF rs ps (ds.getD j 0) * (stopP ds t (j + 1) - ds.getD j 0)) i)), v5, v6, v7, v8, v9, v10, v11, v12] ∧ Keeps M M') (fun _ _ _ _ => trivial) ?_ ?_ ⟨_, _, _, _, _, _, _, _, rfl, ((Keeps.new ea).trans (Keeps.new (c := .dk B) eb)).trans (Keeps.new (by rw [st_ne cb, st_ne ca]; exact ec))⟩
  · rintro i d ρ M' hd' ⟨v5, v6, v7, v8, v9, v10, v11, v12, rfl, ke⟩ nx k
    obtain ⟨rfl, hi⟩ := range_item hd'
    rw [List.length_map] at hi
    have hi : i < ds.length := by omega
    rw [sumR_succ] at k
    have fit : ∀ j (hj : j < ds.length), 0 ≤ ds[j] ∧ ds[j] < 2 ^ 60 := fun j hj => ev_day wr wp ((hd _).mp (List.getElem_mem hj)).1
    have f1 := fit i hi
    have g1 := getI hi
    walk_at "dl"
    by_cases c2 : i + 1 < ds.length
    · rw [if_pos (by rw [List.length_map]; omega)]
      have ei : (0 + (i : Int) + 1) = (0 + ((i + 1 : Nat) : Int)) := by omega
      rw [ei]
      refine getD_ix c2 ?_
      have ee : stopP ds t (i + 1) = ds.getD (i + 1) 0 := if_pos c2
      have g2 := getI c2
      have f2 := fit (i + 1) c2
      refine getD_ix hi ⟨rs, _, rfl, rfl, by omega, getD_ix hi ⟨ps, _, rfl, rfl, by omega, ?_⟩⟩
      walk_at "dl"
      by_cases co : 0 < dueBy rs (ds.getD i 0) - paidBy ps (ds.getD i 0)
      · rw [if_pos co]
        refine getD_ix hi ?_
        walk_at "dl"
        have eo : openF rs ps (ds.getD i 0) = dueBy rs (ds.getD i 0) - paidBy ps (ds.getD i 0) := if_pos co
        have o := open_sm wr wp (ds.getD i 0)
        rw [eo] at o
        rw [eo, ee] at k
        refine ⟨o.cmul (l := 64) (sm_abs 64 (by rw [g1, g2]; omega)), k _ _ ⟨_, _, _, _, _, _, _, _, rfl, ke⟩⟩
      · rw [if_neg co]
        have eo : openF rs ps (ds.getD i 0) = 0 := if_neg co
        rw [eo, Int.zero_mul, Int.add_zero] at k
        exact k _ _ ⟨_, _, _, _, _, _, _, _, rfl, ke⟩
    · rw [if_neg (by rw [List.length_map]; omega)]
      have ee : stopP ds t (i + 1) = t := if_neg c2
      refine getD_ix hi ⟨rs, _, rfl, rfl, by omega, getD_ix hi ⟨ps, _, rfl, rfl, by omega, ?_⟩⟩
      walk_at "dl"
      by_cases co : 0 < dueBy rs (ds.getD i 0) - paidBy ps (ds.getD i 0)
      · rw [if_pos co]
        refine getD_ix hi ?_
        walk_at "dl"
        have eo : openF rs ps (ds.getD i 0) = dueBy rs (ds.getD i 0) - paidBy ps (ds.getD i 0) := if_pos co
        have o := open_sm wr wp (ds.getD i 0)
        rw [eo] at o
        rw [eo, ee] at k
        refine ⟨o.cmul (l := 64) (sm_abs 64 (by rw [g1]; omega)), k _ _ ⟨_, _, _, _, _, _, _, _, rfl, ke⟩⟩
      · rw [if_neg co]
        have eo : openF rs ps (ds.getD i 0) = 0 := if_neg co
        rw [eo, Int.zero_mul, Int.add_zero] at k
        exact k _ _ ⟨_, _, _, _, _, _, _, _, rfl, ke⟩
  · rintro ρ M' ⟨v5, v6, v7, v8, v9, v10, v11, v12, rfl, ke⟩
    walk_at "dl"
    rw [range_len, List.length_map, show ((ds.length : Int)).toNat = ds.length from by omega, show sumR _ _ = _ from fin]
    exact h M' ke
theorem take_ix {α : Type} (f : α → D) (xs : List α) (i : Nat) : cutD (xs.map f) none (some (0 + (i : Int) + 1)) = (xs.take (i + 1)).map f := by
  have e : (0 + (i : Int) + 1) = ((i + 1 : Nat) : Int) := by omega
  rw [e, cut_to, List.map_take]
theorem ix_row {rs : List Pt} {i : Nat} (hi : i < rs.length) {M : Mem} {Q : D → Mem → Prop} (q : Q (ptD (rs.getD i default)) M) : f_ix (.lst (rs.map ptD)) (.int (0 + (i : Int))) M Q := by
  refine ix_lg (d := ptD (rs.getD i default)) ?_ |>.symm ▸ q
  rw [List.getElem?_map, List.getElem?_eq_getElem hi, List.getD_eq_getElem?_getD, List.getElem?_eq_getElem hi]; rfl

theorem hs_left_of {K : Fg} (Z : Zx K) (a0 a1 a2 a3 : D) (M : Mem) (post : D → Mem → Prop) (pox : DX → Mem → Prop) (h : w_left_of K a0 a1 a2 a3 M post pox) : d_left_of K (fun x _ M => pox x M) { nx := fun _ M => post .non M, rt := post } [some a0, some a1, some a2, some a3, none, none, none] M := by
  unfold d_left_of
  obtain ⟨rs, ps, i, day, rfl, rfl, rfl, rfl, hi, hl, hp, h⟩ := h
  walk_at "dl"
  rw [take_ix]
  refine dLcL_fm (rs.take (i + 1)) ptD (fun p => decide (p.n > 0)) (fun p => .int p.n) trivial (by rw [List.length_take]; omega) (fun p hp nx sk h1 h2 => ?_) ?_
  · unfold ptD
    walk_at "dl"
    by_cases c : 0 < p.n
    · rw [if_pos c]; exact h1 (decide_eq_true c)
    · rw [if_neg c]; exact h2 (decide_eq_false c)
  · have e : ((rs.take (i + 1)).filter fun p => decide (p.n > 0)).map (fun p => D.int p.n) = (((rs.take (i + 1)).filter fun p => decide (p.n > 0)).map Pt.n).map D.int := by rw [List.map_map]; rfl
    rw [e, sum_ints]
    refine ⟨ps, day, rfl, rfl, by omega, ?_⟩
    refine dLcL_fm rs ptD (fun p => decide (p.n < 0) && decide (p.d ≤ day)) (fun p => .int p.n) trivial (by omega) (fun p hp nx sk h1 h2 => ?_) ?_
    · unfold ptD
      walk_at "dl"
      by_cases c : p.n < 0
      · simp only [c, if_true]
        by_cases c2 : p.d ≤ day
        · rw [if_pos c2]; exact h1 (by simp [c, c2])
        · rw [if_neg c2]; exact h2 (by simp [c2])
      · simp only [c, if_false]
        exact h2 (by simp [c])
    · have e2 : (rs.filter fun p => decide (p.n < 0) && decide (p.d ≤ day)).map (fun p => D.int p.n) = ((rs.filter fun p => decide (p.n < 0) && decide (p.d ≤ day)).map Pt.n).map D.int := by rw [List.map_map]; rfl
      rw [e2, sum_ints]
      walk_at "dl"
      refine ix_row hi ?_
      unfold ptD
      walk_at "dl"
      unfold leftP max0 minI posS negS at h
      exact h
theorem keyT_kk (kd : Str) (a b : Int) : keyT (.tup [.str kd, .int a, .int b]) = some (kk kd a b) := rfl
theorem listD_o {M : Mem} {p : Addr} {l : List D} : listD (.obj p) (Dl.st M p (.lst l)) = some l := by simp [listD, st_same]
theorem fold_le (rs : List Pt) (ps : List Pay) (t : Tm) (today : Int) (n i : Nat) : ((((List.range n).take i)).foldl (rowUp rs ps t today) []).length ≤ 2 * n := by
  rw [List.take_range]
  exact Nat.le_trans (rows_bk rs ps t today (min i n)).sz (by omega)
theorem row_get {n i : Nat} (h : i < (List.range n).length) : (List.range n)[i] = i := List.getElem_range h
theorem tm_ext (t : Tm) : tmD t = .tup [.tup [.int t.r0, .int t.r1], .int t.g, .tup [.int t.e0, .int t.e1]] := rfl

theorem hs_plain_account {K : Fg} (Z : Zx K) (a0 a1 a2 a3 : D) (M : Mem) (post : D → Mem → Prop) (pox : DX → Mem → Prop) (h : w_plain_account K a0 a1 a2 a3 M post pox) : d_plain_account K (fun x _ M => pox x M) { nx := fun _ M => post .non M, rt := post } [some a0, some a1, some a2, some a3, none, none, none, none, none, none, none, none, none, none, none, none, none, none] M := by
  unfold d_plain_account
  obtain ⟨cs, ps, tm, t, rfl, rfl, rfl, rfl, wc, wp, wt, t0, t1, h⟩ := h
  have big := big24
  have lc := wc.len
  have lp := wp.len
  have w := wc.sorted
  have lw := w.len
  rw [tm_ext]
  walk_at "dl"
  refine ⟨by decide, fun p ep => ?_⟩
  refine dForL_fold cs chD (fun s ρ M' => ∃ v6 v10 v11 v12 v13 v14 v15 v16 v17 : Option D, ρ = [some (.lst (cs.map chD)), some (.lst (ps.map payD)), some (.tup [.tup [.int tm.r0, .int tm.r1], .int tm.g, .tup [.int tm.e0, .int tm.e1]]), some (.int t), some (.obj p), none, v6, some (.tup [.int tm.r0, .int tm.r1]), some (.int tm.g), some (.tup [.int tm.e0, .int tm.e1]), v10, v11, v12, v13, v14, v15, v16, v17] ∧ M' = Dl.st M p (.lst (s.map ptD)) ∧ s.length ≤ 1000000) (fun s c => s ++ partsOf c.y c.pn c.ds) ([] : List Pt) (fun _ _ _ _ => trivial) ?_ ?_ ⟨_, _, _, _, _, _, _, _, _, rfl, rfl, Nat.zero_le _⟩
  · rintro i hi ρ M' ⟨v6, v10, v11, v12, v13, v14, v15, v16, v17, rfl, rfl, hl⟩ nx k
    have hc := wc.each _ (List.getElem_mem hi)
    rw [foldl_app] at hl k
    rw [foldl_app]
    generalize cs[i] = c at *
    generalize eS : [] ++ (cs.take i).flatMap (fun c => partsOf c.y c.pn c.ds) = S at *
    have lS : S.length ≤ 48 := by
      have : S = allP (cs.take i) := by rw [← eS]; rfl
      rw [this]
      have w2 : Wc (cs.take i) := ⟨by rw [List.length_take]; omega, fun c hc => wc.each c (List.mem_of_mem_take hc)⟩
      exact w2.rows.len
    rw [show chD c = .tup [.int c.y, .int c.pn, .lst (c.ds.map D.int)] from rfl]
    walk_at "dl"
    refine ⟨c.y, c.pn, c.ds, rfl, rfl, rfl, hc.2.2.1.up (by decide), hc.1, by omega, ?_⟩
    have lpo : (partsOf c.y c.pn c.ds).length = c.ds.length := by unfold partsOf; rw [List.length_map, List.length_range]
    simp only [f_extend, st_same, st_st]
    refine ⟨by rw [List.length_map, List.length_map, lpo]; omega, k _ _ ⟨_, _, _, _, _, _, _, _, _, rfl, by rw [List.map_append], by rw [List.length_append, lpo]; omega⟩⟩
  · rintro ρ M' ⟨v6, v10, v11, v12, v13, v14, v15, v16, v17, rfl, rfl, hl⟩
    rw [foldl_app, show [] ++ cs.flatMap (fun c => partsOf c.y c.pn c.ds) = allP cs from rfl]
    walk_at "dl"
    refine sortP listD_o ?_
    generalize eR : srtP (allP cs) = rs at *
    walk_at "dl"
    intro q eq
    refine ⟨by rw [List.length_map]; omega, ?_⟩
    have a0 : Acc M (Dl.st (Dl.st M p (.lst ((allP cs).map ptD))) q (.dt [])) q [] := ⟨st_same, (Keeps.new ep).trans (Keeps.new eq), (st_none eq).2⟩
    rw [show rangeD 0 ((rs.map ptD).length : Int).toNat = (List.range rs.length).map (fun i : Nat => D.int (0 + (i : Int))) from by rw [List.length_map]; rfl]
    refine dForL_fold (List.range rs.length) (fun i : Nat => D.int (0 + (i : Int))) (fun s ρ M' => ∃ v6 v10 v11 v12 v13 v14 v15 v16 v17 : Option D, ρ = [some (.lst (cs.map chD)), some (.lst (ps.map payD)), some (.tup [.tup [.int tm.r0, .int tm.r1], .int tm.g, .tup [.int tm.e0, .int tm.e1]]), some (.int t), some (.lst (rs.map ptD)), some (.obj q), v6, some (.tup [.int tm.r0, .int tm.r1]), some (.int tm.g), some (.tup [.int tm.e0, .int tm.e1]), v10, v11, v12, v13, v14, v15, v16, v17] ∧ Acc M M' q s) (rowUp rs ps tm t) [] (fun _ _ _ _ => trivial) ?_ ?_ ⟨_, _, _, _, _, _, _, _, _, rfl, a0⟩
    · rintro i hi ρ M' ⟨v6, v10, v11, v12, v13, v14, v15, v16, v17, rfl, ac⟩ nx k
      rw [row_get] at k ⊢
      rw [List.length_range] at hi
      have fl := fold_le rs ps tm t rs.length i
      generalize ((List.range rs.length).take i).foldl (rowUp rs ps tm t) [] = s at *
      walk_at "dl"
      refine ix_row hi ?_
      have sm := left_sm (ps := ps) w hi
      unfold rowUp at k
      generalize rs.getD i default = r at *
      rw [show ptD r = .tup [.int r.d, .int r.y, .int r.a, .int r.n] from rfl]
      walk_at "dl"
      refine ⟨by decide, ac.set (keyT_kk _ _ _) (by omega) fun M2 a2 => ?_⟩
      by_cases c1 : 0 < r.n
      · simp only [c1, if_true]
        by_cases c2 : r.d + tm.g < t
        · simp only [c2, if_true]
          rw [if_pos ⟨c1, c2⟩] at k
          refine ⟨rs, ps, i, _, rfl, rfl, rfl, rfl, hi, by omega, by omega, ?_⟩
          try walk_at "dl"
          have l3 := sm (r.d + tm.g)
          have dd : Sm 1000 tm.e1 := wt.e1.up (by decide)
          have lw0 := low_of (n := tm.e0 * leftP rs ps i (r.d + tm.g)) (d := tm.e1 * 1) (by have := wt.pe; omega)
          obtain ⟨g, _, _, L⟩ := lw0
          have ld := (low_dvd (n := tm.e0 * leftP rs ps i (r.d + tm.g)) (d := tm.e1 * 1) (by have := wt.pe; omega)).2
          refine ⟨by decide, tm.e0, tm.e1, leftP rs ps i (r.d + tm.g), 1, rfl, rfl, wt.e0.up (by decide), dd, l3.up (by decide), .lit (by decide), wt.pe, by decide, _, _, rfl, L.pos, ?_, ?_⟩
          · rw [Int.mul_one] at ld ⊢
            exact (wt.e1.le ld).up (by decide)
          · rw [low_floor (by have := wt.pe; omega), Int.mul_one]
            have l4 : (dput s (kk "charge" r.y r.a) (D.int r.n)).length ≤ s.length + 1 := dput_len
            refine ⟨by decide, a2.set (keyT_kk _ _ _) (by omega) fun M3 a3 => k _ _ ⟨_, _, _, _, _, _, _, _, _, rfl, a3⟩⟩
        · simp only [c2, if_false]
          rw [if_neg fun z => c2 z.2] at k
          exact k _ _ ⟨_, _, _, _, _, _, _, _, _, rfl, a2⟩
      · simp only [c1, if_false]
        rw [if_neg fun z => c1 z.1] at k
        exact k _ _ ⟨_, _, _, _, _, _, _, _, _, rfl, a2⟩
    · rintro ρ M' ⟨v6, v10, v11, v12, v13, v14, v15, v16, v17, rfl, ac⟩
      have fl := fold_le rs ps tm t rs.length rs.length
      rw [List.take_of_length_le (by rw [List.length_range]; exact Nat.le_refl _)] at fl
      generalize eF : (List.range rs.length).foldl (rowUp rs ps tm t) [] = s at *
      walk_at "dl"
      refine ⟨rs, ps, t, rfl, rfl, rfl, w, wp, t0, t1, fun M2 k2 => ?_⟩
      have a2 := ac.keeps k2
      have li := integ_sm w wp t1
      have ld := (low_dvd (n := tm.r0 * integ rs ps t) (d := tm.r1 * 1) (by have := wt.pr; omega)).2
      obtain ⟨g, _, _, L⟩ := low_of (n := tm.r0 * integ rs ps t) (d := tm.r1 * 1) (by have := wt.pr; omega)
      walk_at "dl"
      refine ⟨by decide, tm.r0, tm.r1, _, 1, rfl, rfl, wt.r0.up (by decide), wt.r1.up (by decide), li.up (by decide), .lit (by decide), wt.pr, by decide, _, _, rfl, L.pos, ?_, ?_⟩
      · rw [Int.mul_one] at ld ⊢
        exact (wt.r1.le ld).up (by decide)
      rw [low_floor (by have := wt.pr; omega), Int.mul_one]
      try walk_at "dl"
      refine ⟨by decide, a2.set (keyT_kk _ _ _) (by omega) fun M3 a3 => ?_⟩
      have l4 : (dput s (kk "interest" 0 0) (D.int (tm.r0 * integ rs ps t / tm.r1))).length ≤ s.length + 1 := dput_len
      have fin : acct cs ps tm t = ps.foldl payUp (dput s (kk "interest" 0 0) (D.int (tm.r0 * integ rs ps t / tm.r1))) := by
        unfold acct acctR
        rw [eR, eF]
      rw [fin] at h
      generalize dput s (kk "interest" 0 0) (D.int (tm.r0 * integ rs ps t / tm.r1)) = s2 at *
      have l5 : ∀ i, ((ps.take i).foldl payUp s2).length ≤ s2.length + 8 := fun i => by
        have key : ∀ (l : List Pay) (s : Bk), (l.foldl payUp s).length ≤ s.length + l.length := fun l => by
          induction l with
          | nil => intro s; exact Nat.le_refl _
          | cons p l ih =>
            intro s
            have := ih (payUp s p)
            have h2 : (payUp s p).length ≤ s.length + 1 := dput_len
            rw [List.foldl_cons, List.length_cons]; omega
        have := key (ps.take i) s2
        rw [List.length_take] at this
        omega
      refine dForL_fold ps payD (fun s ρ M' => ∃ v6 v10 v11 v12 v13 v14 v15 v16 v17 : Option D, ρ = [some (.lst (cs.map chD)), some (.lst (ps.map payD)), some (.tup [.tup [.int tm.r0, .int tm.r1], .int tm.g, .tup [.int tm.e0, .int tm.e1]]), some (.int t), some (.lst (rs.map ptD)), some (.obj q), v6, some (.tup [.int tm.r0, .int tm.r1]), some (.int tm.g), some (.tup [.int tm.e0, .int tm.e1]), v10, v11, v12, v13, v14, v15, v16, v17] ∧ Acc M M' q s) payUp s2 (fun _ _ _ _ => trivial) ?_ ?_ ⟨_, _, _, _, _, _, _, _, _, rfl, a3⟩
      · rintro i hi ρ M' ⟨v6, v10, v11, v12, v13, v14, v15, v16, v17, rfl, ac⟩ nx k
        have l6 := l5 i
        generalize (ps.take i).foldl payUp s2 = s at *
        generalize ps[i] = c at *
        rw [show payD c = .tup [.int c.n, .int c.w, .int c.p] from rfl]
        walk_at "dl"
        refine ⟨by decide, ac.set (keyT_kk _ _ _) (by omega) fun M3 a3 => k _ _ ⟨_, _, _, _, _, _, _, _, _, rfl, a3⟩⟩
      · rintro ρ M' ⟨v6, v10, v11, v12, v13, v14, v15, v16, v17, rfl, ac⟩
        walk_at "dl"
        exact h M' q ac.fr ac.at_ ac.ke
theorem hs_law_draws {K : Fg} (Z : Zx K) (a0 : D) (M : Mem) (post : D → Mem → Prop) (pox : DX → Mem → Prop) (h : w_law_draws K a0 M post pox) : d_law_draws K (fun x _ M => pox x M) { nx := fun _ M => post .non M, rt := post } [some a0] M := by
  unfold d_law_draws
  obtain ⟨ns, rfl, h⟩ := h
  walk_at "dl"
  exact ⟨by decide, h⟩
theorem hs_law_draw {K : Fg} (Z : Zx K) (a0 a1 : D) (M : Mem) (post : D → Mem → Prop) (pox : DX → Mem → Prop) (h : w_law_draw K a0 a1 M post pox) : d_law_draw K (fun x _ M => pox x M) { nx := fun _ M => post .non M, rt := post } [some a0, some a1, none, none] M := by
  unfold d_law_draw
  obtain ⟨p, m, rfl, rfl, ⟨ns, a, b, c, e, ha, hc⟩, pm, sm, h⟩ := h
  rw [← st_get e]
  refine dSeq_inv (fun ρ M' => ∃ (ns : List Int) (a b c : Int) (v2 v3 : Option D), ρ = [some (.obj p), some (.int m), v2, v3] ∧ M' = Dl.st M p (drC ns a b c) ∧ 0 ≤ a ∧ Sm 40 c) (fun nx k => ?_) ?_
  · walk_at "dl"
    by_cases b0 : b = 0
    · by_cases la : a < ((ns.map D.int).length : Int)
      · simp only [b0, la, if_true]
        refine ix_ints ha (by rw [List.length_map] at la; exact la) fun v _ => ?_
        walk_at "dl"
        refine ⟨⟨by decide, by decide, by decide⟩, ?_⟩
        have fin : ∀ z : Int, Sm 40 (z % 2147483647) := fun z => by unfold Sm; omega
        by_cases hv : 10 ^ Int.toNat 18 ≤ v
        · simp only [hv, if_true]
          exact ⟨hc.cmul (.lit (k := 20) (by decide)), by decide, k _ _ ⟨_, _, _, _, _, _, rfl, rfl, by omega, fin _⟩⟩
        · simp only [hv, if_false]
          exact ⟨hc.cmul (.lit (k := 20) (by decide)), by decide, k _ _ ⟨_, _, _, _, _, _, rfl, rfl, by omega, fin _⟩⟩
      · simp only [b0, la, if_true, if_false]
        exact k _ _ ⟨_, _, _, _, _, _, rfl, rfl, ha, hc⟩
    · simp only [b0, if_false]
      exact k _ _ ⟨_, _, _, _, _, _, rfl, rfl, ha, hc⟩
  · rintro ρ M' ⟨ns, a, b, c, v2, v3, rfl, rfl, ha, hc⟩
    walk_at "dl"
    by_cases hb : 0 < b
    · simp only [hb, if_true]
      exact ⟨pm, sm.cdiv pm, h _ _ ⟨_, _, _, _, rfl, ha, hc⟩ (Int.emod_nonneg _ (by omega)) (Int.emod_lt_of_pos _ pm)⟩
    · simp only [hb, if_false]
      exact ⟨hc.cmul (.lit (k := 20) (by decide)), by decide, ⟨by decide, by decide⟩, pm, h _ _ ⟨_, _, _, _, rfl, ha, by unfold Sm; omega⟩ (Int.emod_nonneg _ (by omega)) (Int.emod_lt_of_pos _ pm)⟩
theorem same_loop {K : Fg} {n : Nat} {x y : D} {ds : List D} {M : Mem} {post : D → Mem → Prop} (hx : x = .tup ds ∨ x = .lst ds ∨ ∃ p, x = .obj p ∧ M p = some (.lst ds)) (hy : y = .tup ds ∨ y = .lst ds ∨ ∃ p, y = .obj p ∧ M p = some (.lst ds)) (hl : ds.length ≤ 1000) (hp : ∀ d ∈ ds, Pl n d) (h : post (.bl true) M) :
    dLcL (dgName 4) dYes (dCall (sp_law_same K n) dw0 (daCons (dBin f_ix (dVar 0) (dVar 4)) (daCons (dBin f_ix (dVar 1) (dVar 4)) daNil))) [4] (fun x => True) [some x, some y, some (.bl true), none, none] (fun acc M2 => f_all [D.lst acc] M2 post) (rangeD 0 ((ds.length : Int)).toNat) [] M := by
  refine dLcL_by (fun i acc M' => M' = M ∧ acc = List.replicate i (.bl true)) (fun _ _ _ _ => trivial) ?_ ?_ ⟨rfl, rfl⟩
  · rintro i d acc M' e ⟨rfl, rfl⟩ nx k
    obtain ⟨rfl, hi⟩ := range_item e
    have hi2 : i < ds.length := by omega
    have eg := List.getElem?_eq_getElem hi2
    have hix : ∀ x : D, (x = .tup ds ∨ x = .lst ds ∨ ∃ p, x = .obj p ∧ M' p = some (.lst ds)) → ∀ Q : D → Mem → Prop, f_ix x (.int (0 + (i : Int))) M' Q = Q ds[i] M' := fun x hx Q => by
      rcases hx with rfl | rfl | ⟨p, rfl, ep⟩
      · exact ix_tg eg
      · exact ix_lg eg
      · have := ix_lg (M := M') (Q := Q) eg
        simp only [f_ix, seqD, listD, ep] at this ⊢
        exact this
    walk_at "dl"
    rw [hix x hx]
    rw [hix y hy]
    have b := big24
    refine ⟨.inl rfl, hp _ (List.getElem_mem hi2), by rw [List.length_replicate]; omega, k _ _ ⟨rfl, ?_⟩⟩
    rw [List.replicate_succ']
  · rintro acc M' ⟨rfl, rfl⟩
    rw [all_t]
    exact h

theorem hs_law_same {K : Fg} (Z : Zx K) (n : Nat) (a0 a1 : D) (M : Mem) (post : D → Mem → Prop) (pox : DX → Mem → Prop) (h : w_law_same K (n + 1) a0 a1 M post pox) : d_law_same K n (fun x _ M => pox x M) { nx := fun _ M => post .non M, rt := post } [some a0, some a1, none, none, none] M := by
  unfold d_law_same
  obtain ⟨hx, hp, h⟩ := h
  rcases hx with rfl | ⟨p, ds, rfl, rfl, ep⟩ | ⟨p, kvs, rfl, rfl, ep⟩
  case inr.inr =>
    have l := hp.1
    have b := big24
    have e1 : ∀ Q : D → Mem → Prop, f_isi [.obj p, .ty "dict"] M Q = Q (.bl true) M := fun Q => by
      have h1 : isI "dict" "dict" = true := by decide
      have h2 : "dict" ∈ tys := by decide
      simp [f_isi, tyD, ep, h1, h2]
    have e2 : ∀ Q : D → Mem → Prop, f_len [.obj p] M Q = Q (.int kvs.length) M := fun Q => by simp [f_len, seqD, listD, dictLen, ep]
    walk_at "dl"
    rw [e1]
    dsimp only
    rw [if_neg (by simp), e2]
    have ln : ∀ Q : D → Mem → Prop, f_len [.dt kvs] M Q = Q (.int kvs.length) M := fun Q => rfl
    rw [ln, ne_ii]
    dsimp only
    rw [if_neg (by simp)]
    refine dLcL_by (fun i acc M' => M' = M ∧ acc = List.replicate i (.bl true)) (fun _ _ _ _ => trivial) ?_ ?_ ⟨rfl, rfl⟩
    · rintro i d acc M' e ⟨rfl, rfl⟩ nx k
      obtain ⟨q, hq, e2, rfl⟩ := map_item e
      obtain ⟨hi, rfl⟩ := List.getElem?_eq_some_iff.mp e2
      walk_at "dl"
      have hin : ∀ Q : D → Mem → Prop, f_in false (kT kvs[i].1) (.obj p) M' Q = Q (.bl true) M' := fun Q => by
        have h1 : seqD (.obj p) M' = none := by simp [seqD, listD, ep]
        have h2 : dlook (.obj p) (kT kvs[i].1) M' = some (some kvs[i].2) := by simp only [dlook, ep, keyT_kT, Option.map_some, dget_at hp.2.1 hi]
        unfold kT at *
        simp only [f_in, h1, h2]
        rfl
      rw [hin]
      exact ⟨by rw [List.length_replicate]; omega, k _ _ ⟨rfl, by rw [List.replicate_succ']⟩⟩
    · rintro acc M' ⟨rfl, rfl⟩
      rw [all_t]
      dsimp only
      rw [if_neg (by simp)]
      refine dLcL_by (fun i acc M'' => M'' = M' ∧ acc = List.replicate i (.bl true)) (fun _ _ _ _ => trivial) ?_ ?_ ⟨rfl, rfl⟩
      · rintro i d acc M'' e ⟨rfl, rfl⟩ nx k
        obtain ⟨q, hq, e2, rfl⟩ := map_item e
        obtain ⟨hi, rfl⟩ := List.getElem?_eq_some_iff.mp e2
        walk_at "dl"
        have hix : ∀ Q : D → Mem → Prop, f_ix (.obj p) (kT kvs[i].1) M'' Q = Q kvs[i].2 M'' := fun Q => by
          have h1 : seqD (.obj p) M'' = none := by simp [seqD, listD, ep]
          have h2 : dlook (.obj p) (kT kvs[i].1) M'' = some (some kvs[i].2) := by simp only [dlook, ep, keyT_kT, Option.map_some, dget_at hp.2.1 hi]
          unfold kT at *
          simp only [f_ix, h2]
        rw [hix]
        refine ix_dt (dget_at hp.2.1 hi) ?_
        exact ⟨.inl rfl, hp.2.2 _ (List.getElem_mem hi), by rw [List.length_replicate]; omega, k _ _ ⟨rfl, by rw [List.replicate_succ']⟩⟩
      · rintro acc M'' ⟨rfl, rfl⟩
        rw [all_t]
        exact h
  case inr.inl =>
    have l := hp.1
    have e1 : ∀ Q : D → Mem → Prop, f_isi [.obj p, .ty "list"] M Q = Q (.bl true) M := fun Q => by
      have h1 : isI "list" "list" = true := by decide
      have h2 : "list" ∈ tys := by decide
      simp [f_isi, tyD, ep, h1, h2]
    have e2 : ∀ Q : D → Mem → Prop, f_len [.obj p] M Q = Q (.int ds.length) M := fun Q => by simp [f_len, seqD, listD, ep]
    walk_at "dl"
    rw [e1]
    dsimp only
    rw [if_pos rfl, e2]
    walk_at "dl"
    exact ⟨⟨by omega, by omega⟩, same_loop (.inr (.inr ⟨p, rfl, ep⟩)) (.inr (.inl rfl)) hp.1 hp.2 h⟩
  cases a0 with
  | non => walk_at "dl"; exact h
  | bl b =>
    walk_at "dl"
    have e : (b == b) = true := by cases b <;> rfl
    rw [e]
    exact h
  | int i =>
    walk_at "dl"
    exact h
  | str z =>
    walk_at "dl"
    exact ⟨Gs.shaped hp, Gs.shaped hp, h⟩
  | tup ds =>
    walk_at "dl"
    have l := hp.1
    exact ⟨⟨by omega, by omega⟩, same_loop (.inl rfl) (.inl rfl) hp.1 hp.2 h⟩
  | lst ds =>
    walk_at "dl"
    have l := hp.1
    exact ⟨⟨by omega, by omega⟩, same_loop (.inr (.inl rfl)) (.inr (.inl rfl)) hp.1 hp.2 h⟩
  | dt kvs =>
    walk_at "dl"
    have l := hp.1
    have b := big24
    have ln : ∀ Q : D → Mem → Prop, f_len [.dt kvs] M Q = Q (.int kvs.length) M := fun Q => rfl
    rw [ln, ln, ne_ii]
    dsimp only
    rw [if_neg (by simp)]
    refine dLcL_by (fun i acc M' => M' = M ∧ acc = List.replicate i (.bl true)) (fun _ _ _ _ => trivial) ?_ ?_ ⟨rfl, rfl⟩
    · rintro i d acc M' e ⟨rfl, rfl⟩ nx k
      obtain ⟨q, hq, e2, rfl⟩ := map_item e
      obtain ⟨hi, rfl⟩ := List.getElem?_eq_some_iff.mp e2
      walk_at "dl"
      have hin : ∀ Q : D → Mem → Prop, f_in false (kT kvs[i].1) (.dt kvs) M' Q = Q (.bl true) M' := fun Q => by
        have h1 : seqD (.dt kvs) M' = none := rfl
        have h2 : dlook (.dt kvs) (kT kvs[i].1) M' = some (some kvs[i].2) := by simp only [dlook, keyT_kT, Option.map_some, dget_at hp.2.1 hi]
        unfold kT at *
        simp only [f_in, h1, h2]
        rfl
      rw [hin]
      exact ⟨by rw [List.length_replicate]; omega, k _ _ ⟨rfl, by rw [List.replicate_succ']⟩⟩
    · rintro acc M' ⟨rfl, rfl⟩
      rw [all_t]
      dsimp only
      rw [if_neg (by simp)]
      refine dLcL_by (fun i acc M'' => M'' = M' ∧ acc = List.replicate i (.bl true)) (fun _ _ _ _ => trivial) ?_ ?_ ⟨rfl, rfl⟩
      · rintro i d acc M'' e ⟨rfl, rfl⟩ nx k
        obtain ⟨q, hq, e2, rfl⟩ := map_item e
        obtain ⟨hi, rfl⟩ := List.getElem?_eq_some_iff.mp e2
        walk_at "dl"
        refine ix_dt (dget_at hp.2.1 hi) (ix_dt (dget_at hp.2.1 hi) ?_)
        exact ⟨.inl rfl, hp.2.2 _ (List.getElem_mem hi), by rw [List.length_replicate]; omega, k _ _ ⟨rfl, by rw [List.replicate_succ']⟩⟩
      · rintro acc M'' ⟨rfl, rfl⟩
        rw [all_t]
        exact h
  | _ => exact hp.elim
theorem hs_law_copy {K : Fg} (Z : Zx K) (n : Nat) (a0 : D) (M : Mem) (post : D → Mem → Prop) (pox : DX → Mem → Prop) (h : w_law_copy K (n + 1) a0 M post pox) : d_law_copy K n (fun x _ M => pox x M) { nx := fun _ M => post .non M, rt := post } [some a0, none, none, none] M := by
  unfold d_law_copy
  obtain ⟨pl, h⟩ := h
  have b := big24
  have lc : ∀ (ds : List D) (x0 : D) (f : D → Mem → Prop), ds.length ≤ 1000 → (∀ d ∈ ds, Pl n d) → f (.lst ds) M →
      dLcL (dgName 3) dYes (dCall (sp_law_copy K n) dw0 (daCons (dVar 3) daNil)) [3] (fun x => True) [some x0, none, none, none] (fun acc M2 => f (D.lst acc) M2) ds [] M := by
    intro ds x0 f hl hp hf
    refine dLcL_by (fun i acc M' => M' = M ∧ acc = ds.take i) (fun _ _ _ _ => trivial) ?_ ?_ ⟨rfl, rfl⟩
    · rintro i d acc M' e ⟨rfl, rfl⟩ nx k
      obtain ⟨hi, rfl⟩ := List.getElem?_eq_some_iff.mp e
      walk_at "dl"
      exact ⟨hp _ (List.getElem_mem hi), by rw [List.length_take]; omega, k _ _ ⟨rfl, by rw [List.take_succ_eq_append_getElem hi]⟩⟩
    · rintro acc M' ⟨rfl, rfl⟩
      rw [List.take_length]; exact hf
  cases a0 with
  | lst ds =>
    walk_at "dl"
    exact lc ds _ post pl.1 pl.2 h
  | tup ds =>
    walk_at "dl"
    refine lc ds _ (fun x M2 => f_tuple [x] M2 _) pl.1 pl.2 ?_
    simp only [f_tuple, seqD0, seqD, listD]
    exact h
  | dt kvs =>
    walk_at "dl"
    intro p ep
    refine dForL_inv (fun i ρ M' => ∃ v2 v3 : Option D, ρ = [some (D.dt kvs), some (.obj p), v2, v3] ∧ M' = Dl.st M p (.dt (kvs.take i))) (fun _ _ _ _ => trivial) ?_ ?_ ⟨none, none, rfl, rfl⟩
    · rintro i d ρ M' e ⟨v2, v3, rfl, rfl⟩ nx k
      obtain ⟨q, hq, e2, rfl⟩ := map_item e
      obtain ⟨hi, rfl⟩ := List.getElem?_eq_some_iff.mp e2
      walk_at "dl"
      refine ix_dt (dget_at pl.2.1 hi) ⟨pl.2.2 _ (List.getElem_mem hi), ?_⟩
      simp only [f_set, st_same, keyT_kT, st_st]
      have p1 := pl.1
      refine ⟨by rw [List.length_take]; omega, k _ _ ⟨_, _, rfl, ?_⟩⟩
      rw [dput_next pl.2.1 hi]
    · rintro ρ M' ⟨v2, v3, rfl, rfl⟩
      walk_at "dl"
      rw [rm_st ep, List.length_map, List.take_length]
      exact h
  | non => walk_at "dl"; exact h
  | bl b => walk_at "dl"; exact h
  | int i => walk_at "dl"; exact h
  | str i => walk_at "dl"; exact h
  | _ => cases pl
theorem hs_law_parts {K : Fg} (Z : Zx K) (a0 : D) (M : Mem) (post : D → Mem → Prop) (pox : DX → Mem → Prop) (h : w_law_parts K a0 M post pox) : d_law_parts K (fun x _ M => pox x M) { nx := fun _ M => post .non M, rt := post } [some a0, none, none, none, none, none, none, none] M := by
  unfold d_law_parts
  obtain ⟨cs, rfl, wc, h⟩ := h
  have big := big24
  have lc := wc.len
  walk_at "dl"
  refine ⟨by decide, fun p ep => ?_⟩
  refine dForL_fold cs chD (fun s ρ M' => ∃ v2 v3 v4 v5 v6 v7 : Option D, ρ = [some (.lst (cs.map chD)), some (.obj p), v2, v3, v4, v5, v6, v7] ∧ M' = Dl.st M p (.lst (s.map ptD))) (fun s c => s ++ partsOf c.y c.pn c.ds) ([] : List Pt) (fun _ _ _ _ => trivial) ?_ ?_ ⟨_, _, _, _, _, _, rfl, rfl⟩
  · rintro i hi ρ M' ⟨v2, v3, v4, v5, v6, v7, rfl, rfl⟩ nx k
    have hc := wc.each _ (List.getElem_mem hi)
    rw [foldl_app] at k
    rw [foldl_app]
    generalize cs[i] = c at *
    generalize eS : [] ++ (cs.take i).flatMap (fun c => partsOf c.y c.pn c.ds) = S at *
    have lS : S.length ≤ 48 := by
      have : S = allP (cs.take i) := by rw [← eS]; rfl
      rw [this]
      have w2 : Wc (cs.take i) := ⟨by rw [List.length_take]; omega, fun c hc => wc.each c (List.mem_of_mem_take hc)⟩
      exact w2.rows.len
    rw [show chD c = .tup [.int c.y, .int c.pn, .lst (c.ds.map D.int)] from rfl]
    walk_at "dl"
    refine ⟨by rw [List.length_map]; omega, ?_⟩
    refine dForL_inv (fun j ρ M' => ∃ v6 v7 : Option D, ρ = [some (.lst (cs.map chD)), some (.obj p), some (.int c.y), some (.int c.pn), some (.lst (c.ds.map D.int)), some (.int (c.pn * (j : Int) / (c.ds.length : Int))), v6, v7] ∧ M' = Dl.st M p (.lst ((S ++ (List.range j).map (partAt c.y c.pn c.ds)).map ptD))) (fun _ _ _ _ => trivial) ?_ ?_ ⟨v6, v7, by simp, by simp⟩
    · rintro j d ρ M' hd ⟨v6, v7, rfl, rfl⟩ nx k
      obtain ⟨rfl, hj⟩ := range_item hd
      rw [List.length_map] at hj
      have hj : j < c.ds.length := by omega
      walk_at "dl"
      have b1 : DivOk ((List.map D.int c.ds).length : Int) := by rw [List.length_map]; exact Sm.cdiv (k := 10) (by unfold Sm; omega) (by omega)
      refine ⟨hc.2.2.1.cmul (l := 10) (by unfold Sm; omega), b1, getD_ix hj ?_⟩
      walk_at "dl"
      have e : (c.pn * (0 + (j : Int) + 1) / ((List.map D.int c.ds).length : Int)) = c.pn * ((j + 1 : Nat) : Int) / (c.ds.length : Int) := by rw [List.length_map, Int.zero_add]; rfl
      rw [e]
      refine ⟨by decide, ?_, k _ _ ⟨_, _, rfl, ?_⟩⟩
      · rw [List.length_map, List.length_append, List.length_map, List.length_range]; omega
      · rw [range_snoc, ← List.append_assoc, List.map_append (l₁ := S ++ _), Int.zero_add]
        rfl
    · rintro ρ M' ⟨v6, v7, rfl, rfl⟩
      rw [range_len, List.length_map, show ((c.ds.length : Int)).toNat = c.ds.length from by omega]
      exact k _ _ ⟨_, _, _, _, _, _, rfl, rfl⟩
  · rintro ρ M' ⟨v2, v3, v4, v5, v6, v7, rfl, rfl⟩
    rw [foldl_app, show [] ++ cs.flatMap (fun c => partsOf c.y c.pn c.ds) = allP cs from rfl]
    walk_at "dl"
    exact sortP listD_o (h _ (Keeps.new ep))
theorem hs_law_open {K : Fg} (Z : Zx K) (a0 a1 a2 : D) (M : Mem) (post : D → Mem → Prop) (pox : DX → Mem → Prop) (h : w_law_open K a0 a1 a2 M post pox) : d_law_open K (fun x _ M => pox x M) { nx := fun _ M => post .non M, rt := post } [some a0, some a1, some a2, none, none, none, none] M := by
  unfold d_law_open
  obtain ⟨rs, ps, d, rfl, rfl, rfl, hr, hp, h⟩ := h
  walk_at "dl"
  refine dLcL_fm rs ptD (fun p => decide (p.d ≤ d)) (fun p => .int p.n) trivial (by omega) (fun p hp nx sk h1 h2 => ?_) ?_
  · unfold ptD
    walk_at "dl"
    by_cases c : p.d ≤ d
    · rw [if_pos c]; exact h1 (decide_eq_true c)
    · rw [if_neg c]; exact h2 (decide_eq_false c)
  · have e : (rs.filter fun p => decide (p.d ≤ d)).map (fun p => D.int p.n) = ((rs.filter fun p => decide (p.d ≤ d)).map Pt.n).map D.int := by rw [List.map_map]; rfl
    rw [e, sum_ints]
    refine dLcL_fm ps payD (fun p => decide (p.w ≤ d)) (fun p => .int p.p) trivial (by omega) (fun p hp nx sk h1 h2 => ?_) ?_
    · unfold payD
      walk_at "dl"
      by_cases c : p.w ≤ d
      · rw [if_pos c]; exact h1 (decide_eq_true c)
      · rw [if_neg c]; exact h2 (decide_eq_false c)
    · have e : (ps.filter fun p => decide (p.w ≤ d)).map (fun p => D.int p.p) = ((ps.filter fun p => decide (p.w ≤ d)).map Pay.p).map D.int := by rw [List.map_map]; rfl
      rw [e, sum_ints]
      walk_at "dl"
      exact h
theorem ev_mem {rs : List Pt} {ps : List Pay} {e : Int} : Ev rs ps e ↔ e ∈ rs.map Pt.d ++ ps.map Pay.w := by
  unfold Ev
  simp only [List.mem_append, List.mem_map]

theorem hs_law_counted {K : Fg} (Z : Zx K) (a0 a1 a2 : D) (M : Mem) (post : D → Mem → Prop) (pox : DX → Mem → Prop) (h : w_law_counted K a0 a1 a2 M post pox) : d_law_counted K (fun x _ M => pox x M) { nx := fun _ M => post .non M, rt := post } [some a0, some a1, some a2, none, none, none, none, none, none, none, none] M := by
  unfold d_law_counted
  obtain ⟨rs, ps, t, rfl, rfl, rfl, wr, wp, t0, t1, h⟩ := h
  have big := big24
  have lr := wr.len
  have lp := wp.len
  walk_at "dl"
  by_cases c : t ≤ 300
  · rw [if_pos c]
    refine ⟨by omega, ?_⟩
    refine dLcL_map (List.range t.toNat) (fun i : Nat => D.int (0 + (i : Int))) (fun i : Nat => .int (openF rs ps (i : Int))) trivial (by rw [List.length_range]; omega) (fun i hi nx h1 => ?_) ?_
    · walk_at "dl"
      refine ⟨rs, ps, _, rfl, rfl, rfl, by omega, by omega, ?_⟩
      walk_at "dl"
      rw [Int.zero_add]
      exact h1
    · have e : (List.range t.toNat).map (fun i : Nat => D.int (openF rs ps (i : Int))) = ((List.range t.toNat).map (fun i : Nat => openF rs ps (i : Int))).map D.int := by rw [List.map_map]; rfl
      rw [e, sum_ints]
      exact h
  · rw [if_neg c]
    refine dLcL_map rs ptD (fun r => .int r.d) trivial (by omega) (fun r hr nx h1 => ?_) ?_
    · unfold ptD; walk_at "dl"; exact h1
    refine dLcL_map ps payD (fun r => .int r.w) trivial (by omega) (fun r hr nx h1 => ?_) ?_
    · unfold payD; walk_at "dl"; exact h1
    try walk_at "dl"
    refine ⟨by rw [List.length_map, List.length_map]; omega, by decide, by rw [List.length_append, List.length_map, List.length_map]; simp; omega, ?_⟩
    have e : rs.map (fun r => D.int r.d) ++ ps.map (fun r => D.int r.w) ++ [D.int t] = ((rs.map Pt.d ++ ps.map Pay.w) ++ [t]).map D.int := by simp [List.map_append, List.map_map, Function.comp_def]
    rw [e]
    refine ⟨_, rfl, fun ss hp hs => ?_⟩
    have hm : ∀ e, e ∈ ss ↔ Ev rs ps e ∨ e = t := fun e => by
      rw [hp.mem_iff, List.mem_append, ← ev_mem, List.mem_singleton]
    have ls : ss.length = rs.length + ps.length + 1 := by rw [hp.length_eq]; simp; omega
    walk_at "dl"
    have fin := sum_law (rs := rs) (ps := ps) hs (fun d hd => ((hm d).mp hd).elim (fun z => (ev_day wr wp z).1) fun z => z ▸ t0) (fun e he => (hm e).mpr (.inl he)) ((hm t).mpr (.inr rfl))
    refine ⟨by rw [List.length_map]; omega, ?_⟩
    refine dForL_inv (fun i ρ M' => ∃ v5 v6 v7 v8 v9 v10 : Option D, ρ = [some (.lst (rs.map ptD)), some (.lst (ps.map payD)), some (.int t), some (.lst (ss.map D.int)), some (.int (sumR (fun j => if ss.getD j 0 < t then openF rs ps (ss.getD j 0) * (minI t (ss.getD (j + 1) 0) - ss.getD j 0) else 0) i)), v5, v6, v7, v8, v9, v10] ∧ M' = M) (fun _ _ _ _ => trivial) ?_ ?_ ⟨_, _, _, _, _, _, rfl, rfl⟩
    · rintro i d ρ M' hd ⟨v5, v6, v7, v8, v9, v10, rfl, rfl⟩ nx k
      obtain ⟨rfl, hi⟩ := range_item hd
      rw [List.length_map] at hi
      have hi : i + 1 < ss.length := by omega
      have gi : ss.getD i 0 = ss[i] := getI (by omega)
      have gi2 : ss.getD (i + 1) 0 = ss[i + 1] := getI hi
      have fit : ∀ j (hj : j < ss.length), 0 ≤ ss[j] ∧ ss[j] < 2 ^ 62 := fun j hj => ((hm _).mp (List.getElem_mem hj)).elim (fun z => by have := ev_day wr wp z; omega) fun z => by omega
      have f1 := fit i (by omega)
      have f2 := fit (i + 1) hi
      walk_at "dl"
      refine getD_ix (by omega) ?_
      walk_at "dl"
      rw [sumR_succ] at k
      by_cases cl : ss.getD i 0 < t
      · rw [if_pos cl]
        refine getD_ix (by omega) ⟨rs, ps, _, rfl, rfl, rfl, by omega, by omega, ?_⟩
        walk_at "dl"
        have ei : (0 + (i : Int) + 1) = (0 + ((i + 1 : Nat) : Int)) := by omega
        rw [ei]
        refine getD_ix hi ?_
        walk_at "dl"
        refine getD_ix (by omega) ?_
        walk_at "dl"
        have e9 : openF rs ps (ss.getD i 0) * (minI t (ss.getD (i + 1) 0) - ss.getD i 0) = (if dueBy rs (ss.getD i 0) - paidBy ps (ss.getD i 0) > 0 then dueBy rs (ss.getD i 0) - paidBy ps (ss.getD i 0) else 0) * ((if ss.getD (i + 1) 0 < t then ss.getD (i + 1) 0 else t) - ss.getD i 0) := rfl
        simp only [if_pos cl, e9] at k
        refine ⟨?_, k _ _ ⟨_, _, _, _, _, _, rfl, rfl⟩⟩
        have o := open_sm wr wp (ss.getD i 0)
        refine Sm.cmul (k := 61) (l := 64) o (sm_abs 64 ?_)
        rw [gi, gi2]
        split <;> omega
      · rw [if_neg cl]
        simp only [if_neg cl, Int.add_zero] at k
        exact k _ _ ⟨_, _, _, _, _, _, rfl, rfl⟩
    · rintro ρ M' ⟨v5, v6, v7, v8, v9, v10, rfl, rfl⟩
      walk_at "dl"
      rw [range_len, List.length_map, show ((ss.length : Int) - 1).toNat = ss.length - 1 from by omega, show sumR _ _ = _ from fin]
      exact h
theorem hs_law_left {K : Fg} (Z : Zx K) (a0 a1 a2 a3 : D) (M : Mem) (post : D → Mem → Prop) (pox : DX → Mem → Prop) (h : w_law_left K a0 a1 a2 a3 M post pox) : d_law_left K (fun x _ M => pox x M) { nx := fun _ M => post .non M, rt := post } [some a0, some a1, some a2, some a3, none, none, none, none, none, none, none] M := by
  unfold d_law_left
  obtain ⟨rs, ps, i, day, rfl, rfl, rfl, rfl, hi, hl, hp, pos, h⟩ := h
  walk_at "dl"
  refine dLcL_fm ps payD (fun p => decide (p.w ≤ day)) (fun p => .int p.p) trivial (by omega) (fun p hp nx sk h1 h2 => ?_) ?_
  · unfold payD
    walk_at "dl"
    by_cases c : p.w ≤ day
    · rw [if_pos c]; exact h1 (decide_eq_true c)
    · rw [if_neg c]; exact h2 (decide_eq_false c)
  · have e : (ps.filter fun p => decide (p.w ≤ day)).map (fun p => D.int p.p) = ((ps.filter fun p => decide (p.w ≤ day)).map Pay.p).map D.int := by rw [List.map_map]; rfl
    rw [e, sum_ints]
    try walk_at "dl"
    refine dLcL_fm rs ptD (fun p => decide (p.n < 0) && decide (p.d ≤ day)) (fun p => .int (0 - p.n)) trivial (by omega) (fun p hp nx sk h1 h2 => ?_) ?_
    · unfold ptD
      walk_at "dl"
      by_cases c : p.n < 0
      · simp only [c, if_true]
        by_cases c2 : p.d ≤ day
        · rw [if_pos c2]; exact h1 (by simp [c, c2])
        · rw [if_neg c2]; exact h2 (by simp [c2])
      · simp only [c, if_false]
        exact h2 (by simp [c])
    · have e2 : (rs.filter fun p => decide (p.n < 0) && decide (p.d ≤ day)).map (fun p => D.int (0 - p.n)) = ((rs.filter fun p => decide (p.n < 0) && decide (p.d ≤ day)).map fun r => 0 - r.n).map D.int := by rw [List.map_map]; rfl
      rw [e2, sum_ints]
      walk_at "dl"
      rw [take_ix]
      have fin := left_law (ps := ps) (day := day) hi pos
      refine dForL_fold (rs.take (i + 1)) ptD (fun s ρ M' => ∃ v6 v7 v8 v9 v10 : Option D, ρ = [some (.lst (rs.map ptD)), some (.lst (ps.map payD)), some (.int (0 + (i : Int))), some (.int day), some (.int s.1), some (.int s.2), v6, v7, v8, v9, v10] ∧ M' = M) lstep (max0 (paidBy ps day + ((rs.filter fun r => decide (r.n < 0) && decide (r.d ≤ day)).map fun r => 0 - r.n).sum), 0) (fun _ _ _ _ => trivial) ?_ ?_ ⟨_, _, _, _, _, rfl, rfl⟩
      · rintro j hj ρ M' ⟨v6, v7, v8, v9, v10, rfl, rfl⟩ nx k
        generalize (rs.take (i + 1))[j] = r at *
        generalize ((rs.take (i + 1)).take j).foldl lstep _ = s at *
        rw [show ptD r = .tup [.int r.d, .int r.y, .int r.a, .int r.n] from rfl]
        walk_at "dl"
        by_cases c : 0 < r.n
        · rw [if_pos c]
          have e3 : lstep s r = (s.1 - (if r.n < s.1 then r.n else s.1), r.n - (if r.n < s.1 then r.n else s.1)) := by unfold lstep minI; rw [if_pos c]
          rw [e3] at k
          exact k _ _ ⟨_, _, _, _, _, rfl, rfl⟩
        · rw [if_neg c]
          have e3 : lstep s r = s := by unfold lstep; rw [if_neg c]
          rw [e3] at k
          exact k _ _ ⟨_, _, _, _, _, rfl, rfl⟩
      · rintro ρ M' ⟨v6, v7, v8, v9, v10, rfl, rfl⟩
        walk_at "dl"
        rw [fin]
        exact h

theorem hs_law_due {K : Fg} (Z : Zx K) (a0 a1 a2 a3 : D) (M : Mem) (post : D → Mem → Prop) (pox : DX → Mem → Prop) (h : w_law_due K a0 a1 a2 a3 M post pox) : d_law_due K (fun x _ M => pox x M) { nx := fun _ M => post .non M, rt := post } [some a0, some a1, some a2, some a3, none, none, none, none, none, none, none, none, none, none, none, none] M := by
  unfold d_law_due
  obtain ⟨cs, ps, tm, t, rfl, rfl, rfl, rfl, wc, wp, wt, t0, t1, h⟩ := h
  have big := big24
  have lc := wc.len
  have lp := wp.len
  have w := wc.sorted
  have lw := w.len
  rw [tm_ext]
  walk_at "dl"
  refine ⟨cs, rfl, wc, fun M1 k1 => ?_⟩
  generalize eR : srtP (allP cs) = rs at *
  walk_at "dl"
  intro q eq
  refine ⟨by rw [List.length_map]; omega, ?_⟩
  have fr : M q = none := by
    cases z : M q with
    | none => rfl
    | some c =>
      have := k1 q (by rw [z]; exact nofun)
      rw [eq, z] at this; cases this
  have a0 : Acc M (Dl.st M1 q (.dt [])) q [] := ⟨st_same, k1.trans (Keeps.new eq), fr⟩
  rw [show rangeD 0 ((rs.map ptD).length : Int).toNat = (List.range rs.length).map (fun i : Nat => D.int (0 + (i : Int))) from by rw [List.length_map]; rfl]
  refine dForL_fold (List.range rs.length) (fun i : Nat => D.int (0 + (i : Int))) (fun s ρ M' => ∃ v6 v10 v11 v12 v13 v14 v15 : Option D, ρ = [some (.lst (cs.map chD)), some (.lst (ps.map payD)), some (.tup [.tup [.int tm.r0, .int tm.r1], .int tm.g, .tup [.int tm.e0, .int tm.e1]]), some (.int t), some (.lst (rs.map ptD)), some (.obj q), v6, some (.tup [.int tm.r0, .int tm.r1]), some (.int tm.g), some (.tup [.int tm.e0, .int tm.e1]), v10, v11, v12, v13, v14, v15] ∧ Acc M M' q s) (rowUp rs ps tm t) [] (fun _ _ _ _ => trivial) ?_ ?_ ⟨_, _, _, _, _, _, _, rfl, a0⟩
  · rintro i hi ρ M' ⟨v6, v10, v11, v12, v13, v14, v15, rfl, ac⟩ nx k
    rw [row_get] at k ⊢
    rw [List.length_range] at hi
    have fl := fold_le rs ps tm t rs.length i
    generalize ((List.range rs.length).take i).foldl (rowUp rs ps tm t) [] = s at *
    walk_at "dl"
    refine ix_row hi ?_
    have sm := left_sm (ps := ps) w hi
    unfold rowUp at k
    generalize er : rs.getD i default = r at *
    rw [show ptD r = .tup [.int r.d, .int r.y, .int r.a, .int r.n] from rfl]
    walk_at "dl"
    refine ⟨by decide, ac.set (keyT_kk _ _ _) (by omega) fun M2 a2 => ?_⟩
    by_cases c1 : 0 < r.n
    · simp only [c1, if_true]
      by_cases c2 : r.d + tm.g < t
      · simp only [c2, if_true]
        rw [if_pos ⟨c1, c2⟩] at k
        refine ⟨rs, ps, i, _, rfl, rfl, rfl, rfl, hi, by omega, by omega, by rw [er]; exact c1, ?_⟩
        try walk_at "dl"
        have l3 := sm (r.d + tm.g)
        have l4 : (dput s (kk "charge" r.y r.a) (D.int r.n)).length ≤ s.length + 1 := dput_len
        exact ⟨wt.e0.cmul l3, wt.e1.cdiv wt.pe, by decide, a2.set (keyT_kk _ _ _) (by omega) fun M3 a3 => k _ _ ⟨_, _, _, _, _, _, _, rfl, a3⟩⟩
      · simp only [c2, if_false]
        rw [if_neg fun z => c2 z.2] at k
        exact k _ _ ⟨_, _, _, _, _, _, _, rfl, a2⟩
    · simp only [c1, if_false]
      rw [if_neg fun z => c1 z.1] at k
      exact k _ _ ⟨_, _, _, _, _, _, _, rfl, a2⟩
  · rintro ρ M' ⟨v6, v10, v11, v12, v13, v14, v15, rfl, ac⟩
    have fl := fold_le rs ps tm t rs.length rs.length
    rw [List.take_of_length_le (by rw [List.length_range]; exact Nat.le_refl _)] at fl
    generalize eF : (List.range rs.length).foldl (rowUp rs ps tm t) [] = s at *
    walk_at "dl"
    refine ⟨rs, ps, t, rfl, rfl, rfl, w, wp, t0, t1, ?_⟩
    have li := integ_sm w wp t1
    walk_at "dl"
    refine ⟨wt.r0.cmul li, wt.r1.cdiv wt.pr, by decide, ac.set (keyT_kk _ _ _) (by omega) fun M3 a3 => ?_⟩
    have l4 : (dput s (kk "interest" 0 0) (D.int (tm.r0 * integ rs ps t / tm.r1))).length ≤ s.length + 1 := dput_len
    have fin : acct cs ps tm t = ps.foldl payUp (dput s (kk "interest" 0 0) (D.int (tm.r0 * integ rs ps t / tm.r1))) := by
      unfold acct acctR
      rw [eR, eF]
    rw [fin] at h
    generalize dput s (kk "interest" 0 0) (D.int (tm.r0 * integ rs ps t / tm.r1)) = s2 at *
    have l5 : ∀ i, ((ps.take i).foldl payUp s2).length ≤ s2.length + 8 := fun i => by
      have key : ∀ (l : List Pay) (s : Bk), (l.foldl payUp s).length ≤ s.length + l.length := fun l => by
        induction l with
        | nil => intro s; exact Nat.le_refl _
        | cons p l ih =>
          intro s
          have := ih (payUp s p)
          have h2 : (payUp s p).length ≤ s.length + 1 := dput_len
          rw [List.foldl_cons, List.length_cons]; omega
      have := key (ps.take i) s2
      rw [List.length_take] at this
      omega
    refine dForL_fold ps payD (fun s ρ M' => ∃ v6 v10 v11 v12 v13 v14 v15 : Option D, ρ = [some (.lst (cs.map chD)), some (.lst (ps.map payD)), some (.tup [.tup [.int tm.r0, .int tm.r1], .int tm.g, .tup [.int tm.e0, .int tm.e1]]), some (.int t), some (.lst (rs.map ptD)), some (.obj q), v6, some (.tup [.int tm.r0, .int tm.r1]), some (.int tm.g), some (.tup [.int tm.e0, .int tm.e1]), v10, v11, v12, v13, v14, v15] ∧ Acc M M' q s) payUp s2 (fun _ _ _ _ => trivial) ?_ ?_ ⟨_, _, _, _, _, _, _, rfl, a3⟩
    · rintro i hi ρ M' ⟨v6, v10, v11, v12, v13, v14, v15, rfl, ac⟩ nx k
      have l6 := l5 i
      generalize (ps.take i).foldl payUp s2 = s at *
      generalize ps[i] = c at *
      rw [show payD c = .tup [.int c.n, .int c.w, .int c.p] from rfl]
      walk_at "dl"
      rw [show (0 - c.p) = -c.p from by omega]
      refine ⟨by decide, ac.set (keyT_kk _ _ _) (by omega) fun M3 a3 => k _ _ ⟨_, _, _, _, _, _, _, rfl, a3⟩⟩
    · rintro ρ M' ⟨v6, v10, v11, v12, v13, v14, v15, rfl, ac⟩
      walk_at "dl"
      rw [ac.at_]
      exact h _ (ac.ke.rm ac.fr)
theorem tabd {K : Fg} {p : Addr} {M : Mem} {Q : D → Mem → Prop} {E : DX → Mem → Prop} (ns : List Int) {n : Int} (dr : Dr M p) (e : n = ns.length) (hn : 0 < ns.length ∧ ns.length < 1000) (q : ∀ M' v, AdvD M M' p → v ∈ ns → Q (.int v) M') :
    w_law_draw K (.obj p) (.int n) M (fun y M2 => f_ix (.lst (ns.map D.int)) y M2 Q) E := by
  subst e
  refine ⟨p, _, rfl, rfl, dr, by omega, Sm.up (k := 10) (by unfold Sm; omega) (by decide), fun M' r a r0 r1 => ?_⟩
  exact ix_ints r0 r1 fun v hv => q M' v a hv
theorem dr_none {M : Mem} {p q : Addr} (d : Dr M p) (e : M q = none) : q ≠ p := dr_there d e

theorem hs_law_charges {K : Fg} (Z : Zx K) (a0 a1 : D) (M : Mem) (post : D → Mem → Prop) (pox : DX → Mem → Prop) (h : w_law_charges K a0 a1 M post pox) : d_law_charges K (fun x _ M => pox x M) { nx := fun _ M => post .non M, rt := post } [some a0, some a1, none, none, none, none, none, none, none] M := by
  unfold d_law_charges
  obtain ⟨p, s, rfl, rfl, dr, s0, s1, h⟩ := h
  have big := big24
  walk_at "dl"
  refine ⟨by decide, fun q eq => ?_⟩
  have nq : q ≠ p := dr_there dr eq
  refine ⟨p, 5, rfl, rfl, dr_over dr nq, by decide, .lit (by decide), fun M0 r a0 r0 r1 => ⟨by omega, ?_⟩⟩
  obtain ⟨N0, b0, rfl⟩ := adv_under a0 nq
  have nN0 : N0 q = none := adv_none b0 nq eq
  refine dForL_inv (fun i ρ M' => ∃ (v3 v4 v5 v6 v7 v8 : Option D) (N' : Mem) (cs : List Ch), ρ = [some (.obj p), some (.int s), some (.obj q), v3, v4, v5, v6, v7, v8] ∧ M' = Dl.st N' q (.lst (cs.map chD)) ∧ cs.length = i ∧ AdvD N0 N' p ∧ ∀ c ∈ cs, 0 < c.ds.length ∧ c.ds.length ≤ 12 ∧ Sm 40 c.pn ∧ ∀ d ∈ c.ds, 0 ≤ d ∧ d < 2 ^ 59) (fun _ _ _ _ => trivial) ?_ ?_ ⟨_, _, _, _, _, _, N0, [], rfl, rfl, rfl, Dr.refl b0.dr, fun _ h => (List.not_mem_nil h).elim⟩
  · rintro i d ρ M' hd ⟨v3, v4, v5, v6, v7, v8, N', cs, rfl, rfl, lc, ad, ok⟩ nx k
    obtain ⟨rfl, hi⟩ := range_item hd
    have nN' : N' q = none := adv_none ad nq nN0
    walk_at "dl"
    refine ⟨by decide, tabd [1, 4, 12] (dr_over ad.dr nq) rfl (by decide) fun M1 u a1 hu => ?_⟩
    have pu : 0 < u ∧ u ≤ 12 := by
      simp only [List.mem_cons, List.not_mem_nil, or_false] at hu
      omega
    refine ⟨p, u, rfl, rfl, a1.dr, pu.1, (sm_mul u 64 (by omega)).up (by decide), fun M2 m a2 m0 m1 => ?_⟩
    refine ⟨p, 30, rfl, rfl, a2.dr, by decide, .lit (by decide), fun M3 d0 a3 d0a d0b => ?_⟩
    obtain ⟨N3, a13, rfl⟩ := adv_under ((a1.trans a2).trans a3) nq
    have nN3 : N3 q = none := adv_none a13 nq nN'
    walk_at "dl"
    have hs : Sm 50 s := sm_mul s 50 (by omega)
    refine ⟨(sm_mul d0 50 (by omega)).cmul hs, by decide, fun qd eqd => ?_⟩
    obtain ⟨dq, eqd'⟩ := st_none eqd
    have dp : qd ≠ p := dr_there a13.dr eqd'
    refine ⟨by omega, ?_⟩
    have bd : ∀ x y : Int, 0 ≤ x → x ≤ y → 0 ≤ x * s ∧ x * s ≤ y * 10 ^ 12 := fun x y hx hy => by
      refine ⟨Int.mul_nonneg hx s0, ?_⟩
      have h1 := Int.mul_le_mul_of_nonneg_right hy s0
      have h2 := Int.mul_le_mul_of_nonneg_left s1 (show 0 ≤ y by omega)
      omega
    have bd0 := bd d0 29 d0a (by omega)
    refine dForL_inv (fun j ρ M' => ∃ (v6 : Option D) (N' : Mem) (ds : List Int) (l : Int), ρ = [some (.obj p), some (.int s), some (.obj q), some (.int (0 + (i : Int))), some (.int (1 + m)), some (.obj qd), v6, v7, v8] ∧ M' = Dl.st (Dl.st N' q (.lst (cs.map chD))) qd (.lst (ds.map D.int ++ [.int l])) ∧ ds.length = j ∧ AdvD N3 N' p ∧ (∀ d ∈ ds, 0 ≤ d ∧ d ≤ (29 + 12 * (j : Int)) * 10 ^ 12) ∧ 0 ≤ l ∧ l ≤ (29 + 12 * (j : Int)) * 10 ^ 12) (fun _ _ _ _ => trivial) ?_ ?_ ⟨_, N3, [], d0 * s, rfl, rfl, rfl, Dr.refl a13.dr, fun _ h => (List.not_mem_nil h).elim, bd0.1, by omega⟩
    · rintro j d ρ M' hd ⟨v6, N4, ds, l, rfl, rfl, ld, ad4, okd, l0, l1⟩ nx k
      obtain ⟨rfl, hj⟩ := range_item hd
      walk_at "dl"
      refine ix_last st_same ?_
      try walk_at "dl"
      refine ⟨p, 12, rfl, rfl, dr_over (dr_over ad4.dr nq) dp, by decide, .lit (by decide), fun M5 z a5 z0 z1 => ?_⟩
      obtain ⟨N5, x5, rfl⟩ := adv_under a5 dp
      obtain ⟨N5, y5, rfl⟩ := adv_under x5 nq
      have bz := bd (1 + z) 12 (by omega) (by omega)
      walk_at "dl"
      have e2 : (29 + 12 * ((j + 1 : Nat) : Int)) * 10 ^ 12 = (29 + 12 * (j : Int)) * 10 ^ 12 + 12 * 10 ^ 12 := by
        have : ((j + 1 : Nat) : Int) = (j : Int) + 1 := by omega
        rw [this]; omega
      refine ⟨(sm_mul (1 + z) 50 (by omega)).cmul hs, ?_, k _ _ ⟨_, N5, ds ++ [l], l + (1 + z) * s, rfl, ?_, by rw [List.length_append, ld]; rfl, ad4.trans y5, fun x hx => ?_, by omega, ?_⟩⟩
      · rw [List.length_append, List.length_map]; simp; omega
      · rw [List.map_append]; rfl
      · rw [e2]
        rcases List.mem_append.mp hx with mx | mx
        · have := okd x mx; omega
        · rw [List.mem_singleton.mp mx]; omega
      · rw [e2]; omega
    · rintro ρ M' ⟨v6, N4, ds, l, rfl, rfl, ld, ad4, okd, l0, l1⟩
      rw [range_len] at ld okd l1
      have hlen : (1 + m - 1).toNat ≤ 11 := by omega
      walk_at "dl"
      refine ⟨by decide, tabd [10, 1000, 100000] (dr_over (dr_over ad4.dr nq) dp) rfl (by decide) fun M5 sz a5 hsz => ?_⟩
      have psz : 0 < sz ∧ sz ≤ 100000 := by
        simp only [List.mem_cons, List.not_mem_nil, or_false] at hsz
        omega
      try walk_at "dl"
      refine ⟨by decide, tabd [1, 1, 1, -1, 0] a5.dr rfl (by decide) fun M6 sg a6 hsg => ?_⟩
      have psg : -1 ≤ sg ∧ sg ≤ 1 := by
        simp only [List.mem_cons, List.not_mem_nil, or_false] at hsg
        omega
      refine ⟨p, sz, rfl, rfl, a6.dr, psz.1, (sm_mul sz 64 (by omega)).up (by decide), fun M7 pn a7 pn0 pn1 => ?_⟩
      obtain ⟨N7, x57, rfl⟩ := adv_under ((a5.trans a6).trans a7) dp
      obtain ⟨N7, a57, rfl⟩ := adv_under x57 nq
      have nN7 : N7 q = none := adv_none (ad4.trans a57) nq nN3
      have nD7 : N7 qd = none := adv_none (ad4.trans a57) dp eqd'
      walk_at "dl"
      refine ⟨(sm_abs (j := sg) 10 (by omega)).cmul (sm_mul pn 40 (by omega)), ?_⟩
      rw [rm_st (by rw [st_ne dq]; exact nD7)]
      walk_at "dl"
      refine ⟨by decide, tabd [1, 1, 7] (dr_over (ad4.trans a57).dr nq) rfl (by decide) fun M8 w7 a8 hw => ?_⟩
      have pw : 0 < w7 ∧ w7 ≤ 7 := by
        simp only [List.mem_cons, List.not_mem_nil, or_false] at hw
        omega
      obtain ⟨N8, x8, rfl⟩ := adv_under a8 nq
      walk_at "dl"
      have hi40 : Sm 40 (0 + (i : Int)) := sm_mul _ 40 (by omega)
      have spn : Sm 40 (sg * pn) := by
        have : sg = -1 ∨ sg = 0 ∨ sg = 1 := by omega
        refine sm_abs 40 ?_
        rcases this with rfl | rfl | rfl <;> omega
      refine ⟨hi40.cmul (sm_mul w7 40 (by omega)), Sm.cmul (k := 40) (.lit (by decide)) hi40, by decide, by rw [List.length_map]; omega, k _ _ ⟨_, _, _, _, _, _, N8, cs ++ [⟨(0 + (i : Int)) * w7 + 20 * (0 + (i : Int)), sg * pn, ds ++ [l]⟩], rfl, ?_, by rw [List.length_append, lc]; rfl, (((ad.trans a13).trans ad4).trans a57).trans x8, fun c hc => ?_⟩⟩
      · rw [List.map_append]
        simp [chD, List.map_append]
      · rcases List.mem_append.mp hc with mc | mc
        · exact ok c mc
        · rw [List.mem_singleton.mp mc]
          refine ⟨by rw [List.length_append, List.length_singleton]; omega, by rw [List.length_append, List.length_singleton]; omega, spn, fun x hx => ?_⟩
          have big2 : (29 + 12 * (((1 + m - 1).toNat : Nat) : Int)) * 10 ^ 12 < 2 ^ 59 := by omega
          rcases List.mem_append.mp hx with mx | mx
          · have := okd x mx; omega
          · rw [List.mem_singleton.mp mx]; omega
  · rintro ρ M' ⟨v3, v4, v5, v6, v7, v8, N', cs, rfl, rfl, lc, ad, ok⟩
    rw [range_len] at lc
    walk_at "dl"
    rw [rm_st (adv_none ad nq nN0)]
    exact h N' cs (b0.trans ad) ⟨by omega, ok⟩
theorem ix_ch {cs : List Ch} {r : Int} {M : Mem} {Q : D → Mem → Prop} (h0 : 0 ≤ r) (h1 : r < cs.length) (q : ∀ c ∈ cs, Q (chD c) M) : f_ix (.lst (cs.map chD)) (.int r) M Q :=
  ix_mem h0 (by rw [List.length_map]; exact h1) fun d hd => by
    obtain ⟨c, hc, rfl⟩ := List.mem_map.mp hd
    exact q c hc
theorem sm_div {k : Nat} {a b : Int} (h : Sm k a) (hb : 0 < b) : Sm k (a / b) := h.ediv hb

theorem hs_law_payments {K : Fg} (Z : Zx K) (a0 a1 a2 : D) (M : Mem) (post : D → Mem → Prop) (pox : DX → Mem → Prop) (h : w_law_payments K a0 a1 a2 M post pox) : d_law_payments K (fun x _ M => pox x M) { nx := fun _ M => post .non M, rt := post } [some a0, some a1, some a2, none, none, none, none, none, none, none] M := by
  unfold d_law_payments
  obtain ⟨p, s, cs, rfl, rfl, rfl, wc, dr, s0, s1, h⟩ := h
  have big := big24
  have lcs := wc.len
  walk_at "dl"
  refine ⟨by decide, fun q eq => ?_⟩
  have nq : q ≠ p := dr_there dr eq
  refine ⟨p, 8, rfl, rfl, dr_over dr nq, by decide, .lit (by decide), fun M0 r a0 r0 r1 => ⟨by omega, ?_⟩⟩
  obtain ⟨N0, b0, rfl⟩ := adv_under a0 nq
  have nN0 : N0 q = none := adv_none b0 nq eq
  refine dForL_inv (fun i ρ M' => ∃ (v4 v5 v6 v7 v8 v9 : Option D) (N' : Mem) (ps : List Pay), ρ = [some (.obj p), some (.int s), some (.lst (cs.map chD)), some (.obj q), v4, v5, v6, v7, v8, v9] ∧ M' = Dl.st N' q (.lst (ps.map payD)) ∧ ps.length = i ∧ AdvD N0 N' p ∧ ∀ p ∈ ps, Sm 40 p.p ∧ 0 ≤ p.w ∧ p.w < 2 ^ 60) (fun _ _ _ _ => trivial) ?_ ?_ ⟨_, _, _, _, _, _, N0, [], rfl, rfl, rfl, Dr.refl b0.dr, fun _ h => (List.not_mem_nil h).elim⟩
  · rintro i d ρ M' hd ⟨v4, v5, v6, v7, v8, v9, N', ps, rfl, rfl, lc, ad, ok⟩ nx k
    obtain ⟨rfl, hi⟩ := range_item hd
    have nN' : N' q = none := adv_none ad nq nN0
    walk_at "dl"
    refine ⟨p, 70, rfl, rfl, dr_over ad.dr nq, by decide, .lit (by decide), fun M1 d0 a1 d0a d0b => ?_⟩
    have hs : Sm 50 s := sm_mul s 50 (by omega)
    have bd0 : 0 ≤ d0 * s ∧ d0 * s ≤ 69 * 10 ^ 12 := by
      refine ⟨Int.mul_nonneg d0a s0, ?_⟩
      have h1 := Int.mul_le_mul_of_nonneg_right (show d0 ≤ 69 by omega) s0
      omega
    walk_at "dl"
    refine ⟨(sm_mul d0 50 (by omega)).cmul hs, by decide, tabd [10, 500, 100000] a1.dr rfl (by decide) fun M2 u a2 hu => ?_⟩
    have pu : 0 < u ∧ u ≤ 100000 := by
      simp only [List.mem_cons, List.not_mem_nil, or_false] at hu
      omega
    refine ⟨p, u, rfl, rfl, a2.dr, pu.1, (sm_mul u 64 (by omega)).up (by decide), fun M3 pn0 a3 pa pb => ?_⟩
    walk_at "dl"
    have c3 : CMulW 3 (0 + (i : Int)) := Sm.cmul (k := 40) (l := 40) (.lit (by decide)) (sm_mul _ 40 (by omega))
    have tyo : ∀ M5, AdvD (Dl.st N' q (.lst (ps.map payD))) M5 p → TyOk "list" (.obj q) M5 := fun M5 a => by
      obtain ⟨N6, x6, rfl⟩ := adv_under a nq
      simp [TyOk, listD, st_same]
    have a13 := (a1.trans a2).trans a3
    have dy0 : 0 ≤ d0 * s ∧ d0 * s < 2 ^ 60 := ⟨bd0.1, by omega⟩
    have sp0 : Sm 40 (1 + pn0) := sm_mul _ 40 (by omega)
    by_cases cc : 0 < ((cs.map chD).length : Int)
    · rw [if_pos cc]
      rw [List.length_map] at cc
      refine ⟨p, 2, rfl, rfl, a13.dr, by decide, .lit (by decide), fun M4 w a4 w0 w1 => ?_⟩
      walk_at "dl"
      by_cases cw : w = 0
      · rw [if_pos cw]
        refine ⟨p, _, rfl, rfl, a4.dr, by rw [List.length_map]; exact cc, by rw [List.length_map]; exact sm_mul _ 100 (by omega), fun M6 e a6 e0 e1 => ?_⟩
        rw [List.length_map] at e1
        refine ix_ch e0 e1 fun c hc => ?_
        have oc := wc.each c hc
        rw [show chD c = .tup [.int c.y, .int c.pn, .lst (c.ds.map D.int)] from rfl]
        walk_at "dl"
        refine ⟨p, _, rfl, rfl, a6.dr, by rw [List.length_map]; omega, by rw [List.length_map]; exact sm_mul _ 100 (by omega), fun M7 e a7 e0 e1 => ?_⟩
        rw [List.length_map] at e1
        refine ix_ints e0 e1 fun dv hdv => ?_
        have od := oc.2.2.2 dv hdv
        refine ⟨p, 3, rfl, rfl, a7.dr, by decide, .lit (by decide), fun M8 f a8 f0 f1 => ?_⟩
        walk_at "dl"
        refine ⟨by decide, tabd [1, 2, ((c.ds.map D.int).length : Int)] a8.dr rfl (by simp) fun M9 dn a9 hdn => ?_⟩
        have pdn : 0 < dn ∧ dn ≤ 12 := by
          simp only [List.mem_cons, List.not_mem_nil, or_false, List.length_map] at hdn
          omega
        walk_at "dl"
        refine ⟨Sm.cdiv (k := 10) (by unfold Sm; omega) pdn.1, ?_⟩
        have sab : Sm 40 (if c.pn < 0 then -c.pn else c.pn) := by
          split
          · exact oc.2.2.1.neg
          · exact oc.2.2.1
        generalize (if c.pn < 0 then -c.pn else c.pn) = ab at *
        have sq : Sm 40 (if ab / dn > 1 then ab / dn else 1) := by
          by_cases c1 : ab / dn > 1
          · rw [if_pos c1]; exact sab.ediv pdn.1
          · rw [if_neg c1]; exact .lit (by decide)
        have dy : 0 ≤ (if dv + f - 1 > 0 then dv + f - 1 else 0) ∧ (if dv + f - 1 > 0 then dv + f - 1 else 0) < 2 ^ 60 := by split <;> omega
        refine ⟨p, 5, rfl, rfl, (((((a13.trans a4).trans a6).trans a7).trans a8).trans a9).dr, by decide, .lit (by decide), fun M5 z a5 z0 z1 => ?_⟩
        walk_at "dl"
        by_cases cz : z = 0
        · rw [if_pos cz]
          have sneg : ∀ x : Int, Sm 40 x → Sm 40 (0 - x) := fun x hx => by rw [Int.zero_sub]; exact hx.neg
          refine ⟨tyo M5 ((((((a13.trans a4).trans a6).trans a7).trans a8).trans a9).trans a5), c3, p, 3, rfl, rfl, a5.dr, by decide, .lit (by decide), fun M6 y a66 y0 y1 => ?_⟩
          obtain ⟨N6, x6, rfl⟩ := adv_under (((((((a13.trans a4).trans a6).trans a7).trans a8).trans a9).trans a5).trans a66) nq
          walk_at "dl"
          refine ⟨by decide, by rw [List.length_map]; omega, k _ _ ⟨_, _, _, _, _, _, N6, ps ++ [⟨_, _, _⟩], rfl, by rw [List.map_append]; rfl, by rw [List.length_append, lc]; rfl, ad.trans x6, fun x hx => ?_⟩⟩
          rcases List.mem_append.mp hx with mx | mx
          · exact ok x mx
          · rw [List.mem_singleton.mp mx]; exact ⟨sneg _ (sq), dy⟩
        · rw [if_neg cz]
          refine ⟨tyo M5 ((((((a13.trans a4).trans a6).trans a7).trans a8).trans a9).trans a5), c3, p, 3, rfl, rfl, a5.dr, by decide, .lit (by decide), fun M6 y a66 y0 y1 => ?_⟩
          obtain ⟨N6, x6, rfl⟩ := adv_under (((((((a13.trans a4).trans a6).trans a7).trans a8).trans a9).trans a5).trans a66) nq
          walk_at "dl"
          refine ⟨by decide, by rw [List.length_map]; omega, k _ _ ⟨_, _, _, _, _, _, N6, ps ++ [⟨_, _, _⟩], rfl, by rw [List.map_append]; rfl, by rw [List.length_append, lc]; rfl, ad.trans x6, fun x hx => ?_⟩⟩
          rcases List.mem_append.mp hx with mx | mx
          · exact ok x mx
          · rw [List.mem_singleton.mp mx]; exact ⟨sq, dy⟩
      · rw [if_neg cw]
        refine ⟨p, 5, rfl, rfl, (a13.trans a4).dr, by decide, .lit (by decide), fun M5 z a5 z0 z1 => ?_⟩
        walk_at "dl"
        by_cases cz : z = 0
        · rw [if_pos cz]
          have sneg : ∀ x : Int, Sm 40 x → Sm 40 (0 - x) := fun x hx => by rw [Int.zero_sub]; exact hx.neg
          refine ⟨tyo M5 ((a13.trans a4).trans a5), c3, p, 3, rfl, rfl, a5.dr, by decide, .lit (by decide), fun M6 y a66 y0 y1 => ?_⟩
          obtain ⟨N6, x6, rfl⟩ := adv_under (((a13.trans a4).trans a5).trans a66) nq
          walk_at "dl"
          refine ⟨by decide, by rw [List.length_map]; omega, k _ _ ⟨_, _, _, _, _, _, N6, ps ++ [⟨_, _, _⟩], rfl, by rw [List.map_append]; rfl, by rw [List.length_append, lc]; rfl, ad.trans x6, fun x hx => ?_⟩⟩
          rcases List.mem_append.mp hx with mx | mx
          · exact ok x mx
          · rw [List.mem_singleton.mp mx]; exact ⟨sneg _ (sp0), dy0⟩
        · rw [if_neg cz]
          refine ⟨tyo M5 ((a13.trans a4).trans a5), c3, p, 3, rfl, rfl, a5.dr, by decide, .lit (by decide), fun M6 y a66 y0 y1 => ?_⟩
          obtain ⟨N6, x6, rfl⟩ := adv_under (((a13.trans a4).trans a5).trans a66) nq
          walk_at "dl"
          refine ⟨by decide, by rw [List.length_map]; omega, k _ _ ⟨_, _, _, _, _, _, N6, ps ++ [⟨_, _, _⟩], rfl, by rw [List.map_append]; rfl, by rw [List.length_append, lc]; rfl, ad.trans x6, fun x hx => ?_⟩⟩
          rcases List.mem_append.mp hx with mx | mx
          · exact ok x mx
          · rw [List.mem_singleton.mp mx]; exact ⟨sp0, dy0⟩
    · rw [if_neg cc]
      refine ⟨p, 5, rfl, rfl, (a13).dr, by decide, .lit (by decide), fun M5 z a5 z0 z1 => ?_⟩
      walk_at "dl"
      by_cases cz : z = 0
      · rw [if_pos cz]
        have sneg : ∀ x : Int, Sm 40 x → Sm 40 (0 - x) := fun x hx => by rw [Int.zero_sub]; exact hx.neg
        refine ⟨tyo M5 ((a13).trans a5), c3, p, 3, rfl, rfl, a5.dr, by decide, .lit (by decide), fun M6 y a66 y0 y1 => ?_⟩
        obtain ⟨N6, x6, rfl⟩ := adv_under (((a13).trans a5).trans a66) nq
        walk_at "dl"
        refine ⟨by decide, by rw [List.length_map]; omega, k _ _ ⟨_, _, _, _, _, _, N6, ps ++ [⟨_, _, _⟩], rfl, by rw [List.map_append]; rfl, by rw [List.length_append, lc]; rfl, ad.trans x6, fun x hx => ?_⟩⟩
        rcases List.mem_append.mp hx with mx | mx
        · exact ok x mx
        · rw [List.mem_singleton.mp mx]; exact ⟨sneg _ (sp0), dy0⟩
      · rw [if_neg cz]
        refine ⟨tyo M5 ((a13).trans a5), c3, p, 3, rfl, rfl, a5.dr, by decide, .lit (by decide), fun M6 y a66 y0 y1 => ?_⟩
        obtain ⟨N6, x6, rfl⟩ := adv_under (((a13).trans a5).trans a66) nq
        walk_at "dl"
        refine ⟨by decide, by rw [List.length_map]; omega, k _ _ ⟨_, _, _, _, _, _, N6, ps ++ [⟨_, _, _⟩], rfl, by rw [List.map_append]; rfl, by rw [List.length_append, lc]; rfl, ad.trans x6, fun x hx => ?_⟩⟩
        rcases List.mem_append.mp hx with mx | mx
        · exact ok x mx
        · rw [List.mem_singleton.mp mx]; exact ⟨sp0, dy0⟩
  · rintro ρ M' ⟨v4, v5, v6, v7, v8, v9, N', ps, rfl, rfl, lc, ad, ok⟩
    rw [range_len] at lc
    walk_at "dl"
    rw [rm_st (adv_none ad nq nN0)]
    exact h N' ps (b0.trans ad) ⟨by omega, ok⟩
theorem hs_law_turned {K : Fg} (Z : Zx K) (a0 a1 : D) (M : Mem) (post : D → Mem → Prop) (pox : DX → Mem → Prop) (h : w_law_turned K a0 a1 M post pox) : d_law_turned K (fun x _ M => pox x M) { nx := fun _ M => post .non M, rt := post } [some a0, some a1, none, none, none] M := by
  unfold d_law_turned
  obtain ⟨p, ds, rfl, rfl, dr, hl, h⟩ := h
  have big := big24
  walk_at "dl"
  refine ⟨by decide, ?_⟩
  refine dForL_inv (fun i ρ M' => ∃ (fd : List D) (v3 v4 : Option D), ρ = [some (.obj p), some (.lst ds), some (.lst fd), v3, v4] ∧ AdvD M M' p ∧ fd.length = i ∧ ∀ x ∈ fd, x ∈ ds) (fun _ _ _ _ => trivial) ?_ ?_ ⟨[], _, _, rfl, Dr.refl dr, rfl, fun _ h => (List.not_mem_nil h).elim⟩
  · rintro i d ρ M' e ⟨fd, v3, v4, rfl, ad, le, me⟩ nx k
    have hd := List.mem_of_getElem? e
    have hi := (List.getElem?_eq_some_iff.mp e).1
    walk_at "dl"
    refine ⟨p, _, rfl, rfl, ad.dr, by omega, sm_mul _ 100 (by omega), fun M2 r a2 r0 r1 => ?_⟩
    have cr : ∀ x : Int, 0 ≤ x → cutD fd none (some x) = fd.take x.toNat := fun x hx => by
      have := cut_to fd x.toNat
      rwa [show ((x.toNat : Nat) : Int) = x from by omega] at this
    have cr2 : ∀ x : Int, 0 ≤ x → cutD fd (some x) none = fd.drop x.toNat := fun x hx => by
      have := cut_from fd x.toNat
      rwa [show ((x.toNat : Nat) : Int) = x from by omega] at this
    walk_at "dl"
    rw [cr r r0, cr2 r r0]
    refine ⟨by decide, by rw [List.length_take]; simp; omega, by rw [List.length_append, List.length_take, List.length_drop]; simp; omega, k _ _ ⟨_, _, _, rfl, ad.trans a2, ?_, fun x hx => ?_⟩⟩
    · rw [List.length_append, List.length_append, List.length_take, List.length_drop]; simp; omega
    · rcases List.mem_append.mp hx with m | m
      · rcases List.mem_append.mp m with m | m
        · exact me x (List.mem_of_mem_take m)
        · rw [List.mem_singleton.mp m]; exact hd
      · exact me x (List.mem_of_mem_drop m)
  · rintro ρ M' ⟨fd, v3, v4, rfl, ad, le, me⟩
    walk_at "dl"
    exact h M' fd ad le me
theorem some_ch {cs : List Ch} {out : List D} (h : ∀ x ∈ out, x ∈ cs.map chD) : ∃ cs' : List Ch, out = cs'.map chD ∧ ∀ c ∈ cs', c ∈ cs := by
  induction out with
  | nil => exact ⟨[], rfl, fun _ h => (List.not_mem_nil h).elim⟩
  | cons x out ih =>
    obtain ⟨cs', e, m⟩ := ih fun y hy => h y (List.mem_cons_of_mem _ hy)
    obtain ⟨c, hc, rfl⟩ := List.mem_map.mp (h x List.mem_cons_self)
    refine ⟨c :: cs', by rw [e]; rfl, fun d hd => ?_⟩
    rcases List.mem_cons.mp hd with rfl | hd
    · exact hc
    · exact m d hd
theorem some_pay {cs : List Pay} {out : List D} (h : ∀ x ∈ out, x ∈ cs.map payD) : ∃ cs' : List Pay, out = cs'.map payD ∧ ∀ c ∈ cs', c ∈ cs := by
  induction out with
  | nil => exact ⟨[], rfl, fun _ h => (List.not_mem_nil h).elim⟩
  | cons x out ih =>
    obtain ⟨cs', e, m⟩ := ih fun y hy => h y (List.mem_cons_of_mem _ hy)
    obtain ⟨c, hc, rfl⟩ := List.mem_map.mp (h x List.mem_cons_self)
    refine ⟨c :: cs', by rw [e]; rfl, fun d hd => ?_⟩
    rcases List.mem_cons.mp hd with rfl | hd
    · exact hc
    · exact m d hd
theorem pl_ints {n : Nat} {ns : List Int} (h : ns.length ≤ 1000) : Pl (n + 2) (.lst (ns.map D.int)) := ⟨by rw [List.length_map]; exact h, fun d hd => by
  obtain ⟨i, _, rfl⟩ := List.mem_map.mp hd
  trivial⟩
theorem pl_int {n : Nat} (i : Int) : Pl (n + 1) (.int i) := trivial
theorem pl_tup {n : Nat} {ds : List D} (h : ds.length ≤ 1000) (h' : ∀ d ∈ ds, Pl n d) : Pl (n + 1) (.tup ds) := ⟨h, h'⟩
theorem pl_handed {cs : List Ch} {ps : List Pay} {t : Tm} (wc : Wc cs) (wp : Wp ps) : Pl 5 (.lst [.lst (cs.map chD), .lst (ps.map payD), tmD t]) := by
  have lc := wc.len
  have lp := wp.len
  refine ⟨by simp, fun d hd => ?_⟩
  simp only [List.mem_cons, List.not_mem_nil, or_false] at hd
  rcases hd with rfl | rfl | rfl
  · refine ⟨by rw [List.length_map]; omega, fun d hd => ?_⟩
    obtain ⟨c, hc, rfl⟩ := List.mem_map.mp hd
    have oc := wc.each c hc
    refine pl_tup (by simp) fun e he => ?_
    simp only [List.mem_cons, List.not_mem_nil, or_false] at he
    rcases he with rfl | rfl | rfl
    · trivial
    · trivial
    · exact pl_ints (by omega)
  · refine ⟨by rw [List.length_map]; omega, fun d hd => ?_⟩
    obtain ⟨c, hc, rfl⟩ := List.mem_map.mp hd
    refine pl_tup (by simp) fun e he => ?_
    simp only [List.mem_cons, List.not_mem_nil, or_false] at he
    rcases he with rfl | rfl | rfl <;> trivial
  · refine pl_tup (by simp) fun e he => ?_
    simp only [List.mem_cons, List.not_mem_nil, or_false] at he
    rcases he with rfl | rfl | rfl
    · refine pl_tup (by simp) fun e he => ?_
      simp only [List.mem_cons, List.not_mem_nil, or_false] at he
      rcases he with rfl | rfl <;> trivial
    · trivial
    · refine pl_tup (by simp) fun e he => ?_
      simp only [List.mem_cons, List.not_mem_nil, or_false] at he
      rcases he with rfl | rfl <;> trivial

theorem hs_law {K : Fg} (Z : Zx K) (a0 : D) (M : Mem) (post : D → Mem → Prop) (pox : DX → Mem → Prop) (h : w_law K a0 M post pox) : d_law K (fun x _ M => pox x M) { nx := fun _ M => post .non M, rt := post } [some a0, none, none, none, none, none, none, none, none, none, none, none, none, none, none, none, none] M := by
  unfold d_law
  obtain ⟨ns, rfl, rfl, h⟩ := h
  have big := big24
  rw [cut6]
  refine dSeq_inv (fun ρ M => ∃ (p : Addr) (s : Int) (cs : List Ch) (py : List Pay) (r0 r1 : Int) (v6 v7 v8 v9 v10 v11 v12 v13 v14 v15 v16 : Option D), ρ = [some (.ro (ns.map D.int)), some (.obj p), some (.int s), some (.lst (cs.map chD)), some (.lst (py.map payD)), some (.tup [.int r0, .int r1]), v6, v7, v8, v9, v10, v11, v12, v13, v14, v15, v16] ∧ Dr M p ∧ 0 ≤ s ∧ s ≤ 10 ^ 12 ∧ Wc cs ∧ Wp py ∧ Sm 20 r0 ∧ Sm 20 r1 ∧ 0 < r1) (fun nx k => ?_) ?_
  · walk_at "dl"
    refine ⟨ns, rfl, fun p ep => ?_⟩
    have d0 : Dr (Dl.st (fun _ => none) p (drC ns 0 0 1)) p := ⟨ns, 0, 0, 1, st_same, by decide, by decide⟩
    refine ⟨⟨by decide, by decide, by decide⟩, by decide, tabd [1, 1, 1, 1, 10 ^ Int.toNat 12] d0 rfl (by decide) fun M1 s a1 hs => ?_⟩
    have ps : 0 ≤ s ∧ s ≤ 10 ^ 12 := by
      simp only [List.mem_cons, List.not_mem_nil, or_false] at hs
      rcases hs with rfl | rfl | rfl | rfl | rfl <;> decide
    refine ⟨p, s, rfl, rfl, a1.dr, ps.1, ps.2, fun M2 cs0 a2 wc0 => ⟨p, _, rfl, rfl, a2.dr, by have := wc0.len; rw [List.length_map]; omega, fun M3 out a3 lo mo => ?_⟩⟩
    obtain ⟨cs, rfl, mc⟩ := some_ch mo
    have wc : Wc cs := ⟨by have := wc0.len; simp only [List.length_map] at lo; omega, fun c hc => wc0.each c (mc c hc)⟩
    refine ⟨p, s, cs, rfl, rfl, rfl, wc, a3.dr, ps.1, ps.2, fun M4 ps0 a4 wp0 => ⟨p, _, rfl, rfl, a4.dr, by have := wp0.len; rw [List.length_map]; omega, fun M5 out a5 lo mo => ?_⟩⟩
    obtain ⟨py, rfl, mp⟩ := some_pay mo
    have wp : Wp py := ⟨by have := wp0.len; simp only [List.length_map] at lo; omega, fun c hc => wp0.each c (mp c hc)⟩
    refine ⟨by decide, by decide, by decide, p, 100, rfl, rfl, a5.dr, by decide, .lit (by decide), fun M6 z a6 z0 z1 => ?_⟩
    try walk_at "dl"
    refine ⟨by decide, by decide, by decide, p, 5, rfl, rfl, a6.dr, by decide, .lit (by decide), fun M7 w a7 w0 w1 => ix_mem w0 w1 fun dd hd => ?_⟩
    have fin : ∀ r0 r1 : Int, 0 ≤ r0 → r0 ≤ 1000 → 0 < r1 → r1 ≤ 10000 → nx [some (.ro (ns.map D.int)), some (.obj p), some (.int s), some (.lst (cs.map chD)), some (.lst (py.map payD)), some (.tup [.int r0, .int r1]), none, none, none, none, none, none, none, none, none, none, none] M7 := fun r0 r1 h1 h2 h3 h4 =>
      k _ _ ⟨p, s, cs, py, r0, r1, _, _, _, _, _, _, _, _, _, _, _, rfl, a7.dr, ps.1, ps.2, wc, wp, sm_mul _ 20 (by omega), sm_mul _ 20 (by omega), h3⟩
    simp only [List.mem_cons, List.not_mem_nil, or_false] at hd
    rcases hd with rfl | rfl | rfl | rfl | rfl
    · walk_at "dl"
      exact fin _ _ (by decide) (by decide) (by decide) (by decide)
    · walk_at "dl"
      exact fin _ _ (by decide) (by decide) (by decide) (by decide)
    · walk_at "dl"
      exact fin _ _ (by decide) (by decide) (by decide) (by decide)
    · walk_at "dl"
      refine ⟨by decide, ?_⟩
      by_cases c3 : (1 + z) % 3 = 0
      · simp only [c3, if_true]
        exact ⟨⟨by decide, by decide⟩, by decide, fin _ _ (by omega) (by omega) (by decide) (by decide)⟩
      · simp only [c3, if_false]
        exact fin _ _ (by omega) (by omega) (by decide) (by decide)
    · walk_at "dl"
      exact fin _ _ (by decide) (by decide) (by decide) (by decide)
  · rintro ρ M ⟨p, s, cs, py, r0, r1, v6, v7, v8, v9, v10, v11, v12, v13, v14, v15, v16, rfl, dr, s0, s1, wc, wp, sr0, sr1, pr⟩
    refine dSeq_inv (fun ρ M => ∃ (e0 e1 : Int), ρ = [some (.ro (ns.map D.int)), some (.obj p), some (.int s), some (.lst (cs.map chD)), some (.lst (py.map payD)), some (.tup [.int r0, .int r1]), some (.tup [.int e0, .int e1]), v7, v8, v9, v10, v11, v12, v13, v14, v15, v16] ∧ Dr M p ∧ Sm 20 e0 ∧ Sm 20 e1 ∧ 0 < e1) (fun nx k => ?_) ?_
    · walk_at "dl"
      refine ⟨by decide, by decide, by decide, by decide, by decide, by decide, p, 5, rfl, rfl, dr, by decide, .lit (by decide), fun M7 w a7 w0 w1 => ix_mem w0 w1 fun dd hd => ?_⟩
      simp only [List.mem_cons, List.not_mem_nil, or_false] at hd
      rcases hd with rfl | rfl | rfl | rfl | rfl <;> exact k _ _ ⟨_, _, rfl, a7.dr, .lit (by decide), .lit (by decide), by decide⟩
    · rintro ρ M ⟨e0, e1, rfl, dr, se0, se1, pe⟩
      refine dSeq_inv (fun ρ M => ∃ (g : Int), ρ = [some (.ro (ns.map D.int)), some (.obj p), some (.int s), some (.lst (cs.map chD)), some (.lst (py.map payD)), some (.tup [.int r0, .int r1]), some (.tup [.int e0, .int e1]), some (tmD ⟨r0, r1, g, e0, e1⟩), v8, v9, v10, v11, v12, v13, v14, v15, v16] ∧ Dr M p ∧ 0 ≤ g ∧ g ≤ 40 * 10 ^ 12) (fun nx k => ?_) ?_
      · walk_at "dl"
        refine ⟨p, 40, rfl, rfl, dr, by decide, .lit (by decide), fun M1 x a1 x0 x1 => ?_⟩
        try walk_at "dl"
        refine ⟨by decide, tabd [0, 1, x] a1.dr rfl (by simp) fun M2 y a2 hy => ?_⟩
        have py : 0 ≤ y ∧ y ≤ 40 := by
          simp only [List.mem_cons, List.not_mem_nil, or_false] at hy
          omega
        try walk_at "dl"
        refine ⟨by decide, tabd [1, s] a2.dr rfl (by simp) fun M3 z a3 hz => ?_⟩
        have pz : 0 ≤ z ∧ z ≤ 10 ^ 12 := by
          simp only [List.mem_cons, List.not_mem_nil, or_false] at hz
          omega
        try walk_at "dl"
        refine ⟨(sm_mul y 50 (by omega)).cmul (sm_mul z 50 (by omega)), by decide, k _ _ ⟨y * z, rfl, a3.dr, Int.mul_nonneg py.1 pz.1, ?_⟩⟩
        have h1 := Int.mul_le_mul_of_nonneg_right py.2 pz.1
        omega
      · rintro ρ M ⟨g, rfl, dr, g0, g1⟩
        generalize etm : (⟨r0, r1, g, e0, e1⟩ : Tm) = tm at *
        have wt : Wt tm := by
          rw [← etm]
          exact ⟨sr0, sr1, se0, se1, pr, pe, g0, by show g < 2 ^ 60; omega⟩
        have eg : tm.g = g := by rw [← etm]
        walk_at "dl"
        refine ⟨by decide, ?_⟩
        refine dForL_inv (fun i ρ M' => ∃ (ds : List Int) (v9 v10 v11 v12 v13 v14 v15 v16 : Option D), ρ = [some (.ro (ns.map D.int)), some (.obj p), some (.int s), some (.lst (cs.map chD)), some (.lst (py.map payD)), some (.tup [.int r0, .int r1]), some (.tup [.int e0, .int e1]), some (tmD tm), some (.lst (ds.map D.int)), v9, v10, v11, v12, v13, v14, v15, v16] ∧ Dr M' p ∧ 0 < ds.length ∧ ds.length ≤ 1 + 12 * i ∧ ∀ d ∈ ds, 0 ≤ d ∧ d < 2 ^ 59) (fun _ _ _ _ => trivial) ?_ ?_ ⟨[0], _, _, _, _, _, _, _, _, rfl, dr, by decide, by decide, fun d hd => by rw [List.mem_singleton.mp hd]; decide⟩
        · rintro i d ρ M' hd ⟨ds, v9, v10, v11, v12, v13, v14, v15, v16, rfl, dr, l0, l1, ok⟩ nx k
          obtain ⟨c, hc, e2, rfl⟩ := map_item hd
          have oc := wc.each c hc
          have hi := (List.getElem?_eq_some_iff.mp e2).1
          have lc := wc.len
          rw [show chD c = .tup [.int c.y, .int c.pn, .lst (c.ds.map D.int)] from rfl]
          walk_at "dl"
          refine ⟨by rw [List.length_map, List.length_map]; omega, k _ _ ⟨ds ++ c.ds, _, _, _, _, _, _, _, _, by rw [List.map_append], dr, by rw [List.length_append]; omega, by rw [List.length_append]; omega, fun x hx => ?_⟩⟩
          rcases List.mem_append.mp hx with m | m
          · exact ok x m
          · exact oc.2.2.2 x m
        · rintro ρ M' ⟨ds, v9, v10, v11, v12, v13, v14, v15, v16, rfl, dr, l0, l1, ok⟩
          have lc := wc.len
          rw [List.length_map] at l1
          walk_at "dl"
          refine ⟨by decide, ?_⟩
          refine dForL_inv (fun i ρ M' => ∃ (v9 v10 v11 v12 v13 v14 v15 v16 : Option D), ρ = [some (.ro (ns.map D.int)), some (.obj p), some (.int s), some (.lst (cs.map chD)), some (.lst (py.map payD)), some (.tup [.int r0, .int r1]), some (.tup [.int e0, .int e1]), some (tmD tm), some (.lst (ds.map D.int)), v9, v10, v11, v12, v13, v14, v15, v16] ∧ Dr M' p) (fun _ _ _ _ => trivial) ?_ ?_ ⟨_, _, _, _, _, _, _, _, rfl, dr⟩
          · rintro i d ρ M' hd ⟨v9, v10, v11, v12, v13, v14, v15, v16, rfl, dr⟩ nx k
            refine dSeq_inv (fun ρ M' => ∃ (t : Int), ρ = [some (.ro (ns.map D.int)), some (.obj p), some (.int s), some (.lst (cs.map chD)), some (.lst (py.map payD)), some (.tup [.int r0, .int r1]), some (.tup [.int e0, .int e1]), some (tmD tm), some (.lst (ds.map D.int)), some d, v10, v11, v12, some (.int t), v14, v15, v16] ∧ Dr M' p ∧ 0 ≤ t ∧ t < 2 ^ 62) (fun nx k => ?_) ?_
            · rw [tm_ext]
              walk_at "dl"
              refine ⟨p, _, rfl, rfl, dr, by rw [List.length_map]; omega, by rw [List.length_map]; exact sm_mul _ 100 (by omega), fun M1 x a1 x0 x1 => ?_⟩
              rw [List.length_map] at x1
              refine ix_ints x0 x1 fun dv hdv => ?_
              have od := ok dv hdv
              try walk_at "dl"
              refine ⟨p, 120, rfl, rfl, a1.dr, by decide, .lit (by decide), fun M2 y a2 y0 y1 => ?_⟩
              have sy : 0 ≤ y * s ∧ y * s ≤ 120 * 10 ^ 12 := by
                refine ⟨Int.mul_nonneg y0 s0, ?_⟩
                have h1 := Int.mul_le_mul_of_nonneg_right (show y ≤ 120 by omega) s0
                omega
              try walk_at "dl"
              refine ⟨(sm_mul y 50 (by omega)).cmul (sm_mul s 50 (by omega)), by decide, tabd [0, 1, tm.g, tm.g + 1, y * s] a2.dr rfl (by simp) fun M3 w a3 hw => ?_⟩
              have pw : 0 ≤ w ∧ w ≤ 120 * 10 ^ 12 := by
                simp only [List.mem_cons, List.not_mem_nil, or_false] at hw
                omega
              try walk_at "dl"
              exact k _ _ ⟨dv + w, rfl, a3.dr, by omega, by omega⟩
            · rintro ρ M' ⟨t, rfl, dr, t0, t1⟩
              walk_at "dl"
              refine ⟨cs, py, tm, t, rfl, rfl, rfl, rfl, wc, wp, wt, t0, t1, fun M1 k1 => ⟨by decide, pl_handed wc wp, ?_⟩⟩
              walk_at "dl"
              refine ⟨cs, py, tm, t, rfl, rfl, rfl, rfl, wc, wp, wt, t0, t1, fun M2 q eq e2 k2 => ?_⟩
              have bk := acct_bk wc wp tm t
              have pb : Pl 5 (.dt (acct cs py tm t)) := ⟨by have := bk.sz; omega, bk.nd, fun x hx => by
                obtain ⟨i, e⟩ := bk.it x hx
                rw [e]; trivial⟩
              have d2 := k2.dr (k1.dr dr)
              have qp : q ≠ p := dr_there (k1.dr dr) eq
              refine ⟨.inr (.inr ⟨q, _, rfl, rfl, e2⟩), pb, ?_⟩
              try walk_at "dl"
              refine ⟨by decide, .inl rfl, pl_handed wc wp, ?_⟩
              try walk_at "dl"
              refine ⟨by decide, ?_⟩
              have sz := bk.sz
              simp only [f_set, e2, show keyT (.tup [.str "charge", .int 0, .int 0]) = some (kk "charge" 0 0) from rfl]
              exact ⟨by omega, k _ _ ⟨_, _, _, _, _, _, _, _, rfl, dr_over d2 qp⟩⟩
          · rintro ρ M' ⟨v9, v10, v11, v12, v13, v14, v15, v16, rfl, dr⟩
            walk_at "dl"
            exact h _
section
variable {P : Program} {w : World} {K : Fg} {mg : Str → Option Value} {base : Heap}
theorem cal_amount (T : Tx w K mg) : Cal P w K mg base 1 "amount" (sp_amount K) := cal_d T.f_amount sc_amount (fun _ _ _ _ _ _ us hl => match us, hl with | [_, _], _ => rfl) (fun ds M Q E h => len2 h) (d_amount K) (der_amount T ) (fun ds M post pox h => by
  obtain ⟨a0, a1, rfl, h⟩ := h
  exact hs_amount T.z a0 a1 M post pox h)
theorem cal_times (T : Tx w K mg) : Cal P w K mg base 2 "times" (sp_times K) := cal_d T.f_times sc_times (fun _ _ _ _ _ _ us hl => match us, hl with | [_, _], _ => rfl) (fun ds M Q E h => len2 h) (d_times K) (der_times T (cal_amount T)) (fun ds M post pox h => by
  obtain ⟨a0, a1, rfl, h⟩ := h
  exact hs_times T.z a0 a1 M post pox h)
theorem cal_floor_of (T : Tx w K mg) : Cal P w K mg base 1 "floor_of" (sp_floor_of K) := cal_d T.f_floor_of sc_floor_of (fun _ _ _ _ _ _ us hl => match us, hl with | [_], _ => rfl) (fun ds M Q E h => len1 h) (d_floor_of K) (der_floor_of T ) (fun ds M post pox h => by
  obtain ⟨a0, rfl, h⟩ := h
  exact hs_floor_of T.z a0 M post pox h)
theorem cal_parts_of_charge (T : Tx w K mg) : Cal P w K mg base 1 "parts_of_charge" (sp_parts_of_charge K) := cal_d T.f_parts_of_charge sc_parts_of_charge (fun _ _ _ _ _ _ us hl => match us, hl with | [_, _, _], _ => rfl) (fun ds M Q E h => len3 h) (d_parts_of_charge K) (der_parts_of_charge T ) (fun ds M post pox h => by
  obtain ⟨a0, a1, a2, rfl, h⟩ := h
  exact hs_parts_of_charge T.z a0 a1 a2 M post pox h)
theorem cal_paid_by (T : Tx w K mg) : Cal P w K mg base 1 "paid_by" (sp_paid_by K) := cal_d T.f_paid_by sc_paid_by (fun _ _ _ _ _ _ us hl => match us, hl with | [_, _], _ => rfl) (fun ds M Q E h => len2 h) (d_paid_by K) (der_paid_by T ) (fun ds M post pox h => by
  obtain ⟨a0, a1, rfl, h⟩ := h
  exact hs_paid_by T.z a0 a1 M post pox h)
theorem cal_due_by (T : Tx w K mg) : Cal P w K mg base 1 "due_by" (sp_due_by K) := cal_d T.f_due_by sc_due_by (fun _ _ _ _ _ _ us hl => match us, hl with | [_, _], _ => rfl) (fun ds M Q E h => len2 h) (d_due_by K) (der_due_by T ) (fun ds M post pox h => by
  obtain ⟨a0, a1, rfl, h⟩ := h
  exact hs_due_by T.z a0 a1 M post pox h)
theorem cal_overdue_days (T : Tx w K mg) : Cal P w K mg base 2 "overdue_days" (sp_overdue_days K) := cal_d T.f_overdue_days sc_overdue_days (fun _ _ _ _ _ _ us hl => match us, hl with | [_, _, _], _ => rfl) (fun ds M Q E h => len3 h) (d_overdue_days K) (der_overdue_days T (cal_due_by T) (cal_paid_by T)) (fun ds M post pox h => by
  obtain ⟨a0, a1, a2, rfl, h⟩ := h
  exact hs_overdue_days T.z a0 a1 a2 M post pox h)
theorem cal_left_of (T : Tx w K mg) : Cal P w K mg base 2 "left_of" (sp_left_of K) := cal_d T.f_left_of sc_left_of (fun _ _ _ _ _ _ us hl => match us, hl with | [_, _, _, _], _ => rfl) (fun ds M Q E h => len4 h) (d_left_of K) (der_left_of T (cal_paid_by T)) (fun ds M post pox h => by
  obtain ⟨a0, a1, a2, a3, rfl, h⟩ := h
  exact hs_left_of T.z a0 a1 a2 a3 M post pox h)
theorem cal_plain_account (T : Tx w K mg) : Cal P w K mg base 3 "plain_account" (sp_plain_account K) := cal_d T.f_plain_account sc_plain_account (fun _ _ _ _ _ _ us hl => match us, hl with | [_, _, _, _], _ => rfl) (fun ds M Q E h => len4 h) (d_plain_account K) (der_plain_account T (cal_parts_of_charge T) (cal_left_of T) (cal_floor_of T) (cal_times T) (cal_overdue_days T)) (fun ds M post pox h => by
  obtain ⟨a0, a1, a2, a3, rfl, h⟩ := h
  exact hs_plain_account T.z a0 a1 a2 a3 M post pox h)
theorem cal_law_draws (T : Tx w K mg) : Cal P w K mg base 1 "_law_draws" (sp_law_draws K) := cal_d T.f_law_draws sc_law_draws (fun _ _ _ _ _ _ us hl => match us, hl with | [_], _ => rfl) (fun ds M Q E h => len1 h) (d_law_draws K) (der_law_draws T ) (fun ds M post pox h => by
  obtain ⟨a0, rfl, h⟩ := h
  exact hs_law_draws T.z a0 M post pox h)
theorem cal_law_draw (T : Tx w K mg) : Cal P w K mg base 1 "_law_draw" (sp_law_draw K) := cal_d T.f_law_draw sc_law_draw (fun _ _ _ _ _ _ us hl => match us, hl with | [_, _], _ => rfl) (fun ds M Q E h => len2 h) (d_law_draw K) (der_law_draw T ) (fun ds M post pox h => by
  obtain ⟨a0, a1, rfl, h⟩ := h
  exact hs_law_draw T.z a0 a1 M post pox h)
theorem cal_law_same (T : Tx w K mg) : ∀ n, Cal P w K mg base n "_law_same" (sp_law_same K n)
  | 0 => cal_0 T.f_law_same (ps := ["x", "due"]) (fun _ _ _ _ _ _ us hl => match us, hl with | [_, _], _ => rfl) (fun ds M Q E h => by
    obtain ⟨a0, a1, rfl, h⟩ := h
    exact no_law_same a0 a1 M Q E h)
  | n + 1 => cal_d T.f_law_same sc_law_same (fun _ _ _ _ _ _ us hl => match us, hl with | [_, _], _ => rfl) (fun ds M Q E h => len2 h) (d_law_same K n) (der_law_same T n (cal_law_same T n)) (fun ds M post pox h => by
    obtain ⟨a0, a1, rfl, h⟩ := h
    exact hs_law_same T.z n a0 a1 M post pox h)
theorem cal_law_copy (T : Tx w K mg) : ∀ n, Cal P w K mg base n "_law_copy" (sp_law_copy K n)
  | 0 => cal_0 T.f_law_copy (ps := ["thing"]) (fun _ _ _ _ _ _ us hl => match us, hl with | [_], _ => rfl) (fun ds M Q E h => by
    obtain ⟨a0, rfl, h⟩ := h
    exact no_law_copy a0 M Q E h)
  | n + 1 => cal_d T.f_law_copy sc_law_copy (fun _ _ _ _ _ _ us hl => match us, hl with | [_], _ => rfl) (fun ds M Q E h => len1 h) (d_law_copy K n) (der_law_copy T n (cal_law_copy T n)) (fun ds M post pox h => by
    obtain ⟨a0, rfl, h⟩ := h
    exact hs_law_copy T.z n a0 M post pox h)
theorem cal_law_parts (T : Tx w K mg) : Cal P w K mg base 1 "_law_parts" (sp_law_parts K) := cal_d T.f_law_parts sc_law_parts (fun _ _ _ _ _ _ us hl => match us, hl with | [_], _ => rfl) (fun ds M Q E h => len1 h) (d_law_parts K) (der_law_parts T ) (fun ds M post pox h => by
  obtain ⟨a0, rfl, h⟩ := h
  exact hs_law_parts T.z a0 M post pox h)
theorem cal_law_open (T : Tx w K mg) : Cal P w K mg base 1 "_law_open" (sp_law_open K) := cal_d T.f_law_open sc_law_open (fun _ _ _ _ _ _ us hl => match us, hl with | [_, _, _], _ => rfl) (fun ds M Q E h => len3 h) (d_law_open K) (der_law_open T ) (fun ds M post pox h => by
  obtain ⟨a0, a1, a2, rfl, h⟩ := h
  exact hs_law_open T.z a0 a1 a2 M post pox h)
theorem cal_law_counted (T : Tx w K mg) : Cal P w K mg base 2 "_law_counted" (sp_law_counted K) := cal_d T.f_law_counted sc_law_counted (fun _ _ _ _ _ _ us hl => match us, hl with | [_, _, _], _ => rfl) (fun ds M Q E h => len3 h) (d_law_counted K) (der_law_counted T (cal_law_open T)) (fun ds M post pox h => by
  obtain ⟨a0, a1, a2, rfl, h⟩ := h
  exact hs_law_counted T.z a0 a1 a2 M post pox h)
theorem cal_law_left (T : Tx w K mg) : Cal P w K mg base 1 "_law_left" (sp_law_left K) := cal_d T.f_law_left sc_law_left (fun _ _ _ _ _ _ us hl => match us, hl with | [_, _, _, _], _ => rfl) (fun ds M Q E h => len4 h) (d_law_left K) (der_law_left T ) (fun ds M post pox h => by
  obtain ⟨a0, a1, a2, a3, rfl, h⟩ := h
  exact hs_law_left T.z a0 a1 a2 a3 M post pox h)
theorem cal_law_due (T : Tx w K mg) : Cal P w K mg base 3 "_law_due" (sp_law_due K) := cal_d T.f_law_due sc_law_due (fun _ _ _ _ _ _ us hl => match us, hl with | [_, _, _, _], _ => rfl) (fun ds M Q E h => len4 h) (d_law_due K) (der_law_due T (cal_law_parts T) (cal_law_left T) (cal_law_counted T)) (fun ds M post pox h => by
  obtain ⟨a0, a1, a2, a3, rfl, h⟩ := h
  exact hs_law_due T.z a0 a1 a2 a3 M post pox h)
theorem cal_law_charges (T : Tx w K mg) : Cal P w K mg base 2 "_law_charges" (sp_law_charges K) := cal_d T.f_law_charges sc_law_charges (fun _ _ _ _ _ _ us hl => match us, hl with | [_, _], _ => rfl) (fun ds M Q E h => len2 h) (d_law_charges K) (der_law_charges T (cal_law_draw T)) (fun ds M post pox h => by
  obtain ⟨a0, a1, rfl, h⟩ := h
  exact hs_law_charges T.z a0 a1 M post pox h)
theorem cal_law_payments (T : Tx w K mg) : Cal P w K mg base 2 "_law_payments" (sp_law_payments K) := cal_d T.f_law_payments sc_law_payments (fun _ _ _ _ _ _ us hl => match us, hl with | [_, _, _], _ => rfl) (fun ds M Q E h => len3 h) (d_law_payments K) (der_law_payments T (cal_law_draw T)) (fun ds M post pox h => by
  obtain ⟨a0, a1, a2, rfl, h⟩ := h
  exact hs_law_payments T.z a0 a1 a2 M post pox h)
theorem cal_law_turned (T : Tx w K mg) : Cal P w K mg base 2 "_law_turned" (sp_law_turned K) := cal_d T.f_law_turned sc_law_turned (fun _ _ _ _ _ _ us hl => match us, hl with | [_, _], _ => rfl) (fun ds M Q E h => len2 h) (d_law_turned K) (der_law_turned T (cal_law_draw T)) (fun ds M post pox h => by
  obtain ⟨a0, a1, rfl, h⟩ := h
  exact hs_law_turned T.z a0 a1 M post pox h)
theorem fn_law (T : Tx w K mg) {fd : FuncData} (F : FunD K "law" "law" (defArgs s_law) (defBody s_law) (defScope s_law) [] [] (cA K "law") fd) : FnOk P w K mg base CXw 6 (cA K "law") fd ["script"] (LSp K (sp_law K)) := fn_cxw (fn_dD F sc_law (fun ds M Q E h => len1 h) (d_law K) (der_law T (cal_law_draws T) (cal_law_draw T) (cal_law_turned T) (cal_law_charges T) (cal_law_payments T) (cal_law_due T) (cal_law_copy T 5) (cal_plain_account T) (cal_law_same T 5)) (fun ds M post pox h => by
  obtain ⟨a0, rfl, h⟩ := h
  exact hs_law T.z a0 M post pox h))
theorem bnd_law {fd : FuncData} (F : FunD K "law" "law" (defArgs s_law) (defBody s_law) (defScope s_law) [] [] (cA K "law") fd) (s : Shared) (u : Value) : BindsTo s fd ⟨[u], []⟩ [("script", u)] := F.bindsA (ps := ["script"]) (fun _ _ _ _ _ _ us hl => match us, hl with | [_], _ => rfl) s [u] rfl
end
def dd (x : Str) (i : Nat) : He.DefD := ⟨(x, none), x, x, defArgs (top i), defBody (top i), defScope (top i), [], []⟩
def fn : List He.DefD := [dd "amount" 5, dd "times" 6, dd "floor_of" 7, dd "parts_of_charge" 13, dd "paid_by" 14, dd "due_by" 15, dd "overdue_days" 16, dd "left_of" 17, dd "plain_account" 18, dd "_law_draws" 20, dd "_law_draw" 21, dd "_law_same" 22, dd "_law_copy" 23, dd "_law_parts" 24, dd "_law_open" 25, dd "_law_counted" 26, dd "_law_left" 27, dd "_law_due" 28, dd "_law_charges" 29, dd "_law_payments" 30, dd "_law_turned" 31, dd "law" 32]
def fa : List He.Fa := [.glo "amount", .glo "times", .glo "floor_of", .glo "parts_of_charge", .glo "paid_by", .glo "due_by", .glo "overdue_days", .glo "left_of", .glo "plain_account", .glo "_law_draws", .glo "_law_draw", .glo "_law_same", .glo "_law_copy", .glo "_law_parts", .glo "_law_open", .glo "_law_counted", .glo "_law_left", .glo "_law_due", .glo "_law_charges", .glo "_law_payments", .glo "_law_turned", .glo "law", .free "abs", .free "all", .free "bool", .free "dict", .free "int", .free "isinstance", .free "len", .free "list"] ++ [.free "max", .free "min", .free "range", .free "sorted", .free "str", .free "sum", .free "tuple", .glo "ZeroAmount", .exc "ZeroAmount", .str "CHARGE" "charge", .str "INTEREST" "interest", .str "PAYMENT" "payment", .str "SURCHARGE" "surcharge"]
def excCB (K : Fg) (D : Addr) : Bool := He.eqO (PySem.W.findIn K (.ref D) "__getattribute__") (some (some (.builtin "BaseException.__getattribute__"))) && (He.eqO (PySem.W.findIn K (.ref D) "__getattr__") (some none) && (decide (PySem.W.subIn K (.ref D) (.type "BaseException") = some true) && (PySem.W.hasDictIn K D && (He.eqO (PySem.W.findIn K (.ref D) "__class__") (some (some (.builtin "object.__class__"))) && (He.eqO (PySem.W.specialIn K (.builtin "object.__class__") "__get__") (some (some (.builtin "getset_descriptor.__get__"))) && (decide (PySem.W.takesIn K (.builtin "object.__class__") = some true) && decide (PySem.W.mroIn K D (.type "object") = some true)))))))
theorem excCB_ok {K : Fg} {D : Addr} (h : excCB K D = true) : ExcC K D := by
  obtain ⟨h1, h⟩ := He.ba h
  obtain ⟨h2, h⟩ := He.ba h
  obtain ⟨h3, h⟩ := He.ba h
  obtain ⟨h4, h⟩ := He.ba h
  obtain ⟨h5, h⟩ := He.ba h
  obtain ⟨h6, h⟩ := He.ba h
  obtain ⟨h7, h8⟩ := He.ba h
  exact ⟨He.eqO_ok h1, He.eqO_ok h2, of_decide_eq_true h3, h4, He.eqO_ok h5, He.eqO_ok h6, of_decide_eq_true h7, of_decide_eq_true h8⟩
def ts : List He.Tab := []
def ex (K : Fg) : Bool := (He.eqO (PySem.W.nsIn K mainGlobals "gcd") (some (some (.builtin "math.gcd"))) && true)
abbrev R : PySem.W.OpenRow := PySem.W.OpenLaw.row PySem.Challenge.rw_fairlevy_k81_the_plain_account
abbrev hk : PySem.W.Hook := He.hookX 4 fa fn ts [] ex
def names : List Str := ["__name__", "LevyError", "ZeroAmount", "amount", "times", "floor_of", "CHARGE", "SURCHARGE", "INTEREST", "PAYMENT", "parts_of_charge", "paid_by", "due_by", "overdue_days", "left_of", "plain_account", "_law_draws", "_law_draw", "_law_same", "_law_copy", "_law_parts", "_law_open", "_law_counted", "_law_left", "_law_due", "_law_charges", "_law_payments", "_law_turned"]
def ob (s : PySem.W.SharedT) : He.AlX := He.obsX 4 fa fn ts [] ex (HeadRun.getT s)
theorem ob_eq (s : PySem.W.SharedT) : ob s = hk.obs s.abs := He.obsX_eq (HeadRun.getT_eq s)
theorem run (w : World) : HeadRun.RunEqI R (PySem.W.view R.prog [0, 32]) hk ob 6000 names w := by
  unfold HeadRun.RunEqI
  kernel_rfl
theorem facts {w : World} {K : Fg} {h : Heap} {mg : Str → Option Value} (X : K.In h) (G : h.Ns mainGlobals mg) (c : He.SaysX fa fn ts [] ex w h K) : Tx w K mg := by
  have D := c.t.d
  have e0 : ex K = true := c.more
  obtain ⟨m0, e1⟩ := He.ba e0
  exact {
    b_abs := He.free_ok X G (D.fact 22 (f := .free "abs") rfl),
    b_all := He.free_ok X G (D.fact 23 (f := .free "all") rfl),
    b_bool := He.free_ok X G (D.fact 24 (f := .free "bool") rfl),
    b_dict := He.free_ok X G (D.fact 25 (f := .free "dict") rfl),
    b_int := He.free_ok X G (D.fact 26 (f := .free "int") rfl),
    b_isinstance := He.free_ok X G (D.fact 27 (f := .free "isinstance") rfl),
    b_len := He.free_ok X G (D.fact 28 (f := .free "len") rfl),
    b_list := He.free_ok X G (D.fact 29 (f := .free "list") rfl),
    b_max := He.free_ok X G (D.fact 30 (f := .free "max") rfl),
    b_min := He.free_ok X G (D.fact 31 (f := .free "min") rfl),
    b_range := He.free_ok X G (D.fact 32 (f := .free "range") rfl),
    b_sorted := He.free_ok X G (D.fact 33 (f := .free "sorted") rfl),
    b_str := He.free_ok X G (D.fact 34 (f := .free "str") rfl),
    b_sum := He.free_ok X G (D.fact 35 (f := .free "sum") rfl),
    b_tuple := He.free_ok X G (D.fact 36 (f := .free "tuple") rfl),
    g_ZeroAmount := He.glo_ok X G (D.fact 37 (f := .glo "ZeroAmount") rfl),
    x_ZeroAmount := He.exc_ok (D.fact 38 (f := .exc "ZeroAmount") rfl),
    z := ⟨trivial⟩,
    gcd := PySem.W.mg_of X G (He.eqO_ok m0),
    k_CHARGE := He.str_ok X G (D.fact 39 (f := .str "CHARGE" "charge") rfl),
    k_INTEREST := He.str_ok X G (D.fact 40 (f := .str "INTEREST" "interest") rfl),
    k_PAYMENT := He.str_ok X G (D.fact 41 (f := .str "PAYMENT" "payment") rfl),
    k_SURCHARGE := He.str_ok X G (D.fact 42 (f := .str "SURCHARGE" "surcharge") rfl),
    f_amount := ⟨D.def_ 0 (d := dd "amount" 5) rfl, He.glo_ok X G (D.fact 0 (f := .glo "amount") rfl)⟩,
    f_times := ⟨D.def_ 1 (d := dd "times" 6) rfl, He.glo_ok X G (D.fact 1 (f := .glo "times") rfl)⟩,
    f_floor_of := ⟨D.def_ 2 (d := dd "floor_of" 7) rfl, He.glo_ok X G (D.fact 2 (f := .glo "floor_of") rfl)⟩,
    f_parts_of_charge := ⟨D.def_ 3 (d := dd "parts_of_charge" 13) rfl, He.glo_ok X G (D.fact 3 (f := .glo "parts_of_charge") rfl)⟩,
    f_paid_by := ⟨D.def_ 4 (d := dd "paid_by" 14) rfl, He.glo_ok X G (D.fact 4 (f := .glo "paid_by") rfl)⟩,
    f_due_by := ⟨D.def_ 5 (d := dd "due_by" 15) rfl, He.glo_ok X G (D.fact 5 (f := .glo "due_by") rfl)⟩,
    f_overdue_days := ⟨D.def_ 6 (d := dd "overdue_days" 16) rfl, He.glo_ok X G (D.fact 6 (f := .glo "overdue_days") rfl)⟩,
    f_left_of := ⟨D.def_ 7 (d := dd "left_of" 17) rfl, He.glo_ok X G (D.fact 7 (f := .glo "left_of") rfl)⟩,
    f_plain_account := ⟨D.def_ 8 (d := dd "plain_account" 18) rfl, He.glo_ok X G (D.fact 8 (f := .glo "plain_account") rfl)⟩,
    f_law_draws := ⟨D.def_ 9 (d := dd "_law_draws" 20) rfl, He.glo_ok X G (D.fact 9 (f := .glo "_law_draws") rfl)⟩,
    f_law_draw := ⟨D.def_ 10 (d := dd "_law_draw" 21) rfl, He.glo_ok X G (D.fact 10 (f := .glo "_law_draw") rfl)⟩,
    f_law_same := ⟨D.def_ 11 (d := dd "_law_same" 22) rfl, He.glo_ok X G (D.fact 11 (f := .glo "_law_same") rfl)⟩,
    f_law_copy := ⟨D.def_ 12 (d := dd "_law_copy" 23) rfl, He.glo_ok X G (D.fact 12 (f := .glo "_law_copy") rfl)⟩,
    f_law_parts := ⟨D.def_ 13 (d := dd "_law_parts" 24) rfl, He.glo_ok X G (D.fact 13 (f := .glo "_law_parts") rfl)⟩,
    f_law_open := ⟨D.def_ 14 (d := dd "_law_open" 25) rfl, He.glo_ok X G (D.fact 14 (f := .glo "_law_open") rfl)⟩,
    f_law_counted := ⟨D.def_ 15 (d := dd "_law_counted" 26) rfl, He.glo_ok X G (D.fact 15 (f := .glo "_law_counted") rfl)⟩,
    f_law_left := ⟨D.def_ 16 (d := dd "_law_left" 27) rfl, He.glo_ok X G (D.fact 16 (f := .glo "_law_left") rfl)⟩,
    f_law_due := ⟨D.def_ 17 (d := dd "_law_due" 28) rfl, He.glo_ok X G (D.fact 17 (f := .glo "_law_due") rfl)⟩,
    f_law_charges := ⟨D.def_ 18 (d := dd "_law_charges" 29) rfl, He.glo_ok X G (D.fact 18 (f := .glo "_law_charges") rfl)⟩,
    f_law_payments := ⟨D.def_ 19 (d := dd "_law_payments" 30) rfl, He.glo_ok X G (D.fact 19 (f := .glo "_law_payments") rfl)⟩,
    f_law_turned := ⟨D.def_ 20 (d := dd "_law_turned" 31) rfl, He.glo_ok X G (D.fact 20 (f := .glo "_law_turned") rfl)⟩,
    f_law := ⟨D.def_ 21 (d := dd "law" 32) rfl, He.glo_ok X G (D.fact 21 (f := .glo "law") rfl)⟩ }
theorem law_at {K : Fg} (ns : List Int) (pox : DX → Mem → Prop) : sp_law K [.ro (ns.map D.int)] (fun _ => none) (fun v _ => v = .bl true) pox := ⟨_, rfl, ns, rfl, rfl, fun _ => rfl⟩
end K81
open Dl PySem PySem.W PySem.Calls PyProof.Rows
theorem PySem.Challenge.cw_fairlevy_k81_the_plain_account_holds : PySem.Challenge.rw_fairlevy_k81_the_plain_account.Holds := by
  w_on; o_law
  refine HeadRun.head_imp (r := OpenLaw.row PySem.Challenge.rw_fairlevy_k81_the_plain_account) (q := view (OpenLaw.row PySem.Challenge.rw_fairlevy_k81_the_plain_account).prog [0, 32]) (H := K81.hk) (ob := K81.ob) (M := 6000) (loose := K81.names) (d := HeadRun.topDef (OpenLaw.row PySem.Challenge.rw_fairlevy_k81_the_plain_account).prog 32) (kwd := []) K81.ob_eq K81.run
    (by kernel_rfl) (by kernel_rfl) (by kernel_rfl) (by rfl) (by first | assumption | decide +kernel) (by decide +kernel) ⟨rfl, rfl, rfl, rfl, rfl, by decide +kernel⟩ ?hw ?hc
  case hw => w_witness2
  case hc =>
    refine L2.walk_ofE (l := PySem.Challenge.rw_fairlevy_k81_the_plain_account) (n := 63) (k := 6) (x := "script") (CX := Dl.CXw) rfl (by decide) (by kernel_rfl) ⟨rfl, by decide, by decide⟩ ?F (fun H s e s' z => by obtain ⟨_, _, _, z⟩ := z; exact z)
    intro w mg fa h Y G hmg0
    obtain ⟨K, KX, c⟩ := Y
    have hmg : mg ("law" : PySem.Str) = some (.ref fa) := by
      have e : (HeadRun.topDef (OpenLaw.row PySem.Challenge.rw_fairlevy_k81_the_plain_account).prog 32).name = ("law" : PySem.Str) := by kernel_rfl
      rw [← e]
      exact hmg0
    have T := K81.facts KX G c
    have e := hmg.symm.trans T.f_law.g
    cases e
    obtain ⟨fd, F⟩ := T.f_law.ex
    exact ⟨K, fd, Dl.LSp K (K81.sp_law K), KX, K81.bnd_law F, fun H a ns _ _ hS => Dl.law_sp (fun pox => K81.law_at ns pox) hS, fun base _ _ => K81.fn_law T F⟩
