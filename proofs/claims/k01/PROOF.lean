import PyProof.Rows.All
import Wide.All
import OpenK.AllK
import Wide.FinOn
import HandS.ForMost
import HandS.Deep
import HandS.TupAny
import HandS.TupMul
import HandS.IsInst
import HandS.SortInts
import HandS.Wide
import KE.DataEq
import KE.KTupSum
import HandS.Conv
import HandS.Style
import PyProof.ListRange
import PyProof.ListIndexNeg
import PySem.Challenge.RW_boundwright_k01_parts_rows_and_weights
set_option Elab.async false
set_option linter.all false
set_option maxRecDepth 100000
set_option maxHeartbeats 4000000
set_option exponentiation.threshold 100000
/-! DV1: deep values over the hand layer: what a value holds (Rp), slots (SV), the world (Wk), how it grows (Gr), a frame (Cn). -/
namespace DV
open PySem PySem.Spec PyProof.Rows L2

abbrev D := PyData
abbrev Frag := PySem.W.Frag

/-! ### values -/
mutual
inductive Rp (K : Frag) (H : Hp) : V → D → Prop
  | non : Rp K H .non .none
  | bl (b : Bool) : Rp K H (.bl b) (.bool b)
  | int (i : Int) : Rp K H (.int i) (.int i)
  | str (x : Str) : Rp K H (.str x) (.str x)
  | lst {a : Addr} {xs : List V} {ds : List D} : H a = some (.lst xs) → Rps K H xs ds → xs.length ≤ sizeLine → Rp K H (.ref a) (.list ds)
  | tup {a : Addr} {xs : List V} {ds : List D} : SqT K H a xs → Rps K H xs ds → xs.length ≤ sizeLine → Rp K H (.ref a) (.tuple ds)
inductive Rps (K : Frag) (H : Hp) : List V → List D → Prop
  | nil : Rps K H [] []
  | cons {v : V} {vs : List V} {d : D} {ds : List D} : Rp K H v d → Rps K H vs ds → Rps K H (v :: vs) (d :: ds)
end
section
variable {K : Frag} {H H' : Hp}
theorem SqT.mono {a : Addr} {xs : List V} (e : Same H H') (h : SqT K H a xs) : SqT K H' a xs := by
  rcases h with (h | ⟨o, h⟩) | h
  · exact .inl (.inl (e _ _ h))
  · exact .inl (.inr ⟨o, e _ _ h⟩)
  · exact .inr h
mutual
theorem Rp.mono (e : Same H H') : ∀ {v : V} {d : D}, Rp K H v d → Rp K H' v d
  | _, _, .non => .non
  | _, _, .bl b => .bl b
  | _, _, .int i => .int i
  | _, _, .str x => .str x
  | _, _, .lst h r l => .lst (e _ _ h) (Rps.mono e r) l
  | _, _, .tup h r l => .tup (SqT.mono e h) (Rps.mono e r) l
theorem Rps.mono (e : Same H H') : ∀ {vs : List V} {ds : List D}, Rps K H vs ds → Rps K H' vs ds
  | _, _, .nil => .nil
  | _, _, .cons r t => .cons (Rp.mono e r) (Rps.mono e t)
end
mutual
theorem Rp.dp : ∀ {v : V} {d : D}, Rp K H v d → Dp K H v d
  | _, _, .non => .non
  | _, _, .bl b => .bl b
  | _, _, .int i => .int i
  | _, _, .str x => .str x
  | _, _, .lst h r _ => .lst (.inl (.inl h)) (Rps.dp r)
  | _, _, .tup h r _ => .tup h (Rps.dp r)
theorem Rps.dp : ∀ {vs : List V} {ds : List D}, Rps K H vs ds → DpAll K H vs ds
  | _, _, .nil => .nil
  | _, _, .cons r t => .cons (Rp.dp r) (Rps.dp t)
end
theorem Rps.length : ∀ {vs : List V} {ds : List D}, Rps K H vs ds → vs.length = ds.length
  | _, _, .nil => rfl
  | _, _, .cons _ t => by simp [Rps.length t]
theorem Rps.get : ∀ {vs : List V} {ds : List D} {i : Nat} {v : V}, Rps K H vs ds → vs[i]? = some v → ∃ d, ds[i]? = some d ∧ Rp K H v d
  | _, _, _, _, .nil, e => by simp at e
  | _, _, 0, _, .cons r _, e => by simp at e; subst e; exact ⟨_, rfl, r⟩
  | _, _, i + 1, _, .cons _ t, e => by
    obtain ⟨d, h1, h2⟩ := Rps.get t (by simpa using e)
    exact ⟨d, by simpa using h1, h2⟩
theorem Rps.get' : ∀ {vs : List V} {ds : List D} {i : Nat} {d : D}, Rps K H vs ds → ds[i]? = some d → ∃ v, vs[i]? = some v ∧ Rp K H v d
  | _, _, _, _, .nil, e => by simp at e
  | _, _, 0, _, .cons r _, e => by simp at e; subst e; exact ⟨_, rfl, r⟩
  | _, _, i + 1, _, .cons _ t, e => by
    obtain ⟨d, h1, h2⟩ := Rps.get' t (by simpa using e)
    exact ⟨d, by simpa using h1, h2⟩
theorem Rps.append : ∀ {vs ws : List V} {ds es : List D}, Rps K H vs ds → Rps K H ws es → Rps K H (vs ++ ws) (ds ++ es)
  | _, _, _, _, .nil, s => s
  | _, _, _, _, .cons r t, s => .cons r (Rps.append t s)
theorem Rps.set {v : V} {d : D} (r : Rp K H v d) : ∀ {vs : List V} {ds : List D} (i : Nat), Rps K H vs ds → Rps K H (vs.set i v) (ds.set i d)
  | _, _, _, .nil => .nil
  | _, _, 0, .cons _ t => .cons r t
  | _, _, i + 1, .cons q t => .cons q (Rps.set r i t)
theorem Rps.take : ∀ {vs : List V} {ds : List D} (n : Nat), Rps K H vs ds → Rps K H (vs.take n) (ds.take n)
  | _, _, 0, _ => by simp only [List.take_zero]; exact .nil
  | _, _, _ + 1, .nil => .nil
  | _, _, n + 1, .cons r t => .cons r (Rps.take n t)
theorem Rps.drop : ∀ {vs : List V} {ds : List D} (n : Nat), Rps K H vs ds → Rps K H (vs.drop n) (ds.drop n)
  | _, _, 0, r => r
  | _, _, _ + 1, .nil => .nil
  | _, _, n + 1, .cons _ t => Rps.drop n t
theorem Rps.rep {v : V} {d : D} (r : Rp K H v d) : ∀ n : Nat, Rps K H (List.replicate n v) (List.replicate n d)
  | 0 => .nil
  | n + 1 => .cons r (Rps.rep r n)
theorem Rps.flat {vs : List V} {ds : List D} (r : Rps K H vs ds) : ∀ n : Nat, Rps K H (List.replicate n vs).flatten (List.replicate n ds).flatten
  | 0 => .nil
  | n + 1 => by
    rw [List.replicate_succ, List.replicate_succ, List.flatten_cons, List.flatten_cons]
    exact r.append (Rps.flat r n)
theorem Rps.ints : ∀ (ns : List Int), Rps K H (ns.map V.int) (ns.map PyData.int)
  | [] => .nil
  | n :: ns => .cons (.int n) (Rps.ints ns)
theorem Rps.intsV : ∀ {vs : List V} {ns : List Int}, Rps K H vs (ns.map PyData.int) → vs = ns.map V.int
  | _, [], .nil => rfl
  | _, n :: ns, .cons r t => by cases r; rw [Rps.intsV t]; rfl
theorem Rps.strs : ∀ (ns : List Str), Rps K H (ns.map V.str) (ns.map PyData.str)
  | [] => .nil
  | n :: ns => .cons (.str n) (Rps.strs ns)
theorem Rps.strsV : ∀ {vs : List V} {ns : List Str}, Rps K H vs (ns.map PyData.str) → vs = ns.map V.str
  | _, [], .nil => rfl
  | _, n :: ns, .cons r t => by cases r; rw [Rps.strsV t]; rfl
theorem Rps.bls : ∀ (ns : List Bool), Rps K H (ns.map V.bl) (ns.map PyData.bool)
  | [] => .nil
  | n :: ns => .cons (.bl n) (Rps.bls ns)
theorem Rps.blsV : ∀ {vs : List V} {ns : List Bool}, Rps K H vs (ns.map PyData.bool) → vs = ns.map V.bl
  | _, [], .nil => rfl
  | _, n :: ns, .cons r t => by cases r; rw [Rps.blsV t]; rfl
theorem Rps.mem : ∀ {vs : List V} {ds : List D} {v : V}, Rps K H vs ds → v ∈ vs → ∃ d, d ∈ ds ∧ Rp K H v d
  | _, _, _, .nil, e => by simp at e
  | _, _, v, .cons r t, e => by
    rcases List.mem_cons.mp e with rfl | e
    · exact ⟨_, List.mem_cons_self, r⟩
    · obtain ⟨d, h1, h2⟩ := Rps.mem t e; exact ⟨d, List.mem_cons_of_mem _ h1, h2⟩
end

/-! ### the draws' state, slots -/
structure StD where
  pos : Int
  cells : List Int
abbrev G := Option (Addr × Addr)
def inG (g : G) (a : Addr) : Prop := match g with
  | none => False
  | some (x, c) => a = x ∨ a = c
def StOk (g : G) (S : StD) (H : Hp) : Prop := match g with
  | none => True
  | some (x, c) => x ≠ c ∧ H x = some (.lst [.int S.pos, .ref c]) ∧ H c = some (.lst (S.cells.map V.int)) ∧ S.cells.length ≤ sizeLine

/-- what a slot holds, what an expression gives: a settled value, a list of one's own (new), a list that another slot owns, dicts of one's own, the draws' state -/
inductive SV where
  | no | d (x : D) | own (xs : List D) | bor (xs : List D) | dk (kvs : List (Key × D)) | dt (kvs : List (List Key × D)) | st
abbrev EnvD := List SV
def SV.isOwn : SV → Bool
  | .own _ => true
  | .dk _ => true
  | .dt _ => true
  | _ => false
/-- the object that an owned slot stands for -/
def HOf (K : Frag) (Hf : Hp) : SV → HO → Prop
  | .own xs, .lst vs => Rps K Hf vs xs ∧ vs.length ≤ sizeLine
  | .dk ps, .dK kvs => kvs.map (·.1) = ps.map (·.1) ∧ Rps K Hf (kvs.map (·.2)) (ps.map (·.2)) ∧ kvs.length ≤ sizeLine
  | .dt ps, .dT kvs => kvs.map (·.1) = ps.map (·.1) ∧ Rps K Hf (kvs.map (·.2)) (ps.map (·.2)) ∧ kvs.length ≤ sizeLine
  | _, _ => False
theorem HOf.mono {K : Frag} {H H' : Hp} (e : Same H H') {r : SV} {o : HO} (h : HOf K H r o) : HOf K H' r o := by
  cases r with
  | own xs =>
    cases o with
    | lst vs => exact ⟨Rps.mono e h.1, h.2⟩
    | _ => exact h.elim
  | dk ps =>
    cases o with
    | dK vs => exact ⟨h.1, Rps.mono e h.2.1, h.2.2⟩
    | _ => exact h.elim
  | dt ps =>
    cases o with
    | dT vs => exact ⟨h.1, Rps.mono e h.2.1, h.2.2⟩
    | _ => exact h.elim
  | _ => exact h.elim
theorem HOf.own {K : Frag} {Hf : Hp} {xs : List D} {o : HO} (h : HOf K Hf (.own xs) o) : ∃ vs, o = .lst vs ∧ Rps K Hf vs xs ∧ vs.length ≤ sizeLine := by
  cases o with
  | lst vs => exact ⟨vs, rfl, h⟩
  | _ => exact h.elim

structure Wk (g : G) (Hf : Hp) (S : StD) (H : Hp) : Prop where
  sub : Same Hf H
  st : StOk g S H
  gf : ∀ a, inG g a → Hf a = none
structure Gr (g : G) (Hf H Hf' H' : Hp) : Prop where
  ext : Same Hf Hf'
  keep : ∀ a o, H a = some o → ¬ inG g a → H' a = some o
  grow : ∀ a o, Hf' a = some o → Hf a = some o ∨ H a = none
  hin : ∀ a, H a ≠ none → H' a ≠ none

section
variable {K : Frag} {g : G} {Hf H Hf' H' Hf2 H2 : Hp} {S S' : StD}
theorem Gr.refl : Gr g Hf H Hf H := ⟨Same.refl _, fun _ _ e _ => e, fun _ _ e => .inl e, fun _ e => e⟩
theorem Gr.trans (a : Gr g Hf H Hf' H') (b : Gr g Hf' H' Hf2 H2) : Gr g Hf H Hf2 H2 where
  ext := a.ext.trans b.ext
  keep := fun x o e n => b.keep x o (a.keep x o e n) n
  grow := fun x o e => by
    rcases b.grow x o e with h | h
    · exact a.grow x o h
    · refine .inr ?_
      cases q : H x with
      | none => rfl
      | some u => exact absurd h (a.hin x (by rw [q]; simp))
  hin := fun x e => b.hin x (a.hin x e)
theorem Gr.non (a : Gr g Hf H Hf' H') {x : Addr} (h : H' x = none) : H x = none := by
  cases q : H x with
  | none => rfl
  | some u => exact absurd h (a.hin x (by rw [q]; simp))
theorem Gr.free (a : Gr g Hf H Hf' H') {x : Addr} {o : HO} (h : H x = some o) (f : Hf x = none) : Hf' x = none := by
  cases q : Hf' x with
  | none => rfl
  | some u =>
    rcases a.grow x u q with e | e
    · rw [f] at e; cases e
    · rw [h] at e; cases e
theorem Wk.there (w : Wk g Hf S H) {a : Addr} (h : inG g a) : H a ≠ none := by
  cases g with
  | none => exact h.elim
  | some p =>
    obtain ⟨x, c⟩ := p
    obtain ⟨_, h1, h2, _⟩ := w.st
    rcases h with rfl | rfl
    · rw [h1]; simp
    · rw [h2]; simp
theorem Wk.notG (w : Wk g Hf S H) {a : Addr} (h : H a = none) : ¬ inG g a := fun z => w.there z h
/-- a new frozen object -/
theorem Wk.put (w : Wk g Hf S H) {p : Addr} {o : HO} (h : H p = none) : Wk g (upd Hf p o) S (upd H p o) ∧ Gr g Hf H (upd Hf p o) (upd H p o) := by
  have hg := w.notG h
  have hf : Hf p = none := by
    cases q : Hf p with
    | none => rfl
    | some u => rw [w.sub p u q] at h; cases h
  refine ⟨⟨fun a u e => ?_, ?_, fun a ha => ?_⟩, ⟨fun a u e => ?_, fun a u e _ => ?_, fun a u e => ?_, fun a e => ?_⟩⟩
  · by_cases z : a = p
    · subst z; rw [upd_same] at e ⊢; exact e
    · rw [upd_ne z] at e ⊢; exact w.sub a u e
  · have := w.st
    cases g with
    | none => trivial
    | some q =>
      obtain ⟨x, c⟩ := q
      obtain ⟨h0, h1, h2, h3⟩ := this
      refine ⟨h0, ?_, ?_, h3⟩
      · rw [upd_ne (fun z => hg (by subst z; exact Or.inl rfl))]; exact h1
      · rw [upd_ne (fun z => hg (by subst z; exact Or.inr rfl))]; exact h2
  · rw [upd_ne (fun z => hg (by subst z; exact ha))]; exact w.gf a ha
  · by_cases z : a = p
    · subst z; rw [hf] at e; cases e
    · rw [upd_ne z]; exact e
  · by_cases z : a = p
    · subst z; rw [h] at e; cases e
    · rw [upd_ne z]; exact e
  · by_cases z : a = p
    · subst z; exact .inr h
    · rw [upd_ne z] at e; exact .inl e
  · by_cases z : a = p
    · subst z; rw [upd_same]; simp
    · rw [upd_ne z]; exact e
/-- a new object of one's own -/
theorem Wk.putO (w : Wk g Hf S H) {p : Addr} {o : HO} (h : H p = none) : Wk g Hf S (upd H p o) ∧ Gr g Hf H Hf (upd H p o) := by
  have hg := w.notG h
  refine ⟨⟨fun a u e => ?_, ?_, w.gf⟩, ⟨Same.refl _, fun a u e _ => ?_, fun a u e => .inl e, fun a e => ?_⟩⟩
  · have q := w.sub a u e
    rw [upd_ne (ne_of_none q h)]; exact q
  · have := w.st
    cases g with
    | none => trivial
    | some q =>
      obtain ⟨x, c⟩ := q
      obtain ⟨h0, h1, h2, h3⟩ := this
      refine ⟨h0, ?_, ?_, h3⟩
      · rw [upd_ne (fun z => hg (by subst z; exact Or.inl rfl))]; exact h1
      · rw [upd_ne (fun z => hg (by subst z; exact Or.inr rfl))]; exact h2
  · rw [upd_ne (ne_of_none e h)]; exact e
  · by_cases z : a = p
    · subst z; rw [upd_same]; simp
    · rw [upd_ne z]; exact e
theorem Wk.freeP (w : Wk g Hf S H) {p : Addr} (h : H p = none) : Hf p = none := by
  cases q : Hf p with
  | none => rfl
  | some u => rw [w.sub p u q] at h; cases h
end

/-- what a value that came is: H the heap ahead of it, Hf' H' behind it -/
def RV (K : Frag) (g : G) (H Hf' H' : Hp) (v : V) : SV → Prop
  | .no => False
  | .d x => Rp K Hf' v x
  | .st => ∃ a c, g = some (a, c) ∧ v = .ref a
  | .bor xs => ∃ p vs, v = .ref p ∧ Hf' p = none ∧ ¬ inG g p ∧ H' p = some (.lst vs) ∧ Rps K Hf' vs xs ∧ vs.length ≤ sizeLine
  | r => ∃ p o, v = .ref p ∧ H p = none ∧ Hf' p = none ∧ ¬ inG g p ∧ H' p = some o ∧ HOf K Hf' r o
section
variable {K : Frag} {g : G} {H0 Hf H Hf' H' : Hp} {S S' : StD} {v : V} {r : SV}
theorem RV.keep (q : RV K g H0 Hf H v r) (a : Gr g Hf H Hf' H') : RV K g H0 Hf' H' v r := by
  cases r with
  | no => exact q
  | d x => exact Rp.mono a.ext q
  | st => exact q
  | bor xs =>
    obtain ⟨p, vs, e, h1, h2, h3, h4, h5⟩ := q
    exact ⟨p, vs, e, a.free h3 h1, h2, a.keep _ _ h3 h2, Rps.mono a.ext h4, h5⟩
  | own xs => obtain ⟨p, o, e, h0, h1, h2, h3, h4⟩ := q; exact ⟨p, o, e, h0, a.free h3 h1, h2, a.keep _ _ h3 h2, h4.mono a.ext⟩
  | dk xs => obtain ⟨p, o, e, h0, h1, h2, h3, h4⟩ := q; exact ⟨p, o, e, h0, a.free h3 h1, h2, a.keep _ _ h3 h2, h4.mono a.ext⟩
  | dt xs => obtain ⟨p, o, e, h0, h1, h2, h3, h4⟩ := q; exact ⟨p, o, e, h0, a.free h3 h1, h2, a.keep _ _ h3 h2, h4.mono a.ext⟩
/-- seen from an earlier heap -/
theorem RV.back (q : RV K g H Hf' H' v r) (a : Gr g Hf H0 Hf2 H) : RV K g H0 Hf' H' v r := by
  cases r with
  | no => exact q
  | d x => exact q
  | st => exact q
  | bor xs => exact q
  | own xs => obtain ⟨p, o, e, h0, z⟩ := q; exact ⟨p, o, e, a.non h0, z⟩
  | dk xs => obtain ⟨p, o, e, h0, z⟩ := q; exact ⟨p, o, e, a.non h0, z⟩
  | dt xs => obtain ⟨p, o, e, h0, z⟩ := q; exact ⟨p, o, e, a.non h0, z⟩
end
/-- read only -/
def SV.rd : SV → Option D
  | .d x => some x
  | .own xs => some (.list xs)
  | .bor xs => some (.list xs)
  | _ => none
/-- settled -/
def SV.fz : SV → Option D
  | .d x => some x
  | .own xs => some (.list xs)
  | _ => none
section
variable {K : Frag} {g : G} {H0 Hf H Hf' H' : Hp} {S S' : StD} {v : V} {r : SV} {x : D}
theorem RV.rp (w : Wk g Hf S H) (q : RV K g H0 Hf H v r) (e : r.rd = some x) : Rp K H v x := by
  cases r with
  | d y => cases e; exact Rp.mono w.sub q
  | own xs =>
    cases e
    obtain ⟨p, o, rfl, _, _, _, h, z⟩ := q
    obtain ⟨vs, rfl, z⟩ := z.own
    exact .lst h (Rps.mono w.sub z.1) z.2
  | bor xs => cases e; obtain ⟨p, vs, rfl, _, _, h, z, l⟩ := q; exact .lst h (Rps.mono w.sub z) l
  | _ => cases e
/-- a new list settles -/
theorem RV.freeze (w : Wk g Hf' S H') (a : Gr g Hf H Hf' H') (q : RV K g H Hf' H' v r) (e : r.fz = some x) : ∃ Hf2, Gr g Hf H Hf2 H' ∧ Wk g Hf2 S H' ∧ Rp K Hf2 v x := by
  cases r with
  | d y => cases e; exact ⟨Hf', a, w, q⟩
  | own xs =>
    cases e
    obtain ⟨p, o, rfl, h0, hf, hg, h, z⟩ := q
    cases o with
    | lst vs =>
      refine ⟨upd Hf' p (.lst vs), ⟨fun b u e => ?_, a.keep, fun b u e => ?_, a.hin⟩, ⟨fun b u e => ?_, w.st, fun b hb => ?_⟩, .lst upd_same (Rps.mono (fun b u e => ?_) z.1) z.2⟩
      · have := a.ext b u e
        rw [upd_ne (ne_of_none this hf)]; exact this
      · by_cases y : b = p
        · subst y; exact .inr h0
        · rw [upd_ne y] at e; exact a.grow b u e
      · by_cases y : b = p
        · subst y; rw [upd_same] at e; rw [← e]; exact h
        · rw [upd_ne y] at e; exact w.sub b u e
      · rw [upd_ne (fun y => hg (by subst y; exact hb))]; exact w.gf b hb
      · rw [upd_ne (ne_of_none e hf)]; exact e
    | _ => exact z.elim
  | _ => cases e
end

/-- a frame -/
structure Cn (K : Frag) (g : G) (Hf : Hp) (env : EnvD) (S : StD) (σ : L2.St) (H : Hp) : Prop where
  w : Wk g Hf S H
  len : env.length = σ.length
  sd : ∀ (i : Nat) (x : D), env[i]? = some (.d x) → ∃ v, σ[i]? = some (some v) ∧ Rp K Hf v x
  ss : ∀ (i : Nat), env[i]? = some .st → ∃ a c, g = some (a, c) ∧ σ[i]? = some (some (.ref a))
  sl : ∀ (i : Nat) (r : SV), env[i]? = some r → r.isOwn = true → ∃ p o, σ[i]? = some (some (.ref p)) ∧ Hf p = none ∧ ¬ inG g p ∧ H p = some o ∧ HOf K Hf r o
  sn : ∀ (i j : Nat) (r q : SV) (p : Addr), i ≠ j → env[i]? = some r → r.isOwn = true → env[j]? = some q → q.isOwn = true → σ[i]? = some (some (V.ref p)) → σ[j]? = some (some (V.ref p)) → False
  sb : ∀ (i : Nat) (xs : List D), env[i]? = some (.bor xs) → False
section
variable {K : Frag} {g : G} {Hf H Hf' H' : Hp} {S S' : StD} {env : EnvD} {σ : L2.St}
theorem Cn.step (c : Cn K g Hf env S σ H) (a : Gr g Hf H Hf' H') (w : Wk g Hf' S' H') : Cn K g Hf' env S' σ H' where
  w := w
  len := c.len
  sd := fun i x e => let ⟨v, h1, h2⟩ := c.sd i x e; ⟨v, h1, Rp.mono a.ext h2⟩
  ss := c.ss
  sl := fun i r e h => by
    obtain ⟨p, o, h1, h2, h3, h4, h5⟩ := c.sl i r e h
    exact ⟨p, o, h1, a.free h4 h2, h3, a.keep _ _ h4 h3, h5.mono a.ext⟩
  sn := c.sn
  sb := c.sb
/-- a slot is set -/
theorem Cn.set (c : Cn K g Hf env S σ H) (a : Gr g Hf H Hf' H') (w : Wk g Hf' S' H') {v : V} {r : SV} (q : RV K g H Hf' H' v r) (i : Nat) (hi : i < env.length) (nb : ∀ xs, r ≠ .bor xs) :
    Cn K g Hf' (env.set i r) S' (σ.set i (some v)) H' := by
  have c' := c.step a w
  have hs : i < σ.length := c.len ▸ hi
  have new : ∀ (j : Nat) (r' : SV) (p : Addr), env[j]? = some r' → r'.isOwn = true → σ[j]? = some (some (V.ref p)) → r.isOwn = true → v = .ref p → False := fun j r' p h1 h2 h3 h4 h5 => by
    obtain ⟨p', o, e1, _, _, e2, _⟩ := c.sl j r' h1 h2
    rw [h3] at e1
    cases e1
    cases r with
    | own xs => obtain ⟨p2, o2, e, h0, _⟩ := q; rw [h5] at e; cases e; rw [h0] at e2; cases e2
    | dk xs => obtain ⟨p2, o2, e, h0, _⟩ := q; rw [h5] at e; cases e; rw [h0] at e2; cases e2
    | dt xs => obtain ⟨p2, o2, e, h0, _⟩ := q; rw [h5] at e; cases e; rw [h0] at e2; cases e2
    | _ => cases h4
  refine ⟨w, by simp [c.len], fun j x e => ?_, fun j e => ?_, fun j r' e h => ?_, fun j k r1 r2 p hjk e1 o1 e2 o2 s1 s2 => ?_, fun j xs e => ?_⟩
  · by_cases z : j = i
    · subst z
      rw [List.getElem?_set_self hi] at e
      cases e
      exact ⟨v, by rw [List.getElem?_set_self hs], q⟩
    · rw [List.getElem?_set_ne (Ne.symm z)] at e
      rw [List.getElem?_set_ne (Ne.symm z)]
      exact c'.sd j x e
  · by_cases z : j = i
    · subst z
      rw [List.getElem?_set_self hi] at e
      cases e
      obtain ⟨x, y, h1, h2⟩ := q
      exact ⟨x, y, h1, by rw [List.getElem?_set_self hs, h2]⟩
    · rw [List.getElem?_set_ne (Ne.symm z)] at e
      rw [List.getElem?_set_ne (Ne.symm z)]
      exact c'.ss j e
  · by_cases z : j = i
    · subst z
      rw [List.getElem?_set_self hi] at e
      cases e
      rw [List.getElem?_set_self hs]
      cases r with
      | own xs => obtain ⟨p2, o2, e, h0, h1⟩ := q; exact ⟨p2, o2, by rw [e], h1⟩
      | dk xs => obtain ⟨p2, o2, e, h0, h1⟩ := q; exact ⟨p2, o2, by rw [e], h1⟩
      | dt xs => obtain ⟨p2, o2, e, h0, h1⟩ := q; exact ⟨p2, o2, by rw [e], h1⟩
      | _ => cases h
    · rw [List.getElem?_set_ne (Ne.symm z)] at e
      rw [List.getElem?_set_ne (Ne.symm z)]
      exact c'.sl j r' e h
  · by_cases z : j = i
    · subst z
      have zk : k ≠ j := Ne.symm hjk
      rw [List.getElem?_set_self hi] at e1
      cases e1
      rw [List.getElem?_set_self hs] at s1
      rw [List.getElem?_set_ne (Ne.symm zk)] at e2 s2
      exact new k r2 p e2 o2 s2 o1 (Option.some.inj (Option.some.inj s1))
    · by_cases zk : k = i
      · subst zk
        rw [List.getElem?_set_self hi] at e2
        cases e2
        rw [List.getElem?_set_self hs] at s2
        rw [List.getElem?_set_ne (Ne.symm z)] at e1 s1
        exact new j r1 p e1 o1 s1 o2 (Option.some.inj (Option.some.inj s2))
      · rw [List.getElem?_set_ne (Ne.symm z)] at e1 s1
        rw [List.getElem?_set_ne (Ne.symm zk)] at e2 s2
        exact c.sn j k r1 r2 p hjk e1 o1 e2 o2 s1 s2
  · by_cases z : j = i
    · subst z
      rw [List.getElem?_set_self hi] at e
      exact nb xs (Option.some.inj e)
    · rw [List.getElem?_set_ne (Ne.symm z)] at e
      exact c.sb j xs e
/-- a slot is forgotten -/
theorem Cn.wipe1 (c : Cn K g Hf env S σ H) (i : Nat) : Cn K g Hf (env.set i .no) S (σ.set i none) H := by
  have key : ∀ (j : Nat) (r : SV), (env.set i .no)[j]? = some r → r ≠ .no → env[j]? = some r ∧ j ≠ i := fun j r e h => by
    by_cases z : j = i
    · subst z
      by_cases hl : j < env.length
      · rw [List.getElem?_set_self hl] at e; exact absurd (Option.some.inj e).symm h
      · rw [List.set_eq_of_length_le (by omega)] at e
        rw [List.getElem?_eq_none (by omega)] at e; cases e
    · rw [List.getElem?_set_ne (Ne.symm z)] at e; exact ⟨e, z⟩
  refine ⟨c.w, by simp [c.len], fun j x e => ?_, fun j e => ?_, fun j r' e h => ?_, fun j k r1 r2 p hjk e1 o1 e2 o2 s1 s2 => ?_, fun j xs e => ?_⟩
  · obtain ⟨e, z⟩ := key j _ e (by simp)
    rw [List.getElem?_set_ne (Ne.symm z)]; exact c.sd j x e
  · obtain ⟨e, z⟩ := key j _ e (by simp)
    rw [List.getElem?_set_ne (Ne.symm z)]; exact c.ss j e
  · obtain ⟨e, z⟩ := key j _ e (by rintro rfl; cases h)
    rw [List.getElem?_set_ne (Ne.symm z)]; exact c.sl j r' e h
  · obtain ⟨e1, z1⟩ := key j _ e1 (by rintro rfl; cases o1)
    obtain ⟨e2, z2⟩ := key k _ e2 (by rintro rfl; cases o2)
    rw [List.getElem?_set_ne (Ne.symm z1)] at s1
    rw [List.getElem?_set_ne (Ne.symm z2)] at s2
    exact c.sn j k r1 r2 p hjk e1 o1 e2 o2 s1 s2
  · obtain ⟨e, z⟩ := key j _ e (by simp)
    exact c.sb j xs e
/-- an owned object is changed -/
theorem Cn.change (c : Cn K g Hf env S σ H) {i : Nat} {r r' : SV} {p : Addr} {o' : HO} (e : env[i]? = some r) (ho : r.isOwn = true) (ho' : r'.isOwn = true) (hp : σ[i]? = some (some (.ref p))) (hr : HOf K Hf r' o') :
    Cn K g Hf (env.set i r') S σ (upd H p o') := by
  obtain ⟨p', o, e1, hf, hg, e2, _⟩ := c.sl i r e ho
  rw [hp] at e1
  cases e1
  have hi : i < env.length := (List.getElem?_eq_some_iff.mp e).1
  refine ⟨⟨fun a u q => ?_, ?_, c.w.gf⟩, by simp [c.len], fun j x q => ?_, fun j q => ?_, fun j r2 q h => ?_, fun j k r1 r2 p2 hjk q1 o1 q2 o2 s1 s2 => ?_, fun j xs q => ?_⟩
  · rw [upd_ne (ne_of_none q hf)]; exact c.w.sub a u q
  · have := c.w.st
    cases g with
    | none => trivial
    | some q =>
      obtain ⟨x, y⟩ := q
      obtain ⟨h0, h1, h2, h3⟩ := this
      refine ⟨h0, ?_, ?_, h3⟩
      · rw [upd_ne (fun z => hg (by subst z; exact Or.inl rfl))]; exact h1
      · rw [upd_ne (fun z => hg (by subst z; exact Or.inr rfl))]; exact h2
  · by_cases z : j = i
    · subst z; rw [List.getElem?_set_self hi] at q; cases q; cases ho'
    · rw [List.getElem?_set_ne (Ne.symm z)] at q; exact c.sd j x q
  · by_cases z : j = i
    · subst z; rw [List.getElem?_set_self hi] at q; cases q; cases ho'
    · rw [List.getElem?_set_ne (Ne.symm z)] at q; exact c.ss j q
  · by_cases z : j = i
    · subst z
      rw [List.getElem?_set_self hi] at q
      cases q
      exact ⟨p, o', hp, hf, hg, upd_same, hr⟩
    · rw [List.getElem?_set_ne (Ne.symm z)] at q
      obtain ⟨p3, o3, f1, f2, f3, f4, f5⟩ := c.sl j r2 q h
      refine ⟨p3, o3, f1, f2, f3, ?_, f5⟩
      rw [upd_ne]
      · exact f4
      · rintro rfl
        exact c.sn j i r2 r p3 z q h e ho f1 hp
  · have : ∀ (j : Nat) (r1 : SV), (env.set i r')[j]? = some r1 → r1.isOwn = true → ∃ r3, env[j]? = some r3 ∧ r3.isOwn = true := fun j r1 q h => by
      by_cases z : j = i
      · subst z; exact ⟨r, e, ho⟩
      · rw [List.getElem?_set_ne (Ne.symm z)] at q; exact ⟨r1, q, h⟩
    obtain ⟨r3, z1, z2⟩ := this j r1 q1 o1
    obtain ⟨r4, z3, z4⟩ := this k r2 q2 o2
    exact c.sn j k r3 r4 p2 hjk z1 z2 z3 z4 s1 s2
  · by_cases z : j = i
    · subst z; rw [List.getElem?_set_self hi] at q; cases q; cases ho'
    · rw [List.getElem?_set_ne (Ne.symm z)] at q; exact c.sb j xs q
/-- an owned list settles -/
theorem Cn.settle (c : Cn K g Hf env S σ H) {i : Nat} {xs : List D} (e : env[i]? = some (.own xs)) : ∃ Hf', Cn K g Hf' (env.set i (.d (.list xs))) S σ H ∧ (∃ p o, Hf' = upd Hf p o ∧ σ[i]? = some (some (.ref p)) ∧ Hf p = none) := by
  obtain ⟨p, o, e1, hf, hg, e2, z⟩ := c.sl i _ e rfl
  have hi : i < env.length := (List.getElem?_eq_some_iff.mp e).1
  cases o with
  | lst vs =>
    have ext : Same Hf (upd Hf p (.lst vs)) := fun b u q => by rw [upd_ne (ne_of_none q hf)]; exact q
    refine ⟨upd Hf p (.lst vs), ⟨⟨fun a u q => ?_, c.w.st, fun a ha => ?_⟩, by simp [c.len], fun j x q => ?_, fun j q => ?_, fun j r2 q h => ?_, fun j k r1 r2 p2 hjk q1 o1 q2 o2 s1 s2 => ?_, fun j xs q => ?_⟩, p, _, rfl, e1, hf⟩
    · by_cases y : a = p
      · subst y; rw [upd_same] at q; rw [← q]; exact e2
      · rw [upd_ne y] at q; exact c.w.sub a u q
    · rw [upd_ne (fun y => hg (by subst y; exact ha))]; exact c.w.gf a ha
    · by_cases y : j = i
      · subst y
        rw [List.getElem?_set_self hi] at q
        cases q
        exact ⟨_, e1, .lst upd_same (Rps.mono ext z.1) z.2⟩
      · rw [List.getElem?_set_ne (Ne.symm y)] at q
        obtain ⟨v, h1, h2⟩ := c.sd j x q
        exact ⟨v, h1, Rp.mono ext h2⟩
    · by_cases y : j = i
      · subst y; rw [List.getElem?_set_self hi] at q; cases q
      · rw [List.getElem?_set_ne (Ne.symm y)] at q; exact c.ss j q
    · by_cases y : j = i
      · subst y; rw [List.getElem?_set_self hi] at q; cases q; cases h
      · rw [List.getElem?_set_ne (Ne.symm y)] at q
        obtain ⟨p3, o3, f1, f2, f3, f4, f5⟩ := c.sl j r2 q h
        refine ⟨p3, o3, f1, ?_, f3, f4, f5.mono ext⟩
        rw [upd_ne]
        · exact f2
        · rintro rfl
          exact c.sn j i r2 _ p3 y q h e rfl f1 e1
    · by_cases y : j = i
      · subst y; rw [List.getElem?_set_self hi] at q1; cases q1; cases o1
      · by_cases y2 : k = i
        · subst y2; rw [List.getElem?_set_self hi] at q2; cases q2; cases o2
        · rw [List.getElem?_set_ne (Ne.symm y)] at q1
          rw [List.getElem?_set_ne (Ne.symm y2)] at q2
          exact c.sn j k r1 r2 p2 hjk q1 o1 q2 o2 s1 s2
    · by_cases y : j = i
      · subst y; rw [List.getElem?_set_self hi] at q; cases q
      · rw [List.getElem?_set_ne (Ne.symm y)] at q; exact c.sb j xs q
  | _ => exact z.elim
end
end DV

/-! DV2: the judgements of deep values: expressions (DE), tests (DT), arguments (DA), and what each construct makes of them. -/
namespace DV
open PySem PySem.Spec PyProof.Rows L2

abbrev Ex := Str × List D
inductive Res (α : Type) where
  | ok (a : α) (S : StD) | ex (x : Ex) (S : StD) | bad
def Res.bind {α β : Type} : Res α → (α → StD → Res β) → Res β
  | .ok a S, k => k a S
  | .ex x S, _ => .ex x S
  | .bad, _ => .bad
@[simp] theorem Res.bind_ok {α β : Type} (a : α) (S : StD) (k : α → StD → Res β) : (Res.ok a S).bind k = k a S := rfl
@[simp] theorem Res.bind_ex {α β : Type} (x : Ex) (S : StD) (k : α → StD → Res β) : (Res.ex x S : Res α).bind k = .ex x S := rfl
@[simp] theorem Res.bind_bad {α β : Type} (k : α → StD → Res β) : (Res.bad : Res α).bind k = .bad := rfl
def optR {α : Type} (o : Option α) (S : StD) : Res α := match o with
  | some a => .ok a S
  | none => .bad
@[simp] theorem optR_some {α : Type} (a : α) (S : StD) : optR (some a) S = .ok a S := rfl
@[simp] theorem optR_none {α : Type} (S : StD) : optR (none : Option α) S = .bad := rfl

abbrev FE := EnvD → StD → Res SV
abbrev FT := EnvD → StD → Res Bool
abbrev FA := EnvD → StD → Res (List SV)
/-- how an exception lies -/
abbrev XOT := Ex → Value → Option Addr → Hp → Hp → Prop

/-- what is wanted of a result; R: what the value is to be -/
def Po {α β : Type} (XO : XOT) (g : G) (Hf H : Hp) (E : XK) (R : Hp → Hp → β → α → Prop) (Q : β → Hp → Prop) : Res α → Prop
  | .ok r S' => ∀ v Hf' H', Gr g Hf H Hf' H' → Wk g Hf' S' H' → R Hf' H' v r → Q v H'
  | .ex x S' => ∀ c dd Hf' H', Gr g Hf H Hf' H' → Wk g Hf' S' H' → XO x c dd Hf' H' → E c dd H'
  | .bad => False
abbrev RE (K : Frag) (g : G) (H : Hp) : Hp → Hp → V → SV → Prop := fun Hf' H' v r => RV K g H Hf' H' v r
/-- read-only: seen from anywhere -/
def RVq (K : Frag) (g : G) (Hf H : Hp) (v : V) (r : SV) : Prop := ∃ H0, RV K g H0 Hf H v r
abbrev RVqs (K : Frag) (g : G) (Hf H : Hp) : List V → List SV → Prop := Paired (RVq K g Hf H)

variable {XO : XOT}
def tDE (XO : XOT) (K : Frag) (E : XK) (f : FE) : TE := fun σ H Q => ∃ g Hf env S, Cn K g Hf env S σ H ∧ Po XO g Hf H E (RE K g H) Q (f env S)
def tDT (XO : XOT) (K : Frag) (E : XK) (f : FT) : TT := fun σ H Q => ∃ g Hf env S, Cn K g Hf env S σ H ∧ Po XO g Hf H E (fun _ _ (b c : Bool) => b = c) Q (f env S)
def tDA (XO : XOT) (K : Frag) (E : XK) (f : FA) : TA := fun σ H Q => ∃ g Hf env S, Cn K g Hf env S σ H ∧ Po XO g Hf H E (RVqs K g) Q (f env S)
structure DE (XO : XOT) (X : Cx) (E : XK) (e : Expr) (f : FE) : Prop where
  pe : PE X e (tDE XO X.K E f)
structure DT (XO : XOT) (X : Cx) (E : XK) (e : Expr) (f : FT) : Prop where
  pt : PT X e (tDT XO X.K E f)
structure DW (XO : XOT) (X : Cx) (E : XK) (e : Expr) (f : FT) : Prop where
  pw : PW X e (tDT XO X.K E f)
structure DA (XO : XOT) (X : Cx) (E : XK) (es : List Expr) (f : FA) : Prop where
  pa : PA X es (tDA XO X.K E f)

theorem PE.imp {X : Cx} {e : Expr} {t t' : TE} (h : PE X e t) (i : ∀ σ H Q, t' σ H Q → t σ H Q) : PE X e t' := ⟨fun pins s σ H Q I q => h.run pins s σ H Q I (i σ H Q q)⟩
theorem PT.imp {X : Cx} {e : Expr} {t t' : TT} (h : PT X e t) (i : ∀ σ H Q, t' σ H Q → t σ H Q) : PT X e t' := ⟨fun pins s σ H Q I q => h.run pins s σ H Q I (i σ H Q q)⟩
theorem PW.imp {X : Cx} {e : Expr} {t t' : TT} (h : PW X e t) (i : ∀ σ H Q, t' σ H Q → t σ H Q) : PW X e t' := ⟨fun wh pins s σ H Q I q => h.run wh pins s σ H Q I (i σ H Q q)⟩
theorem PA.imp {X : Cx} {e : List Expr} {t t' : TA} (h : PA X e t) (i : ∀ σ H Q, t' σ H Q → t σ H Q) : PA X e t' := ⟨fun po pins s σ H Q I q => h.run po pins s σ H Q I (i σ H Q q)⟩
theorem PS.imp {X : Cx} {e : Stmt} {t t' : TS} (h : PS X e t) (i : ∀ D σ H, t' D σ H → t D σ H) : PS X e t' := ⟨fun pins s σ H D I q => h.run pins s σ H D I (i D σ H q)⟩
theorem PSs.imp {X : Cx} {e : List Stmt} {t t' : TS} (h : PSs X e t) (i : ∀ D σ H, t' D σ H → t D σ H) : PSs X e t' := ⟨fun pins s σ H D I q => h.run pins s σ H D I (i D σ H q)⟩

section
variable {K : Frag} {g : G} {Hf H Hf1 H1 : Hp} {E : XK} {env : EnvD} {S S1 : StD} {σ : L2.St}
/-- later, seen from the later heap -/
theorem Po.step {Q : V → Hp → Prop} {x : Res SV} (h : Po XO g Hf H E (RE K g H) Q x) (a : Gr g Hf H Hf1 H1) : Po XO g Hf1 H1 E (RE K g H1) Q x := by
  cases x with
  | ok r S' => exact fun v Hf' H' b w q => h v Hf' H' (a.trans b) w (RV.back q a)
  | ex x S' => exact fun c dd Hf' H' b w q => h c dd Hf' H' (a.trans b) w q
  | bad => exact h
theorem Po.stepI {α β : Type} {R : Hp → Hp → β → α → Prop} {Q : β → Hp → Prop} {x : Res α} (h : Po XO g Hf H E R Q x) (a : Gr g Hf H Hf1 H1) : Po XO g Hf1 H1 E R Q x := by
  cases x with
  | ok r S' => exact fun v Hf' H' b w q => h v Hf' H' (a.trans b) w q
  | ex x S' => exact fun c dd Hf' H' b w q => h c dd Hf' H' (a.trans b) w q
  | bad => exact h
theorem Po.imp {α β : Type} {R R' : Hp → Hp → β → α → Prop} {Q Q' : β → Hp → Prop} {x : Res α} (h : Po XO g Hf H E R Q x)
    (i : ∀ v r Hf' H', R' Hf' H' v r → Q v H' → R Hf' H' v r → Q' v H') (i2 : ∀ v r Hf' H', R' Hf' H' v r → R Hf' H' v r) : Po XO g Hf H E R' Q' x := by
  cases x with
  | ok r S' => exact fun v Hf' H' b w q => i v r Hf' H' q (h v Hf' H' b w (i2 v r Hf' H' q)) (i2 v r Hf' H' q)
  | ex x S' => exact h
  | bad => exact h
/-- a first part, then the rest -/
theorem Po.bind {α β γ : Type} {R : Hp → Hp → β → α → Prop} {Q : β → Hp → Prop} {x : Res α} {k : α → StD → Res γ} {P : Res γ → Prop}
    (hex : ∀ y S', P (.ex y S') → ∀ c dd Hf' H', Gr g Hf H Hf' H' → Wk g Hf' S' H' → XO y c dd Hf' H' → E c dd H') (hbad : ¬ P .bad)
    (h : P (x.bind k)) (hk : ∀ a S1, P (k a S1) → ∀ v Hf1 H1, Gr g Hf H Hf1 H1 → Wk g Hf1 S1 H1 → R Hf1 H1 v a → Q v H1) : Po XO g Hf H E R Q x := by
  cases x with
  | ok a S1 => exact fun v Hf1 H1 b w q => hk a S1 h v Hf1 H1 b w q
  | ex y S' => exact hex y S' h
  | bad => exact hbad h
/-- the same where what is wanted at the end is a Po -/
theorem Po.bindP {α β γ δ : Type} {R : Hp → Hp → β → α → Prop} {R' : Hp → Hp → δ → γ → Prop} {Q : β → Hp → Prop} {Q' : δ → Hp → Prop} {x : Res α} {k : α → StD → Res γ}
    (h : Po XO g Hf H E R' Q' (x.bind k)) (hk : ∀ a S1, Po XO g Hf H E R' Q' (k a S1) → ∀ v Hf1 H1, Gr g Hf H Hf1 H1 → Wk g Hf1 S1 H1 → R Hf1 H1 v a → Q v H1) : Po XO g Hf H E R Q x :=
  Po.bind (P := Po XO g Hf H E R' Q') (fun _ _ z => z) (fun z => z) h hk
end

/-! ### names, constants -/
section
variable {X : Cx} {E : XK} {pos : Pos}
def fVar (i : Nat) : FE := fun env S => match env[i]? with
  | some (.d x) => .ok (.d x) S
  | some (.own xs) => .ok (.bor xs) S
  | some .st => .ok .st S
  | _ => .bad
theorem d_var (i : Nat) {x : Str} (hN : X.N[i]? = some x := by rfl) (hv : Vis X.env.scope x := by first | exact Or.inl rfl | exact Or.inr (Or.inl rfl) | exact Or.inr (Or.inr rfl)) (hd : (x == ("__debug__" : Str)) = false := by decide)
    (hcd : (x == ("__classdict__" : Str)) = false := by decide) : DE XO X E (.Name x pos) (fVar i) := by
  refine ⟨PE.imp (pe_var hN hv hd hcd) fun σ H Q h => ?_⟩
  obtain ⟨g, Hf, env, S, c, h⟩ := h
  unfold fVar at h
  cases e : env[i]? with
  | none => rw [e] at h; exact h.elim
  | some r =>
    rw [e] at h
    cases r with
    | d y =>
      obtain ⟨v, h1, h2⟩ := c.sd i y e
      exact ⟨v, h1, h v Hf H Gr.refl c.w h2⟩
    | own xs =>
      obtain ⟨p, o, h1, h2, h3, h4, h5⟩ := c.sl i _ e rfl
      obtain ⟨vs, rfl, h6, h7⟩ := h5.own
      exact ⟨.ref p, h1, h _ Hf H Gr.refl c.w ⟨p, vs, rfl, h2, h3, h4, h6, h7⟩⟩
    | st =>
      obtain ⟨a, b, h1, h2⟩ := c.ss i e
      exact ⟨.ref a, h2, h _ Hf H Gr.refl c.w ⟨a, b, h1, rfl⟩⟩
    | _ => exact h.elim
def fC (x : D) : FE := fun _ S => .ok (.d x) S
theorem d_const {e : Expr} {x : D} {v : V} (h : PE X e (tC v)) (r : ∀ H, Rp X.K H v x) : DE XO X E e (fC x) :=
  ⟨PE.imp h fun σ H Q q => by obtain ⟨g, Hf, env, S, c, q⟩ := q; exact q v Hf H Gr.refl c.w (r Hf)⟩
theorem d_int {i j} : DE XO X E (.Constant (.int i) j pos) (fC (.int i)) := d_const pe_int fun _ => .int i
theorem d_bl {b j} : DE XO X E (.Constant (.bool b) j pos) (fC (.bool b)) := d_const pe_bl fun _ => .bl b
theorem d_non {j} : DE XO X E (.Constant .none j pos) (fC .none) := d_const pe_non fun _ => .non
theorem d_str {x j} : DE XO X E (.Constant (.str x) j pos) (fC (.str x)) := d_const pe_str fun _ => .str x
/-- a module's constant int -/
theorem d_gint {x : Str} {i : Int} (hg : Gl X x) (hm : ∃ t, X.mg x = some (.int i t)) (hd : (x == ("__debug__" : Str)) = false := by decide) : DE XO X E (.Name x pos) (fC (.int i)) := by
  obtain ⟨t, hm⟩ := hm
  exact d_const (v := .int i) (pe_glob hg hm ⟨t, rfl⟩ hd) fun _ => .int i

/-! ### two-place operations -/
def Op2 (K : Frag) (r : R2) (op : SV → SV → Option SV) : Prop := ∀ (g : G) (Hf : Hp) (S : StD) (H : Hp) (x y : V) (rx ry rz : SV) (Q : VK), Wk g Hf S H → RVq K g Hf H x rx → RVq K g Hf H y ry → op rx ry = some rz →
  (∀ v Hf' H', Gr g Hf H Hf' H' → Wk g Hf' S H' → RV K g H Hf' H' v rz → Q v H') → r x y H Q
theorem Op2.or {K : Frag} {r r' : R2} {op op' : SV → SV → Option SV} (h : Op2 K r op) (h' : Op2 K r' op') :
    Op2 K (fun x y H Q => r x y H Q ∨ r' x y H Q) (fun a b => match op a b with | some z => some z | none => op' a b) := fun g Hf S H x y rx ry rz Q w hx hy e q => by
  cases z : op rx ry with
  | some u => simp only [z] at e; cases e; exact .inl (h g Hf S H x y rx ry rz Q w hx hy z q)
  | none => simp only [z] at e; exact .inr (h' g Hf S H x y rx ry rz Q w hx hy e q)
def f2 (op : SV → SV → Option SV) (fa fb : FE) : FE := fun env S => (fa env S).bind fun ra S1 => (fb env S1).bind fun rb S2 => optR (op ra rb) S2
theorem t2 {K : Frag} {r : R2} {op : SV → SV → Option SV} {fa fb : FE} (ho : Op2 K r op) {σ : L2.St} {H : Hp} {Q : VK} (h : tDE XO K E (f2 op fa fb) σ H Q) : tOp r (tDE XO K E fa) (tDE XO K E fb) σ H Q := by
  obtain ⟨g, Hf, env, S, c, h⟩ := h
  refine ⟨g, Hf, env, S, c, Po.bindP h fun ra S1 h1 v1 Hf1 H1 a1 w1 q1 => ?_⟩
  refine ⟨g, Hf1, env, S1, c.step a1 w1, Po.bindP (h1.step a1) fun rb S2 h2 v2 Hf2 H2 a2 w2 q2 => ?_⟩
  cases z : op ra rb with
  | none => rw [z] at h2; exact h2.elim
  | some rz =>
    rw [z] at h2
    exact ho g Hf2 S2 H2 v1 v2 ra rb rz Q w2 ⟨H, RV.keep q1 a2⟩ ⟨H1, q2⟩ z fun v Hf' H' a w q => h2 v Hf' H' (a2.trans a) w (RV.back q a2)
variable {a b c : Expr} {fa fb fc : FE}
theorem d_op {op : Operator} {r : R2} {o : SV → SV → Option SV} (hr : OpR X (binaryOp op) r) (ho : Op2 X.K r o) (ha : DE XO X E a fa) (hb : DE XO X E b fb) : DE XO X E (.BinOp a op b pos) (f2 o fa fb) :=
  ⟨PE.imp (pe_op hr ha.pe hb.pe) fun _ _ _ h => t2 ho h⟩
theorem d_cmp {op : CmpOp} {r : R2} {o : SV → SV → Option SV} (hr : OpR X (compareOp op) r) (ho : Op2 X.K r o) (ha : DE XO X E a fa) (hb : DE XO X E b fb) (hm : behindInMarks op b = false) : DE XO X E (.Compare a [op] [b] pos) (f2 o fa fb) :=
  ⟨PE.imp (pe_cmpR hr ha.pe hb.pe hm) fun _ _ _ h => t2 ho h⟩
theorem d_ix {r : R2} {o : SV → SV → Option SV} (hr : IxR X r) (ho : Op2 X.K r o) (ha : DE XO X E a fa) (hb : DE XO X E b fb) (hs : PlainIx b) : DE XO X E (.Subscript a b pos) (f2 o fa fb) :=
  ⟨PE.imp (pe_ix hr ha.pe hb.pe hs) fun _ _ _ h => t2 ho h⟩
/-- a value as a truth -/
def asB : SV → Option Bool
  | .d (.bool b) => some b
  | _ => none
def fB (f : FE) : FT := fun env S => (f env S).bind fun r S1 => optR (asB r) S1
theorem asB_rv {K : Frag} {g : G} {H0 Hf H : Hp} {v : V} {r : SV} {b : Bool} (h : RV K g H0 Hf H v r) (e : asB r = some b) : v = .bl b := by
  cases r with
  | d x =>
    cases x with
    | bool c => cases e; cases h; rfl
    | _ => cases e
  | _ => cases e
theorem tB {K : Frag} {f : FE} {σ : L2.St} {H : Hp} {Q : Bool → Hp → Prop} (h : tDT XO K E (fB f) σ H Q) : tDE XO K E f σ H (fun x H' => ∃ k, x = .bl k ∧ Q k H') := by
  obtain ⟨g, Hf, env, S, c, h⟩ := h
  refine ⟨g, Hf, env, S, c, Po.bindP h fun r S1 h1 v Hf1 H1 a1 w1 q1 => ?_⟩
  cases e : asB r with
  | none => rw [e] at h1; exact h1.elim
  | some b => rw [e] at h1; exact ⟨b, asB_rv q1 e, h1 b Hf1 H1 a1 w1 rfl⟩
theorem dt_cmp {op : CmpOp} {r : R2} {o : SV → SV → Option SV} (hr : OpR X (compareOp op) r) (ho : Op2 X.K r o) (ha : DE XO X E a fa) (hb : DE XO X E b fb) (hm : behindInMarks op b = false) : DT XO X E (.Compare a [op] [b] pos) (fB (f2 o fa fb)) :=
  ⟨PT.imp (pt_cmpR hr ha.pe hb.pe hm) fun _ _ _ h => t2 ho (tB h)⟩
/-- a op b op' c -/
def f3 (op op' : SV → SV → Option SV) (fa fb fc : FE) : FE := fun env S => (fa env S).bind fun ra S1 => (fb env S1).bind fun rb S2 => (optR (op ra rb) S2).bind fun r S3 => (optR (asB r) S3).bind fun k S4 =>
  if k = true then (fc env S4).bind fun rc S5 => optR (op' rb rc) S5 else .ok (.d (.bool false)) S4
theorem t3 {K : Frag} {r r' : R2} {op op' : SV → SV → Option SV} (ho : Op2 K r op) (ho' : Op2 K r' op') {σ : L2.St} {H : Hp} {Q : VK} (h : tDE XO K E (f3 op op' fa fb fc) σ H Q) :
    tChain r r' (tDE XO K E fa) (tDE XO K E fb) (tDE XO K E fc) σ H Q := by
  obtain ⟨g, Hf, env, S, c, h⟩ := h
  refine ⟨g, Hf, env, S, c, Po.bindP h fun ra S1 h1 v1 Hf1 H1 a1 w1 q1 => ?_⟩
  refine ⟨g, Hf1, env, S1, c.step a1 w1, Po.bindP (h1.step a1) fun rb S2 h2 v2 Hf2 H2 a2 w2 q2 => ?_⟩
  cases z : op ra rb with
  | none => rw [z] at h2; exact h2.elim
  | some rz =>
    rw [z] at h2
    refine ho g Hf2 S2 H2 v1 v2 ra rb rz _ w2 ⟨H, RV.keep q1 a2⟩ ⟨H1, q2⟩ z fun v Hf3 H3 a3 w3 q3 => ?_
    cases e : asB rz with
    | none => simp only [optR_some, Res.bind_ok, e, optR_none, Res.bind_bad] at h2; exact h2.elim
    | some k =>
      simp only [optR_some, Res.bind_ok, e] at h2
      refine ⟨k, asB_rv q3 e, ?_⟩
      cases k with
      | false =>
        simp only [Bool.false_eq_true, if_false] at h2 ⊢
        exact h2 (.bl false) Hf3 H3 (a2.trans a3) w3 (.bl false)
      | true =>
        simp only [if_true] at h2 ⊢
        refine ⟨g, Hf3, env, S2, (c.step a1 w1).step (a2.trans a3) w3, Po.bindP (h2.step (a2.trans a3)) fun rc S5 h5 v5 Hf5 H5 a5 w5 q5 => ?_⟩
        cases y : op' rb rc with
        | none => rw [y] at h5; exact h5.elim
        | some ry =>
          rw [y] at h5
          exact ho' g Hf5 S5 H5 v2 v5 rb rc ry Q w5 ⟨H1, RV.keep q2 (a3.trans a5)⟩ ⟨H3, q5⟩ y fun v Hf' H' a w q => h5 v Hf' H' (a5.trans a) w (RV.back q a5)
theorem d_chain {op op' : CmpOp} {r r' : R2} {o o' : SV → SV → Option SV} (hr : OpR X (compareOp op) r) (ho : Op2 X.K r o) (hr' : OpR X (compareOp op') r') (ho' : Op2 X.K r' o') (ha : DE XO X E a fa) (hb : DE XO X E b fb) (hc : DE XO X E c fc)
    (hm : lastMarks [op, op'] [b, c] = false := by with_unfolding_all rfl) : DE XO X E (.Compare a [op, op'] [b, c] pos) (f3 o o' fa fb fc) :=
  ⟨PE.imp (pe_chain hr hr' ha.pe hb.pe hc.pe hm) fun _ _ _ h => t3 ho ho' h⟩
theorem dt_chain {op op' : CmpOp} {r r' : R2} {o o' : SV → SV → Option SV} (hr : OpR X (compareOp op) r) (ho : Op2 X.K r o) (hr' : OpR X (compareOp op') r') (ho' : Op2 X.K r' o') (ha : DE XO X E a fa) (hb : DE XO X E b fb) (hc : DE XO X E c fc)
    (hm : lastMarks [op, op'] [b, c] = false := by with_unfolding_all rfl) : DT XO X E (.Compare a [op, op'] [b, c] pos) (fB (f3 o o' fa fb fc)) :=
  ⟨PT.imp (pt_chain hr hr' ha.pe hb.pe hc.pe hm) fun _ _ _ h => t3 ho ho' (tB h)⟩
/-- truth of any value -/
def truD : D → Option Bool
  | .none => some false
  | .bool b => some b
  | .int i => some (i != 0)
  | .str y => if y.length ≤ sizeLine then some ((y.length : Int) != 0) else none
  | .list xs => some !xs.isEmpty
  | .tuple xs => some !xs.isEmpty
  | .dict _ => none
def fTru (f : FE) : FT := fun env S => (f env S).bind fun r S1 => optR (r.rd.bind truD) S1
theorem isEmpty_rps {K : Frag} {H : Hp} {vs : List V} {ds : List D} (h : Rps K H vs ds) : vs.isEmpty = ds.isEmpty := by cases h <;> rfl
theorem dt_tru (ha : DE XO X E a fa) (he : ∀ whole, isTrue a X.env whole = (do let v ← whole; standAt a.pos; holding [v] (truthy v)) := by intro _; rfl) : DT XO X E a (fTru fa) := by
  refine ⟨PT.imp (pt_truth ha.pe he) fun σ H Q h => ?_⟩
  obtain ⟨g, Hf, env, S, c, h⟩ := h
  refine ⟨g, Hf, env, S, c, Po.bindP h fun r S1 h1 v Hf1 H1 a1 w1 q1 => ?_⟩
  cases e : r.rd with
  | none => rw [e] at h1; exact h1.elim
  | some x =>
    have p := RV.rp w1 q1 e
    simp only [e, Option.bind_some] at h1
    cases p with
    | non => exact ⟨false, rfl, h1 false Hf1 H1 a1 w1 rfl⟩
    | bl b => exact ⟨b, rfl, h1 b Hf1 H1 a1 w1 rfl⟩
    | int i => exact ⟨_, rfl, h1 _ Hf1 H1 a1 w1 rfl⟩
    | str y =>
      by_cases z : y.length ≤ sizeLine
      · simp only [truD, if_pos z] at h1
        exact ⟨_, ⟨z, rfl⟩, h1 _ Hf1 H1 a1 w1 rfl⟩
      · simp only [truD, if_neg z] at h1
        exact h1.elim
    | lst h r => exact ⟨_, .inl ⟨_, .inl (.inl h), rfl⟩, h1 _ Hf1 H1 a1 w1 (by rw [isEmpty_rps r])⟩
    | tup h r => exact ⟨_, .inr (.inl ⟨_, h, rfl⟩), h1 _ Hf1 H1 a1 w1 (by rw [isEmpty_rps r])⟩

/-! ### and, or, not, if -/
variable {ta tb : FT} {rest : List Expr}
def fNot (t : FT) : FT := fun env S => (t env S).bind fun b S1 => .ok (!b) S1
def fAnd (t u : FT) : FT := fun env S => (t env S).bind fun b S1 => if b = true then u env S1 else .ok false S1
def fOr (t u : FT) : FT := fun env S => (t env S).bind fun b S1 => if b = true then .ok true S1 else u env S1
theorem dt_not (ha : DT XO X E a ta) : DT XO X E (.UnaryOp .Not a pos) (fNot ta) := by
  refine ⟨PT.imp (pt_not ha.pt) fun σ H Q h => ?_⟩
  obtain ⟨g, Hf, env, S, c, h⟩ := h
  refine ⟨g, Hf, env, S, c, Po.bindP h fun r S1 h1 v Hf1 H1 a1 w1 q1 => ?_⟩
  subst q1
  exact h1 (!v) Hf1 H1 a1 w1 rfl
theorem dw_and1 (ha : DT XO X E a ta) : DW XO X E (.BoolOp .And [a] pos) ta := ⟨pw_and1 ha.pt⟩
theorem dw_or1 (ha : DT XO X E a ta) : DW XO X E (.BoolOp .Or [a] pos) ta := ⟨pw_or1 ha.pt⟩
theorem dw_and (ha : DT XO X E a ta) (hb : DW XO X E (.BoolOp .And (b :: rest) pos) tb) : DW XO X E (.BoolOp .And (a :: b :: rest) pos) (fAnd ta tb) := by
  refine ⟨PW.imp (pw_and ha.pt hb.pw) fun σ H Q h => ?_⟩
  obtain ⟨g, Hf, env, S, c, h⟩ := h
  refine ⟨g, Hf, env, S, c, Po.bindP h fun r S1 h1 v Hf1 H1 a1 w1 q1 => ?_⟩
  subst q1
  cases v with
  | true => exact ⟨g, Hf1, env, S1, c.step a1 w1, h1.stepI a1⟩
  | false => exact h1 false Hf1 H1 a1 w1 rfl
theorem dw_or (ha : DT XO X E a ta) (hb : DW XO X E (.BoolOp .Or (b :: rest) pos) tb) : DW XO X E (.BoolOp .Or (a :: b :: rest) pos) (fOr ta tb) := by
  refine ⟨PW.imp (pw_or ha.pt hb.pw) fun σ H Q h => ?_⟩
  obtain ⟨g, Hf, env, S, c, h⟩ := h
  refine ⟨g, Hf, env, S, c, Po.bindP h fun r S1 h1 v Hf1 H1 a1 w1 q1 => ?_⟩
  subst q1
  cases v with
  | true => exact h1 true Hf1 H1 a1 w1 rfl
  | false => exact ⟨g, Hf1, env, S1, c.step a1 w1, h1.stepI a1⟩
theorem DW.dt (h : DW XO X E a ta) : DT XO X E a ta := ⟨h.pw.pt⟩
/-- as values, all but the last True or False -/
def fAndV (fa fb : FE) : FE := fun env S => (fB fa env S).bind fun b S1 => if b = true then fb env S1 else .ok (.d (.bool false)) S1
def fOrV (fa fb : FE) : FE := fun env S => (fB fa env S).bind fun b S1 => if b = true then .ok (.d (.bool true)) S1 else fb env S1
theorem d_one {op} (h : DE XO X E a fa) : DE XO X E (.BoolOp op [a] pos) fa := ⟨pe_one h.pe⟩
theorem d_and (ha : DE XO X E a fa) (hb : DE XO X E (.BoolOp .And (b :: rest) pos) fb) : DE XO X E (.BoolOp .And (a :: b :: rest) pos) (fAndV fa fb) := by
  refine ⟨PE.imp (pe_and ha.pe hb.pe) fun σ H Q h => ?_⟩
  obtain ⟨g, Hf, env, S, c, h⟩ := h
  refine tB ⟨g, Hf, env, S, c, Po.bindP h fun r S1 h1 v Hf1 H1 a1 w1 q1 => ?_⟩
  subst q1
  cases v with
  | true => exact ⟨g, Hf1, env, S1, c.step a1 w1, h1.step a1⟩
  | false => exact h1 (.bl false) Hf1 H1 a1 w1 (.bl false)
theorem d_or (ha : DE XO X E a fa) (hb : DE XO X E (.BoolOp .Or (b :: rest) pos) fb) : DE XO X E (.BoolOp .Or (a :: b :: rest) pos) (fOrV fa fb) := by
  refine ⟨PE.imp (pe_or ha.pe hb.pe) fun σ H Q h => ?_⟩
  obtain ⟨g, Hf, env, S, c, h⟩ := h
  refine tB ⟨g, Hf, env, S, c, Po.bindP h fun r S1 h1 v Hf1 H1 a1 w1 q1 => ?_⟩
  subst q1
  cases v with
  | true => exact h1 (.bl true) Hf1 H1 a1 w1 (.bl true)
  | false => exact ⟨g, Hf1, env, S1, c.step a1 w1, h1.step a1⟩
def fNotV (fa : FE) : FE := fun env S => (fB fa env S).bind fun b S1 => .ok (.d (.bool (!b))) S1
theorem d_not (ha : DE XO X E a fa) : DE XO X E (.UnaryOp .Not a pos) (fNotV fa) := by
  refine ⟨PE.imp (pe_not ha.pe) fun σ H Q h => ?_⟩
  obtain ⟨g, Hf, env, S, c, h⟩ := h
  refine tB ⟨g, Hf, env, S, c, Po.bindP h fun r S1 h1 v Hf1 H1 a1 w1 q1 => ?_⟩
  subst q1
  exact h1 (.bl (!v)) Hf1 H1 a1 w1 (.bl (!v))
def fIf (t : FT) (fa fb : FE) : FE := fun env S => (t env S).bind fun b S1 => if b = true then fa env S1 else fb env S1
theorem d_if (hc : DT XO X E c ta) (ha : DE XO X E a fa) (hb : DE XO X E b fb) : DE XO X E (.IfExp c a b pos) (fIf ta fa fb) := by
  refine ⟨PE.imp (pe_ifExp hc.pt ha.pe hb.pe) fun σ H Q h => ?_⟩
  obtain ⟨g, Hf, env, S, c, h⟩ := h
  refine ⟨g, Hf, env, S, c, Po.bindP h fun r S1 h1 v Hf1 H1 a1 w1 q1 => ?_⟩
  subst q1
  cases v with
  | true => exact ⟨g, Hf1, env, S1, c.step a1 w1, h1.step a1⟩
  | false => exact ⟨g, Hf1, env, S1, c.step a1 w1, h1.step a1⟩

/-! ### settling; argument lists; displays -/
def fFz (f : FE) : FE := fun env S => (f env S).bind fun r S1 => match r with
  | .st => .ok .st S1
  | r => optR (r.fz.map SV.d) S1
theorem fz_of {K : Frag} {σ : L2.St} {H : Hp} {Q : VK} (h : tDE XO K E (fFz fa) σ H Q) : tDE XO K E fa σ H Q := by
  obtain ⟨g, Hf, env, S, c, h⟩ := h
  refine ⟨g, Hf, env, S, c, Po.bindP h fun r S1 h1 v Hf1 H1 a1 w1 q1 => ?_⟩
  cases r with
  | st => exact h1 v Hf1 H1 a1 w1 q1
  | d x => exact h1 v Hf1 H1 a1 w1 q1
  | own xs =>
    obtain ⟨Hf2, b1, b2, b3⟩ := RV.freeze w1 a1 q1 (x := .list xs) rfl
    exact h1 v Hf2 H1 b1 b2 b3
  | _ => exact h1.elim
theorem d_fz (ha : DE XO X E a fa) : DE XO X E a (fFz fa) := ⟨PE.imp ha.pe fun _ _ _ h => fz_of h⟩
def fNil : FA := fun _ S => .ok [] S
def fCons (f : FE) (r : FA) : FA := fun env S => (f env S).bind fun x S1 => (r env S1).bind fun xs S2 => .ok (x :: xs) S2
theorem da_nil : DA XO X E [] fNil := ⟨PA.imp pa_nil fun σ H Q h => by obtain ⟨g, Hf, env, S, c, h⟩ := h; exact h [] Hf H Gr.refl c.w .nil⟩
theorem da_cons {es : List Expr} {fr : FA} (ha : DE XO X E a fa) (hr : DA XO X E es fr) (hs : starEach (a :: es) X.env = (false, eval a X.env) :: starEach es X.env := by rfl) : DA XO X E (a :: es) (fCons fa fr) := by
  refine ⟨PA.imp (pa_cons ha.pe hr.pa hs) fun σ H Q h => ?_⟩
  obtain ⟨g, Hf, env, S, c, h⟩ := h
  refine ⟨g, Hf, env, S, c, Po.bindP h fun r S1 h1 v Hf1 H1 a1 w1 q1 => ?_⟩
  refine ⟨g, Hf1, env, S1, c.step a1 w1, Po.bindP (h1.stepI a1) fun rs S2 h2 vs Hf2 H2 a2 w2 q2 => ?_⟩
  exact h2 (v :: vs) Hf2 H2 a2 w2 (.cons ⟨H, RV.keep q1 a2⟩ q2)
/-- settled values -/
def dsOf : List SV → Option (List D)
  | [] => some []
  | .d x :: r => (dsOf r).map (x :: ·)
  | _ => none
theorem dsOf_rps {K : Frag} {g : G} {Hf H : Hp} : ∀ {vs : List V} {rs : List SV} {ds : List D}, RVqs K g Hf H vs rs → dsOf rs = some ds → Rps K Hf vs ds
  | _, [], _, .nil, e => by cases e; exact .nil
  | _, r :: rs, ds, .cons q t, e => by
    cases r with
    | d x =>
      simp only [dsOf] at e
      cases z : dsOf rs with
      | none => rw [z] at e; cases e
      | some es => rw [z] at e; cases e; exact .cons (q.elim fun _ y => y) (dsOf_rps t z)
    | _ => cases e
def fTup (f : FA) : FE := fun env S => (f env S).bind fun rs S1 => (optR (dsOf rs) S1).bind fun ds S2 => if ds.length ≤ sizeLine then .ok (.d (.tuple ds)) S2 else .bad
theorem d_tup {es : List Expr} {f : FA} {x1} (h : DA XO X E es f) : DE XO X E (.Tuple es x1 pos) (fTup f) := by
  refine ⟨PE.imp (pe_tup h.pa) fun σ H Q h => ?_⟩
  obtain ⟨g, Hf, env, S, c, h⟩ := h
  refine ⟨g, Hf, env, S, c, Po.bindP h fun rs S1 h1 vs Hf1 H1 a1 w1 q1 => ?_⟩
  cases z : dsOf rs with
  | none => rw [z] at h1; exact h1.elim
  | some ds =>
    have r := dsOf_rps q1 z
    simp only [z, optR_some, Res.bind_ok] at h1
    split at h1
    · refine ⟨by rw [r.length]; assumption, fun p hp => ?_⟩
      obtain ⟨w2, a2⟩ := w1.put (o := .tup vs) hp
      exact h1 (.ref p) _ _ (a1.trans a2) w2 (.tup (.inl (.inl upd_same)) (Rps.mono a2.ext r) (by rw [r.length]; assumption))
    · exact h1.elim
def fLst (f : FA) : FE := fun env S => (f env S).bind fun rs S1 => (optR (dsOf rs) S1).bind fun ds S2 => if ds.length ≤ sizeLine then .ok (.own ds) S2 else .bad
theorem d_lst {es : List Expr} {f : FA} (h : DA XO X E es f) : DE XO X E (.List es pos) (fLst f) := by
  refine ⟨PE.imp (pe_lst h.pa) fun σ H Q h => ?_⟩
  obtain ⟨g, Hf, env, S, c, h⟩ := h
  refine ⟨g, Hf, env, S, c, Po.bindP h fun rs S1 h1 vs Hf1 H1 a1 w1 q1 => ?_⟩
  cases z : dsOf rs with
  | none => rw [z] at h1; exact h1.elim
  | some ds =>
    have r := dsOf_rps q1 z
    simp only [z, optR_some, Res.bind_ok] at h1
    split at h1
    · refine ⟨by rw [r.length]; assumption, fun p hp => ?_⟩
      obtain ⟨w2, a2⟩ := w1.putO (o := .lst vs) hp
      have hn : H p = none := a1.non hp
      exact h1 (.ref p) _ _ (a1.trans a2) w2 ⟨p, .lst vs, rfl, hn, w1.freeP hp, w1.notG hp, upd_same, r, by rw [r.length]; assumption⟩
    · exact h1.elim

/-! ### calls of built-ins -/
def OpN (K : Frag) (r : List V → Hp → VK → Prop) (op : List SV → Option SV) : Prop := ∀ (g : G) (Hf : Hp) (S : StD) (H : Hp) (xs : List V) (rs : List SV) (rz : SV) (Q : VK), Wk g Hf S H → RVqs K g Hf H xs rs → op rs = some rz →
  (∀ v Hf' H', Gr g Hf H Hf' H' → Wk g Hf' S H' → RV K g H Hf' H' v rz → Q v H') → r xs H Q
theorem OpN.or {K : Frag} {r r' : List V → Hp → VK → Prop} {op op' : List SV → Option SV} (h : OpN K r op) (h' : OpN K r' op') :
    OpN K (fun x H Q => r x H Q ∨ r' x H Q) (fun a => match op a with | some z => some z | none => op' a) := fun g Hf S H x rx rz Q w hx e q => by
  cases z : op rx with
  | some u => simp only [z] at e; cases e; exact .inl (h g Hf S H x rx rz Q w hx z q)
  | none => simp only [z] at e; exact .inr (h' g Hf S H x rx rz Q w hx e q)
theorem CallR.or {f : Value} {r r' : List V → Hp → VK → Prop} (h : CallR X f r) (h' : CallR X f r') : CallR X f (fun x H Q => r x H Q ∨ r' x H Q) := fun pins s σ H xs us Q I rv q => by
  rcases q with q | q
  · exact h pins s σ H xs us Q I rv q
  · exact h' pins s σ H xs us Q I rv q
def fN (op : List SV → Option SV) (f : FA) : FE := fun env S => (f env S).bind fun rs S1 => optR (op rs) S1
theorem tN {K : Frag} {r : List V → Hp → VK → Prop} {op : List SV → Option SV} {f : FA} (ho : OpN K r op) {σ : L2.St} {H : Hp} {Q : VK} (h : tDE XO K E (fN op f) σ H Q) : tCB r (tDA XO K E f) σ H Q := by
  obtain ⟨g, Hf, env, S, c, h⟩ := h
  refine ⟨g, Hf, env, S, c, Po.bindP h fun rs S1 h1 vs Hf1 H1 a1 w1 q1 => ?_⟩
  cases z : op rs with
  | none => rw [z] at h1; exact h1.elim
  | some rz =>
    rw [z] at h1
    exact ho g Hf1 S1 H1 vs rs rz Q w1 q1 z fun v Hf' H' a w q => h1 v Hf' H' (a1.trans a) w (RV.back q a1)
variable {x : Str} {p : Pos} {e : Expr} {es : List Expr}
theorem d_callB {id : String} {r : List V → Hp → VK → Prop} {o : List SV → Option SV} {f : FA} (hr : CallR X (.builtin id) r) (ho : OpN X.K r o) (hg : Gl X x) (hm : X.mg x = none) (hv : bootBuiltins x = some (.builtin id)) (ha : DA XO X E (e :: es) f) (hn : x ≠ "__name__" := by decide) (hdb : (x == ("__debug__" : Str)) = false := by decide)
    (he : starEach (e :: es) X.env = (false, eval e X.env) :: starEach es X.env := by rfl) (hpl : (backTo pos (starEach es X.env)).any (·.1) = false := by rfl) : DE XO X E (.Call (.Name x p) (e :: es) [] pos) (fN o f) :=
  ⟨PE.imp (pe_callB hr hg hm hv ha.pa hn hdb he hpl) fun _ _ _ h => tN ho h⟩
theorem d_callTy {T : String} {r : List V → Hp → VK → Prop} {o : List SV → Option SV} {f : FA} (hr : CallR X (.type T) r) (ho : OpN X.K r o) (hg : Gl X x) (hm : X.mg x = none) (hv : bootBuiltins x = some (.type T)) (ha : DA XO X E (e :: es) f) (hn : x ≠ "__name__" := by decide) (hdb : (x == ("__debug__" : Str)) = false := by decide)
    (he : starEach (e :: es) X.env = (false, eval e X.env) :: starEach es X.env := by rfl) (hpl : (backTo pos (starEach es X.env)).any (·.1) = false := by rfl) : DE XO X E (.Call (.Name x p) (e :: es) [] pos) (fN o f) :=
  ⟨PE.imp (pe_callTy hr hg hm hv ha.pa hn hdb he hpl) fun _ _ _ h => tN ho h⟩

/-! ### calls of defs -/
abbrev Fn := List SV → StD → Res SV
/-- settled or the draws' state -/
def RVa (K : Frag) (g : G) (Hf : Hp) (v : V) : SV → Prop
  | .d x => Rp K Hf v x
  | .st => ∃ a c, g = some (a, c) ∧ v = .ref a
  | _ => False
def spF (XO : XOT) (K : Frag) (n : Nat) (fn : Fn) : Sp := fun vs H Q E => vs.length = n ∧ ∃ g Hf S rs, Wk g Hf S H ∧ Paired (RVa K g Hf) vs rs ∧ Po XO g Hf H E (RE K g H) Q (fn rs S)
def settled : SV → Bool
  | .d _ => true
  | .st => true
  | _ => false
theorem rva_of {K : Frag} {g : G} {Hf H : Hp} : ∀ {vs : List V} {rs : List SV}, RVqs K g Hf H vs rs → rs.all settled = true → Paired (RVa K g Hf) vs rs
  | _, [], .nil, _ => .nil
  | _, r :: rs, .cons q t, e => by
    simp only [List.all_cons, Bool.and_eq_true] at e
    refine .cons ?_ (rva_of t e.2)
    obtain ⟨H0, q⟩ := q
    cases r with
    | d x => exact q
    | st => exact q
    | _ => cases e.1
def fCall (n : Nat) (fn : Fn) (f : FA) : FE := fun env S => (f env S).bind fun rs S1 => if rs.all settled = true ∧ rs.length = n then fn rs S1 else .bad
theorem tC' {K : Frag} {n : Nat} {fn : Fn} {f : FA} {σ : L2.St} {H : Hp} {Q : VK} (h : tDE XO K E (fCall n fn f) σ H Q) : tCall (spF XO K n fn) [] E (tDA XO K E f) σ H Q := by
  obtain ⟨g, Hf, env, S, c, h⟩ := h
  refine ⟨g, Hf, env, S, c, Po.bindP h fun rs S1 h1 vs Hf1 H1 a1 w1 q1 => ?_⟩
  split at h1
  · rename_i hs
    rw [List.append_nil]
    exact ⟨by rw [Paired.length q1]; exact hs.2, g, Hf1, S1, rs, w1, rva_of q1 hs.1, h1.step a1⟩
  · exact h1.elim
theorem d_call {CX : CXT} {k : Nat} {f : Addr} {fd : FuncData} {ps : List Str} {n : Nat} {fn : Fn} {fa : FA} (F : FnOk X.prog X.w X.K X.mg X.base CX k f fd ps (spF XO X.K n fn)) (hr : Room k X.A) (hg : Gl X x) (hm : X.mg x = some (.ref f)) (hk : PySem.W.keepIn X.K (.ref f) = true)
    (hb : Binds X.K fd ps []) (hx : Passes CX X E) (ha : DA XO X E (e :: es) fa) (hdb : (x == ("__debug__" : Str)) = false := by decide) (he : starEach (e :: es) X.env = (false, eval e X.env) :: starEach es X.env := by rfl) (hpl : (backTo pos (starEach es X.env)).any (·.1) = false := by rfl) :
    DE XO X E (.Call (.Name x p) (e :: es) [] pos) (fCall n fn fa) :=
  ⟨PE.imp (pe_call F hr hg hm hk hb .nil hx ha.pa hdb he hpl) fun _ _ _ h => tC' h⟩
end
end DV

/-! DV3: what is walked (DI), comprehensions, statements (DS, DSs), loops, defs. -/
namespace DV
open PySem PySem.Spec PyProof.Rows L2
variable {XO : XOT}

/-! ### what is walked -/
structure IterV (J : It) (vs : List V) (ok : Hp → Prop) : Prop where
  go : ∀ i H, ok H → i < vs.length → J.go i H
  yld : ∀ i H x H', ok H → i < vs.length → J.yld i H x H' → H' = H ∧ vs[i]? = some x
  stop : ∀ i H, ok H → vs.length ≤ i → J.stop i H
structure RI (K : Frag) (g : G) (Hf' H' : Hp) (J : It) (r : List D × Bool) : Prop where
  ex : ∃ vs ok, IterV J vs ok ∧ Rps K Hf' vs r.1 ∧ vs.length ≤ sizeLine ∧ (∀ Hf2 H2, Gr g Hf' H' Hf2 H2 → ok H2) ∧ (r.2 = true → ∀ H2, Same Hf' H2 → ok H2)
abbrev FI := EnvD → StD → Res (List D × Bool)
def tDI (XO : XOT) (K : Frag) (E : XK) (f : FI) : TI := fun σ H R => ∃ g Hf env S, Cn K g Hf env S σ H ∧ Po XO g Hf H E (RI K g) R (f env S)
structure DI (XO : XOT) (X : Cx) (E : XK) (tg iter : Expr) (f : FI) : Prop where
  pi : PI X tg iter (tDI XO X.K E f)
theorem PI.imp {X : Cx} {tg e : Expr} {t t' : TI} (h : PI X tg e t) (i : ∀ σ H Q, t' σ H Q → t σ H Q) : PI X tg e t' := ⟨fun pins s σ H Q I q => h.run pins s σ H Q I (i σ H Q q)⟩
section
variable {X : Cx} {E : XK} {tg e : Expr} {pos p : Pos}
/-- a list or a tuple -/
theorem pi_either {l : Expr} {tl : TE} (hl : PE X l tl) : PI X tg l (fun σ H R => tl σ H fun x H1 => ∃ a, x = .ref a ∧ (((∃ xs, SqL X.K H1 a xs) ∧ R (Itl X.K a) H1) ∨ ((∃ xs, SqT X.K H1 a xs) ∧ R (Itt X.K a) H1))) := by
  constructor
  intro pins s σ H R I0 hyp
  apply thn (hl.run pins s σ H _ I0 hyp)
  rintro val st2 ⟨y, H1, J1, rel, a, rfl, (⟨⟨ys, sq⟩, fin⟩ | ⟨⟨ys, sq⟩, fin⟩)⟩
  · cases rel
    obtain ⟨us, _, pl, _⟩ := J1.list sq
    apply wpAny_pyIter_list pl.isList
    exact ⟨st2.heap.objs.size, [st2.heap.objs.size], _, _, H1, rfl, J1.kept (t' := st2.toks) (fun c o q => Heap.get?_push_of_some _ q), turn_list a _, ⟨_, Heap.get?_push_size _ rfl, rfl, rfl⟩,
      fun c hc => by rw [List.mem_singleton.mp hc]; exact J1.fpOk (Nat.le_refl _) (J1.hok.fresh (Nat.le_refl _)), fin⟩
  · cases rel
    obtain ⟨us, _, pl, _⟩ := J1.tuple sq
    apply wpAny_pyIter_tuple (show st2.heap.IsTuple a us.toArray from pl)
    exact ⟨st2.heap.objs.size, [st2.heap.objs.size], _, _, H1, rfl, J1.kept (t' := st2.toks) (fun c o q => Heap.get?_push_of_some _ q), turn_tuple a _, ⟨_, Heap.get?_push_size _ rfl, rfl, rfl⟩,
      fun c hc => by rw [List.mem_singleton.mp hc]; exact J1.fpOk (Nat.le_refl _) (J1.hok.fresh (Nat.le_refl _)), fin⟩
theorem iterV_listS {K : Frag} {a : Addr} {vs : List V} : IterV (Itl K a) vs (fun H => SqL K H a vs) where
  go := fun i H h hi => ⟨vs, vs[i], h, by simp [hi]⟩
  yld := fun i H x H' h _ y => ⟨y.1, y.2 vs h⟩
  stop := fun i H h hi => ⟨vs, h, hi⟩
theorem iterV_tupS {K : Frag} {a : Addr} {vs : List V} : IterV (Itt K a) vs (fun H => SqT K H a vs) where
  go := fun i H h hi => ⟨vs, vs[i], h, by simp [hi]⟩
  yld := fun i H x H' h _ y => ⟨y.1, y.2 vs h⟩
  stop := fun i H h hi => ⟨vs, h, hi⟩
def rngV (lo c : Int) (n : Nat) : List V := (List.range n).map fun (k : Nat) => V.int (lo + k * c)
def rngD (lo c : Int) (n : Nat) : List D := (List.range n).map fun (k : Nat) => PyData.int (lo + k * c)
theorem rngV_get {lo c : Int} {n i : Nat} (h : i < n) : (rngV lo c n)[i]? = some (.int (lo + i * c)) := by simp [rngV, h]
theorem rngV_len {lo c : Int} {n : Nat} : (rngV lo c n).length = n := by simp [rngV]
theorem rng_rps {K : Frag} {H : Hp} (lo c : Int) (n : Nat) : Rps K H (rngV lo c n) (rngD lo c n) := by
  have h := Rps.ints (K := K) (H := H) ((List.range n).map fun (k : Nat) => lo + k * c)
  simpa [rngV, rngD, List.map_map, Function.comp_def] using h
theorem iterV_rng {lo : Int} {n : Nat} : IterV (Itr lo n) (rngV lo 1 n) (fun _ => True) where
  go := fun i H _ hi => by rw [rngV_len] at hi; exact hi
  yld := fun i H x H' _ hi y => by
    rw [rngV_len] at hi
    refine ⟨y.1, ?_⟩
    rw [rngV_get hi, y.2, Int.mul_one]
  stop := fun i H _ hi => by rw [rngV_len] at hi; exact hi
theorem iterV_rngC {lo c : Int} {n : Nat} : IterV (Itc lo c n) (rngV lo c n) (fun _ => True) where
  go := fun i H _ hi => by rw [rngV_len] at hi; exact hi
  yld := fun i H x H' _ hi y => by
    rw [rngV_len] at hi
    refine ⟨y.1, ?_⟩
    rw [rngV_get hi, y.2]
  stop := fun i H _ hi => by rw [rngV_len] at hi; exact hi

/-- a list, a tuple -/
def itD : SV → Option (List D × Bool)
  | .d (.list xs) => some (xs, true)
  | .d (.tuple xs) => some (xs, true)
  | .own xs => some (xs, false)
  | .bor xs => some (xs, false)
  | _ => none
def fIt (f : FE) : FI := fun env S => (f env S).bind fun r S1 => optR (itD r) S1
theorem Gr.sub {g : G} {Hf' H' Hf2 H2 : Hp} {S : StD} (w : Wk g Hf' S H') (a : Gr g Hf' H' Hf2 H2) : Same Hf' H2 := fun b o e =>
  a.keep b o (w.sub b o e) fun z => by rw [w.gf b z] at e; cases e
theorem di_seq {fe : FE} (he : DE XO X E e fe) : DI XO X E tg e (fIt fe) := by
  refine ⟨PI.imp (pi_either he.pe) fun σ H R h => ?_⟩
  obtain ⟨g, Hf, env, S, c, h⟩ := h
  refine ⟨g, Hf, env, S, c, Po.bindP h fun r S1 h1 v Hf1 H1 a1 w1 q1 => ?_⟩
  cases r with
  | d x =>
    cases x with
    | list xs =>
      cases q1 with
      | lst hh rr ll =>
        refine ⟨_, rfl, .inl ⟨⟨_, .inl (.inl (w1.sub _ _ hh))⟩, h1 _ Hf1 H1 a1 w1 ⟨_, _, iterV_listS, rr, ll, fun Hf2 H2 a2 => .inl (.inl (Gr.sub w1 a2 _ _ hh)), fun _ H2 a2 => .inl (.inl (a2 _ _ hh))⟩⟩⟩
    | tuple xs =>
      cases q1 with
      | tup hh rr ll =>
        refine ⟨_, rfl, .inr ⟨⟨_, SqT.mono w1.sub hh⟩, h1 _ Hf1 H1 a1 w1 ⟨_, _, iterV_tupS, rr, ll, fun Hf2 H2 a2 => SqT.mono (Gr.sub w1 a2) hh, fun _ H2 a2 => SqT.mono a2 hh⟩⟩⟩
    | _ => exact h1.elim
  | own xs =>
    obtain ⟨p, o, rfl, h0, hf, hg, hh, z⟩ := q1
    obtain ⟨vs, rfl, rr, ll⟩ := z.own
    exact ⟨_, rfl, .inl ⟨⟨vs, .inl (.inl hh)⟩, h1 _ Hf1 H1 a1 w1 ⟨vs, _, iterV_listS, rr, ll, fun Hf2 H2 a2 => .inl (.inl (a2.keep _ _ hh hg)), fun z => by cases z⟩⟩⟩
  | bor xs =>
    obtain ⟨p, vs, rfl, hf, hg, hh, rr, ll⟩ := q1
    exact ⟨_, rfl, .inl ⟨⟨vs, .inl (.inl hh)⟩, h1 _ Hf1 H1 a1 w1 ⟨vs, _, iterV_listS, rr, ll, fun Hf2 H2 a2 => .inl (.inl (a2.keep _ _ hh hg)), fun z => by cases z⟩⟩⟩
  | _ => exact h1.elim

/-- range(..) -/
def lim : Int := 4611686018427387904
theorem lim_eq : lim = 2 ^ 62 := by decide
noncomputable def rng1 : List SV → Option (List D × Bool)
  | [.d (.int j)] => @ite _ (-lim ≤ j ∧ j < lim ∧ j.toNat ≤ sizeLine) (Classical.propDecidable _) (some (rngD 0 1 j.toNat, true)) (none)
  | _ => none
noncomputable def rng2 : List SV → Option (List D × Bool)
  | [.d (.int i), .d (.int j)] => @ite _ (-lim ≤ i ∧ i < lim ∧ -lim ≤ j ∧ j < lim ∧ (j - i).toNat ≤ sizeLine) (Classical.propDecidable _) (some (rngD i 1 (j - i).toNat, true)) (none)
  | _ => none
def fRng (k : List SV → Option (List D × Bool)) (f : FA) : FI := fun env S => (f env S).bind fun rs S1 => optR (k rs) S1
theorem rvq_int {K : Frag} {g : G} {Hf H : Hp} {v : V} {i : Int} (h : RVq K g Hf H v (.d (.int i))) : v = .int i := by
  obtain ⟨_, h⟩ := h
  cases h; rfl
theorem di_rng1 {a : Expr} {fa : FA} (hg : Gl X "range") (hm : X.mg "range" = none) (ha : DA XO X E [a] fa) (hs : starEach [a] X.env = [(false, eval a X.env)] := by rfl) : DI XO X E tg (.Call (.Name "range" p) [a] [] pos) (fRng rng1 fa) := by
  refine ⟨PI.imp (pi_range1 hg hm ha.pa hs) fun σ H R h => ?_⟩
  obtain ⟨g, Hf, env, S, c, h⟩ := h
  refine ⟨g, Hf, env, S, c, Po.bindP h fun rs S1 h1 vs Hf1 H1 a1 w1 q1 => ?_⟩
  unfold rng1 at h1
  split at h1
  · rename_i j
    by_cases z : -lim ≤ j ∧ j < lim ∧ j.toNat ≤ sizeLine
    · rw [if_pos z] at h1
      cases q1 with
      | cons q t =>
        cases t
        cases rvq_int q
        rw [lim_eq] at z
        exact ⟨j, rfl, z.1, z.2.1, h1 _ Hf1 H1 a1 w1 ⟨_, _, iterV_rng, rng_rps _ _ _, by rw [rngV_len]; exact z.2.2, fun _ _ _ => trivial, fun _ _ _ => trivial⟩⟩
    · rw [if_neg z] at h1; exact h1.elim
  · exact h1.elim
theorem di_rng2 {a b : Expr} {fa : FA} (hg : Gl X "range") (hm : X.mg "range" = none) (ha : DA XO X E [a, b] fa) (hs : starEach [a, b] X.env = [(false, eval a X.env), (false, eval b X.env)] := by rfl) (hs2 : starEach [b] X.env = [(false, eval b X.env)] := by rfl) :
    DI XO X E tg (.Call (.Name "range" p) [a, b] [] pos) (fRng rng2 fa) := by
  refine ⟨PI.imp (pi_range2 hg hm ha.pa hs hs2) fun σ H R h => ?_⟩
  obtain ⟨g, Hf, env, S, c, h⟩ := h
  refine ⟨g, Hf, env, S, c, Po.bindP h fun rs S1 h1 vs Hf1 H1 a1 w1 q1 => ?_⟩
  unfold rng2 at h1
  split at h1
  · rename_i i j
    by_cases z : -lim ≤ i ∧ i < lim ∧ -lim ≤ j ∧ j < lim ∧ (j - i).toNat ≤ sizeLine
    · rw [if_pos z] at h1
      cases q1 with
      | cons q t =>
        cases t with
        | cons q2 t =>
          cases t
          cases rvq_int q
          cases rvq_int q2
          rw [lim_eq] at z
          exact ⟨i, j, rfl, ⟨z.1, z.2.1, z.2.2.1, z.2.2.2.1⟩, h1 _ Hf1 H1 a1 w1 ⟨_, _, iterV_rng, rng_rps _ _ _, by rw [rngV_len]; exact z.2.2.2.2, fun _ _ _ => trivial, fun _ _ _ => trivial⟩⟩
    · rw [if_neg z] at h1; exact h1.elim
  · exact h1.elim

/-! ### targets -/
theorem wipe_set_out {i : Nat} {x : Option V} : ∀ (ws : List Nat) (σ : L2.St), i ∉ ws → wipe (σ.set i x) ws = (wipe σ ws).set i x
  | [], _, _ => rfl
  | u :: us, σ, h => by
    simp only [List.mem_cons, not_or] at h
    show (wipe (σ.set i x) us).set u none = ((wipe σ us).set u none).set i x
    rw [wipe_set_out us σ h.2, List.set_comm _ _ h.1]
theorem wipe_set_in {i : Nat} {x : Option V} : ∀ (ws : List Nat) (σ : L2.St), i ∈ ws → wipe (σ.set i x) ws = wipe σ ws
  | [], _, h => by simp at h
  | w :: ws, σ, h => by
    show (wipe (σ.set i x) ws).set w none = (wipe σ ws).set w none
    by_cases z : i ∈ ws
    · rw [wipe_set_in ws σ z]
    · have e : i = w := by simpa [z] using h
      subst e
      rw [wipe_set_out ws σ z, List.set_set]
theorem wipe_none_in {j : Nat} : ∀ (us : List Nat) (σ : L2.St), j ∈ us → (wipe σ us).set j none = wipe σ us
  | [], _, h => by simp at h
  | u :: us, σ, h => by
    show ((wipe σ us).set u none).set j none = (wipe σ us).set u none
    by_cases z : j = u
    · subst z; rw [List.set_set]
    · have hj : j ∈ us := by simpa [z] using h
      rw [List.set_comm _ _ (Ne.symm z), wipe_none_in us σ hj]
theorem wipe_idem (σ : L2.St) (vs : List Nat) : wipe (wipe σ vs) vs = wipe σ vs := by
  have key : ∀ us : List Nat, (∀ j ∈ us, j ∈ vs) → wipe (wipe σ vs) us = wipe σ vs := by
    intro us
    induction us with
    | nil => intro _; rfl
    | cons u us ih =>
      intro hu
      show (wipe (wipe σ vs) us).set u none = wipe σ vs
      rw [ih fun j hj => hu j (List.mem_cons_of_mem _ hj)]
      exact wipe_none_in vs σ (hu u List.mem_cons_self)
  exact key vs fun _ z => z
inductive Tg where
  | nm (i : Nat) | tp (is : List Nat)
def setE (i : Nat) (r : SV) (env : EnvD) : Option EnvD := if i < env.length then some (env.set i r) else none
def setsE : List Nat → List D → EnvD → Option EnvD
  | [], [], env => some env
  | i :: is, x :: xs, env => (setE i (.d x) env).bind fun e => setsE is xs e
  | _, _, _ => none
def asgT : Tg → D → EnvD → Option EnvD
  | .nm i, x, env => setE i (.d x) env
  | .tp is, .tuple xs, env => setsE is xs env
  | .tp _, _, _ => none
def Tg.slots : Tg → List Nat
  | .nm i => [i]
  | .tp is => is
def gNames : List Nat → TGs
  | [] => gNil
  | i :: is => gCons (gName i) (gNames is)
def gTg (K : Frag) : Tg → TG
  | .nm i => gName i
  | .tp is => gTup K is.length (gNames is)
structure DG (X : Cx) (tg : Expr) (T : Tg) : Prop where
  pg : PG X tg (gTg X.K T)
theorem dg_nm {i : Nat} {x : Str} (hN : X.N.Nodup) (hi : X.N[i]? = some x) (hx : Loc X.env.scope x) (hf : X.fn x = true ∨ X.env.scope.names.lookup x = some .local := by first | exact .inl rfl | exact .inr rfl) : DG X (.Name x pos) (.nm i) := ⟨pg_name hN hi hx hf⟩
theorem dg_tp {es : List Expr} {k : Nat} {is : List Nat} (hc : X.calm = true) (h : PGs X es (gNames is)) (hn : (assignEach es X.env).length = is.length := by rfl) (hst : (assignEach es X.env).findIdx? (·.1) = none := by rfl) : DG X (.Tuple es k pos) (.tp is) :=
  ⟨pg_tup hc h hn hst⟩
/-- what a target does: all slots that it sets are among vs -/
theorem gNames_run {K : Frag} {g : G} {Hf H : Hp} {S : StD} : ∀ {is : List Nat} {ds : List D} {vs : List V} {env env' : EnvD} {σ : L2.St} {Q : L2.St → Hp → Prop}, Cn K g Hf env S σ H → Rps K Hf vs ds → setsE is ds env = some env' →
    (∀ σ', Cn K g Hf env' S σ' H → (∀ ws : List Nat, (∀ i ∈ is, i ∈ ws) → wipe σ' ws = wipe σ ws) → Q σ' H) → gNames is vs σ H Q
  | [], [], _, env, env', σ, Q, c, .nil, e, q => by
    cases e
    exact ⟨rfl, q σ c fun _ _ => rfl⟩
  | i :: is, x :: ds, v :: vs, env, env', σ, Q, c, .cons r t, e, q => by
    simp only [setsE, setE] at e
    by_cases hi : i < env.length
    · rw [if_pos hi, Option.bind_some] at e
      refine ⟨v, vs, rfl, ?_⟩
      have c' := c.set Gr.refl c.w (r := .d x) (v := v) r i hi (fun _ z => by cases z)
      refine gNames_run c' t e fun σ' c2 k => q σ' c2 fun ws hw => ?_
      rw [k ws fun j hj => hw j (List.mem_cons_of_mem _ hj)]
      exact wipe_set_in ws σ (hw i List.mem_cons_self)
    · rw [if_neg hi] at e; cases e
  | [], _ :: _, _, _, _, _, _, _, _, e, _ => by cases e
  | _ :: _, [], _, _, _, _, _, _, _, e, _ => by cases e
theorem gTg_run {K : Frag} {g : G} {Hf H : Hp} {S : StD} {T : Tg} {x : D} {v : V} {env env' : EnvD} {σ : L2.St} {Q : L2.St → Hp → Prop} (c : Cn K g Hf env S σ H) (r : Rp K Hf v x) (e : asgT T x env = some env')
    (q : ∀ σ', Cn K g Hf env' S σ' H → (∀ ws : List Nat, (∀ i ∈ T.slots, i ∈ ws) → wipe σ' ws = wipe σ ws) → Q σ' H) : gTg K T v σ H Q := by
  cases T with
  | nm i =>
    have e2 : setsE [i] [x] env = some env' := by
      simp only [asgT] at e
      simp only [setsE, e, Option.bind_some]
    have h := gNames_run (vs := [v]) c (.cons r .nil) e2 q
    obtain ⟨v', r', e3, h⟩ := h
    cases e3
    exact h.2
  | tp is =>
    cases x with
    | tuple ds =>
      cases r with
      | tup hh rr ll =>
        rename_i a xs
        have hl : ∀ {is : List Nat} {ds : List D} {env env' : EnvD}, setsE is ds env = some env' → ds.length = is.length := by
          intro is
          induction is with
          | nil => intro ds env env' e; cases ds with
            | nil => rfl
            | cons => cases e
          | cons i is ih => intro ds env env' e; cases ds with
            | nil => cases e
            | cons x xs =>
              simp only [setsE] at e
              cases z : setE i (.d x) env with
              | none => rw [z] at e; cases e
              | some e1 => rw [z] at e; simp [ih e]
        exact ⟨a, xs, rfl, SqT.mono c.w.sub hh, rr.length.trans (hl e), gNames_run c rr e q⟩
    | _ => cases e

/-! ### comprehensions -/
def wipeE (env : EnvD) : List Nat → EnvD
  | [] => env
  | v :: vs => (wipeE env vs).set v .no
def noX {α : Type} : Res α → Res α
  | .ex _ _ => .bad
  | r => r
@[simp] theorem noX_ok {α : Type} (a : α) (S : StD) : noX (.ok a S) = .ok a S := rfl
def lcGo (T : Tg) (ft : FT) (fe : FE) (env0 : EnvD) : List D → StD → Res (List D)
  | [], S => .ok [] S
  | x :: xs, S => match asgT T x env0 with
    | none => .bad
    | some env1 => (noX (ft env1 S)).bind fun b S1 => if b = true then (noX (fe env1 S1)).bind fun r S2 => match r with
        | .d y => (lcGo T ft fe env0 xs S2).bind fun ys S3 => .ok (y :: ys) S3
        | _ => .bad
      else lcGo T ft fe env0 xs S1
def fLc (vs : List Nat) (T : Tg) (fi : FI) (ft : FT) (fe : FE) : FE := fun env S => (fi env S).bind fun its S1 => (lcGo T ft fe (wipeE env vs) its.1 S1).bind fun ys S2 => .ok (.own ys) S2
end
section
variable {K : Frag} {g : G} {Hf H Hf1 H1 : Hp} {E : XK} {env : EnvD} {S S1 : StD} {σ : L2.St}
theorem Cn.wipes (c : Cn K g Hf env S σ H) : ∀ vs : List Nat, Cn K g Hf (wipeE env vs) S (wipe σ vs) H
  | [] => c
  | v :: vs => (c.wipes vs).wipe1 v
/-- an object that no slot stands for is changed -/
theorem Cn.updO (c : Cn K g Hf env S σ H) {D : Addr} {o : HO} (hD : Hf D = none) (hg : ¬ inG g D) (hn : ∀ (i : Nat) (r : SV), env[i]? = some r → r.isOwn = true → σ[i]? ≠ some (some (.ref D))) : Cn K g Hf env S σ (upd H D o) where
  w := ⟨fun a u q => by rw [upd_ne (ne_of_none q hD)]; exact c.w.sub a u q, by
    have := c.w.st
    cases g with
    | none => trivial
    | some q =>
      obtain ⟨x, y⟩ := q
      obtain ⟨h0, h1, h2, h3⟩ := this
      refine ⟨h0, ?_, ?_, h3⟩
      · rw [upd_ne (fun z => hg (by subst z; exact Or.inl rfl))]; exact h1
      · rw [upd_ne (fun z => hg (by subst z; exact Or.inr rfl))]; exact h2, c.w.gf⟩
  len := c.len
  sd := c.sd
  ss := c.ss
  sl := fun i r e h => by
    obtain ⟨p, u, h1, h2, h3, h4, h5⟩ := c.sl i r e h
    refine ⟨p, u, h1, h2, h3, ?_, h5⟩
    rw [upd_ne]
    · exact h4
    · rintro rfl; exact hn i r e h h1
  sn := c.sn
  sb := c.sb
theorem noX_po {α β : Type} {R : Hp → Hp → β → α → Prop} {Q : β → Hp → Prop} {x : Res α} {E E' : XK} (h : Po XO g Hf H E R Q (noX x)) : Po XO g Hf H E' R Q x := by
  cases x with
  | ok r S' => exact h
  | ex x S' => exact h.elim
  | bad => exact h
end
section
variable {X : Cx} {E : XK} {tg iter elt : Expr} {ifs : List Expr} {scope : Scope} {own : List (Str × Nat)} {pos : Pos}
/-- the tests of a clause -/
structure DTs (XO : XOT) (X : Cx) (ifs : List Expr) (f : FT) : Prop where
  pts : PTs X ifs (tDT XO X.K E0 f)
def fYes : FT := fun _ S => .ok true S
theorem PTs.imp {ifs : List Expr} {t t' : TT} (h : PTs X ifs t) (i : ∀ σ H Q, t' σ H Q → t σ H Q) : PTs X ifs t' := ⟨fun pins s σ H Q I q => h.run pins s σ H Q I (i σ H Q q)⟩
theorem dts_nil : DTs XO X [] fYes := ⟨PTs.imp pts_nil fun σ H Q h => by obtain ⟨g, Hf, env, S, c, h⟩ := h; exact h true Hf H Gr.refl c.w rfl⟩
theorem dts_one {c : Expr} {f : FT} (h : DT XO X E0 c f) : DTs XO X [c] f := ⟨pts_one h.pt⟩
theorem tLc_of {K : Frag} {fi : FI} {T : Tg} {ft : FT} {fe : FE} {vs : List Nat} (hT : ∀ i ∈ T.slots, i ∈ vs) {σ : L2.St} {H : Hp} {Q : VK} (h : tDE XO K E (fLc vs T fi ft fe) σ H Q) :
    tLc (tDI XO K E fi) (gTg K T) (tDT XO K E0 ft) (tDE XO K E0 fe) vs σ H Q := by
  obtain ⟨g, Hf, env, S, c, h⟩ := h
  refine ⟨g, Hf, env, S, c, Po.bindP h fun its S1 h1 J Hf1 H1 a1 w1 ⟨ws, ok, iv, rr, ll, st1, _⟩ D hD => ?_⟩
  have c1 := (c.step a1 w1).wipes vs
  have hgD := w1.notG hD
  have hfD := w1.freeP hD
  have hnD : ∀ (i : Nat) (r : SV), (wipeE env vs)[i]? = some r → r.isOwn = true → (wipe σ vs)[i]? ≠ some (some (.ref D)) := fun i r e ho z => by
    obtain ⟨p, o, e1, _, _, e2, _⟩ := c1.sl i r e ho
    rw [z] at e1; cases e1; rw [hD] at e2; cases e2
  have hlen := rr.length
  have p1 := h1.step a1
  refine ⟨fun i m H' => m = its.1.length - i ∧ i ≤ its.1.length ∧ ∃ Hfi Si acc accV, Cn K g Hfi (wipeE env vs) Si (wipe σ vs) H' ∧ Gr g Hf1 H1 Hfi H' ∧ H' D = some (.lst accV) ∧ Rps K Hfi accV acc ∧ accV.length ≤ i ∧ Hfi D = none ∧
    Po XO g Hf1 H1 E (RE K g H1) Q ((lcGo T ft fe (wipeE env vs) (its.1.drop i) Si).bind fun ys S2 => .ok (.own (acc ++ ys)) S2), ⟨its.1.length, by simp, Nat.zero_le _, Hf1, S1, [], [], c1.updO hfD hgD hnD, (w1.putO hD).2, upd_same, .nil, Nat.le_refl _, hfD, ?_⟩, ?_⟩
  · simpa using p1
  · rintro i m H' ⟨rfl, hi, Hfi, Si, acc, accV, ci, gi, di, ri, li, fi', po⟩
    by_cases hlt : i < its.1.length
    · have hw : i < ws.length := by omega
      refine .inr ⟨iv.go i H' (st1 _ _ gi) hw, fun H'' => i + 1 ≤ its.1.length ∧ ∃ Hfi Si acc accV, Cn K g Hfi (wipeE env vs) Si (wipe σ vs) H'' ∧ Gr g Hf1 H1 Hfi H'' ∧ H'' D = some (.lst accV) ∧ Rps K Hfi accV acc ∧ accV.length ≤ i + 1 ∧ Hfi D = none ∧
        Po XO g Hf1 H1 E (RE K g H1) Q ((lcGo T ft fe (wipeE env vs) (its.1.drop (i + 1)) Si).bind fun ys S2 => .ok (.own (acc ++ ys)) S2), fun H'' h2 => ⟨its.1.length - (i + 1), by omega, rfl, h2⟩, fun x H'' hy => ?_⟩
      obtain ⟨rfl, hx⟩ := iv.yld i H' x H'' (st1 _ _ gi) hw hy
      obtain ⟨d, hd, rd⟩ := Rps.get rr hx
      have hdr : its.1.drop i = d :: its.1.drop (i + 1) := by
        rw [List.drop_eq_getElem_cons hlt]
        rw [List.getElem?_eq_getElem hlt] at hd
        rw [Option.some.inj hd]
      rw [hdr] at po
      simp only [lcGo] at po
      cases e : asgT T d (wipeE env vs) with
      | none => rw [e] at po; exact po.elim
      | some env1 =>
        simp only [e] at po
        refine gTg_run ci (Rp.mono gi.ext rd) e fun σ2 c2 k2 => ⟨by rw [k2 vs hT, wipe_idem], ?_⟩
        cases zt : ft env1 Si with
        | ex x S' => rw [zt] at po; exact po.elim
        | bad => rw [zt] at po; exact po.elim
        | ok b S2 =>
          simp only [zt, noX_ok, Res.bind_ok] at po
          refine ⟨g, Hfi, env1, Si, c2, ?_⟩
          rw [zt]
          intro b' Hf2 H2 a2 w2 q2
          subst q2
          have hD2 := a2.keep D _ di hgD
          cases b' with
          | false =>
            simp only [Bool.false_eq_true, if_false] at po ⊢
            exact ⟨hlt, Hf2, S2, acc, accV, ci.step a2 w2, gi.trans a2, hD2, ri.mono a2.ext, by omega, a2.free di fi', po⟩
          | true =>
            simp only [if_true] at po ⊢
            refine ⟨g, Hf2, env1, S2, c2.step a2 w2, ?_⟩
            cases ze : fe env1 S2 with
            | ex x S' => rw [ze] at po; exact po.elim
            | bad => rw [ze] at po; exact po.elim
            | ok r S3 =>
              simp only [ze, noX_ok, Res.bind_ok] at po
              intro y Hf3 H3 a3 w3 q3
              have hD3 := a3.keep D _ hD2 hgD
              have hf3 := a3.free hD2 (a2.free di fi')
              cases r with
              | d z =>
                refine ⟨accV, hD3, by omega, hlt, Hf3, S3, acc ++ [z], accV ++ [y], ?_, ?_, upd_same, ?_, ?_, hf3, ?_⟩
                · exact ((ci.step a2 w2).step a3 w3).updO hf3 hgD hnD
                · have gg := (gi.trans a2).trans a3
                  refine ⟨gg.ext, fun b u q n => ?_, gg.grow, fun b q => ?_⟩
                  · rw [upd_ne (ne_of_none q hD)]; exact gg.keep b u q n
                  · by_cases zz : b = D
                    · subst zz; rw [upd_same]; simp
                    · rw [upd_ne zz]; exact gg.hin b q
                · exact ((ri.mono a2.ext).mono a3.ext).append (.cons q3 .nil)
                · simp; omega
                · cases zr : lcGo T ft fe (wipeE env vs) (its.1.drop (i + 1)) S3 with
                  | ok ys S4 => simpa only [zr, Res.bind_ok, List.append_assoc, List.cons_append, List.nil_append] using po
                  | ex x S' => simpa only [zr, Res.bind_ex] using po
                  | bad => simpa only [zr, Res.bind_bad] using po
              | _ => exact po.elim
    · have hie : i = its.1.length := by omega
      have hdr : its.1.drop i = [] := List.drop_eq_nil_of_le (by omega)
      rw [hdr] at po
      simp only [lcGo, Res.bind_ok, List.append_nil] at po
      exact .inl ⟨iv.stop i H' (st1 _ _ gi) (by omega), po (.ref D) Hfi H' gi ci.w ⟨D, .lst accV, rfl, hD, fi', hgD, di, ri, by omega⟩⟩
theorem d_lc {fi : FI} {T : Tg} {ft : FT} {fe : FE} (hc : X.calm = true) (hN : X.N.Nodup) (hi : DI XO X E tg iter fi) (ok : BlkOk X.N X.env.scope scope own) (hT : ∀ i ∈ T.slots, i ∈ own.map (·.2))
    (hg : ∀ (s : Shared) (H : Hp) (C : Addr) (cl : List (Str × Addr)) (fp : List Addr), DG (X.blk s H scope (compEnvC scope cl C X.env) fp) tg T)
    (ht : ∀ (s : Shared) (H : Hp) (C : Addr) (cl : List (Str × Addr)) (fp : List Addr), DTs XO (X.blk s H scope (compEnvC scope cl C X.env) fp) ifs ft)
    (he : ∀ (s : Shared) (H : Hp) (C : Addr) (cl : List (Str × Addr)) (fp : List Addr), DE XO (X.blk s H scope (compEnvC scope cl C X.env) fp) E0 elt fe) (hs : ∀ x, foldedSetIterable iter X.env x = pure x := by intro _; rfl) :
    DE XO X E (.ListComp elt [⟨tg, iter, ifs, 0⟩] scope pos) (fLc (own.map (·.2)) T fi ft fe) :=
  ⟨PE.imp (pe_lc hc hN hi.pi ok (fun s H C cl fp => (hg s H C cl fp).pg) (fun s H C cl fp => (ht s H C cl fp).pts) (fun s H C cl fp => (he s H C cl fp).pe) hs) fun _ _ _ h => tLc_of hT h⟩
end
end DV

/-! DV4: statements (DS, DSs), loops, defs. -/
namespace DV
open PySem PySem.Spec PyProof.Rows L2
variable {XO : XOT}

inductive SR where
  | nx (env : EnvD) (S : StD) | rt (r : SV) (S : StD) | bk (env : EnvD) (S : StD) | ct (env : EnvD) (S : StD) | ex (x : Ex) (S : StD) | bad
abbrev FS := EnvD → StD → SR
/-- a frame since the entry -/
structure SO (K : Frag) (g : G) (Hf0 H0 : Hp) (env : EnvD) (S : StD) (σ : L2.St) (H : Hp) (Hf : Hp) : Prop where
  cn : Cn K g Hf env S σ H
  gr : Gr g Hf0 H0 Hf H
  nw : ∀ (i : Nat) (r : SV) (p : Addr), env[i]? = some r → r.isOwn = true → σ[i]? = some (some (.ref p)) → H0 p = none
def PoS (XO : XOT) (K : Frag) (g : G) (Hf0 H0 Hs : Hp) (E : XK) (D : Ends) : SR → Prop
  | .nx env S => ∀ σ H Hf, SO K g Hf0 H0 env S σ H Hf → Same Hs Hf → D.nx σ H
  | .bk env S => ∀ σ H Hf, SO K g Hf0 H0 env S σ H Hf → Same Hs Hf → D.bk σ H
  | .ct env S => ∀ σ H Hf, SO K g Hf0 H0 env S σ H Hf → Same Hs Hf → D.ct σ H
  | .rt r S => ∀ v Hf' H', Gr g Hf0 H0 Hf' H' → Wk g Hf' S H' → RV K g H0 Hf' H' v r → D.rt v H'
  | .ex x S => ∀ c dd Hf' H', Gr g Hf0 H0 Hf' H' → Wk g Hf' S H' → XO x c dd Hf' H' → E c dd H'
  | .bad => False
def tDS (XO : XOT) (K : Frag) (E : XK) (f : FS) : TS := fun D σ H => ∃ g Hf0 H0 env S Hf, SO K g Hf0 H0 env S σ H Hf ∧ PoS XO K g Hf0 H0 Hf E D (f env S)
structure DS (XO : XOT) (X : Cx) (E : XK) (st : Stmt) (f : FS) : Prop where
  ps : PS X st (tDS XO X.K E f)
structure DSs (XO : XOT) (X : Cx) (E : XK) (st : List Stmt) (f : FS) : Prop where
  pss : PSs X st (tDS XO X.K E f)
def Res.toS {α : Type} : Res α → (α → StD → SR) → SR
  | .ok a S, k => k a S
  | .ex x S, _ => .ex x S
  | .bad, _ => .bad
@[simp] theorem Res.toS_ok {α : Type} (a : α) (S : StD) (k : α → StD → SR) : (Res.ok a S).toS k = k a S := rfl
@[simp] theorem Res.toS_ex {α : Type} (x : Ex) (S : StD) (k : α → StD → SR) : (Res.ex x S : Res α).toS k = .ex x S := rfl
@[simp] theorem Res.toS_bad {α : Type} (k : α → StD → SR) : (Res.bad : Res α).toS k = .bad := rfl

section
variable {K : Frag} {g : G} {Hf0 H0 Hf H Hf' H' : Hp} {E : XK} {env : EnvD} {S S' : StD} {σ : L2.St} {D : Ends}
theorem SO.step (o : SO K g Hf0 H0 env S σ H Hf) (a : Gr g Hf H Hf' H') (w : Wk g Hf' S' H') : SO K g Hf0 H0 env S' σ H' Hf' := ⟨o.cn.step a w, o.gr.trans a, o.nw⟩
theorem PoS.mono {Hs Hs' : Hp} (m : Same Hs Hs') {x : SR} (h : PoS XO K g Hf0 H0 Hs E D x) : PoS XO K g Hf0 H0 Hs' E D x := by
  cases x with
  | nx env S => exact fun σ H Hf o q => h σ H Hf o (m.trans q)
  | bk env S => exact fun σ H Hf o q => h σ H Hf o (m.trans q)
  | ct env S => exact fun σ H Hf o q => h σ H Hf o (m.trans q)
  | _ => exact h
theorem PoS.expr {α β : Type} {R : Hp → Hp → β → α → Prop} {Q : β → Hp → Prop} {x : Res α} {k : α → StD → SR} (o : SO K g Hf0 H0 env S σ H Hf) (h : PoS XO K g Hf0 H0 Hf E D (x.toS k))
    (hk : ∀ a S1, ∀ v Hf1 H1, PoS XO K g Hf0 H0 Hf1 E D (k a S1) → Gr g Hf H Hf1 H1 → Wk g Hf1 S1 H1 → R Hf1 H1 v a → Q v H1) : Po XO g Hf H E R Q x := by
  cases x with
  | ok a S1 => exact fun v Hf1 H1 b w q => hk a S1 v Hf1 H1 (PoS.mono b.ext h) b w q
  | ex y S1 => exact fun c dd Hf1 H1 b w q => h c dd Hf1 H1 (o.gr.trans b) w q
  | bad => exact h
theorem SO.set (o : SO K g Hf0 H0 env S σ H Hf) (a : Gr g Hf H Hf' H') (w : Wk g Hf' S' H') {v : V} {r : SV} (q : RV K g H Hf' H' v r) {i : Nat} {env' : EnvD} (e : setE i r env = some env') (nb : ∀ xs, r ≠ .bor xs) :
    SO K g Hf0 H0 env' S' (σ.set i (some v)) H' Hf' := by
  unfold setE at e
  split at e
  · rename_i hi
    cases e
    refine ⟨o.cn.set a w q i hi nb, o.gr.trans a, fun j r' p e1 h1 e2 => ?_⟩
    by_cases z : j = i
    · subst z
      rw [List.getElem?_set_self hi] at e1
      cases e1
      rw [List.getElem?_set_self (o.cn.len ▸ hi)] at e2
      have ev : v = .ref p := Option.some.inj (Option.some.inj e2)
      cases r with
      | own xs => obtain ⟨p2, o2, e, h0, _⟩ := q; rw [ev] at e; cases e; exact o.gr.non h0
      | dk xs => obtain ⟨p2, o2, e, h0, _⟩ := q; rw [ev] at e; cases e; exact o.gr.non h0
      | dt xs => obtain ⟨p2, o2, e, h0, _⟩ := q; rw [ev] at e; cases e; exact o.gr.non h0
      | _ => cases h1
    · rw [List.getElem?_set_ne (Ne.symm z)] at e1 e2
      exact o.nw j r' p e1 h1 e2
  · cases e
end
section
variable {X : Cx} {E : XK} {pos : Pos} {st : Stmt} {sts : List Stmt} {f f2 : FS} {e : Expr} {fe : FE}
def fNext : FS := fun env S => .nx env S
def fSeq (f u : FS) : FS := fun env S => match f env S with
  | .nx env' S' => u env' S'
  | r => r
theorem ds_nil : DSs XO X E [] fNext := ⟨PSs.imp pss_nil fun D σ H h => by obtain ⟨g, Hf0, H0, env, S, Hf, o, h⟩ := h; exact h σ H Hf o (Same.refl _)⟩
theorem seq_of {K : Frag} {D : Ends} {σ : L2.St} {H : Hp} (h : tDS XO K E (fSeq f f2) D σ H) : tSeq (tDS XO K E f) (tDS XO K E f2) D σ H := by
  obtain ⟨g, Hf0, H0, env, S, Hf, o, h⟩ := h
  refine ⟨g, Hf0, H0, env, S, Hf, o, ?_⟩
  unfold fSeq at h
  cases z : f env S with
  | nx env' S' => rw [z] at h; exact fun σ' H' Hf' o' m => ⟨g, Hf0, H0, env', S', Hf', o', h.mono m⟩
  | bk env' S' => rw [z] at h; exact h
  | ct env' S' => rw [z] at h; exact h
  | rt r S' => rw [z] at h; exact h
  | ex x S' => rw [z] at h; exact h
  | bad => rw [z] at h; exact h
theorem ds_cons (h1 : DS XO X E st f) (h2 : DSs XO X E sts f2) : DSs XO X E (st :: sts) (fSeq f f2) := ⟨PSs.imp (pss_cons h1.ps h2.pss) fun _ _ _ h => seq_of h⟩
theorem ds_one (h1 : DS XO X E st f) : DSs XO X E [st] f := ⟨pss_one h1.ps⟩
theorem ds_pass : DS XO X E (.Pass pos) fNext := ⟨PS.imp ps_pass fun D σ H h => by obtain ⟨g, Hf0, H0, env, S, Hf, o, h⟩ := h; exact h σ H Hf o (Same.refl _)⟩
def fBrk : FS := fun env S => .bk env S
def fCnt : FS := fun env S => .ct env S
theorem ds_break : DS XO X E (.Break pos) fBrk := ⟨PS.imp ps_break fun D σ H h => by obtain ⟨g, Hf0, H0, env, S, Hf, o, h⟩ := h; exact h σ H Hf o (Same.refl _)⟩
theorem ds_continue : DS XO X E (.Continue pos) fCnt := ⟨PS.imp ps_continue fun D σ H h => by obtain ⟨g, Hf0, H0, env, S, Hf, o, h⟩ := h; exact h σ H Hf o (Same.refl _)⟩
def fExpr (fe : FE) : FS := fun env S => (fe env S).toS fun _ S1 => .nx env S1
theorem ds_expr (he : DE XO X E e fe) (hs : swapsWith e none pos.line X.env = pure false := by rfl) : DS XO X E (.Expr e pos) (fExpr fe) := by
  refine ⟨PS.imp (ps_expr he.pe hs) fun D σ H h => ?_⟩
  obtain ⟨g, Hf0, H0, env, S, Hf, o, h⟩ := h
  exact ⟨g, Hf, env, S, o.cn, PoS.expr o h fun r S1 v Hf1 H1 h1 a1 w1 q1 => h1 σ H1 Hf1 (o.step a1 w1) (Same.refl _)⟩
def fRet (fe : FE) : FS := fun env S => (fe env S).toS fun r S1 => match r with
  | .bor _ => .bad
  | r => .rt r S1
theorem ds_ret (he : DE XO X E e fe) : DS XO X E (.Return (some e) pos) (fRet fe) := by
  refine ⟨PS.imp (ps_ret he.pe) fun D σ H h => ?_⟩
  obtain ⟨g, Hf0, H0, env, S, Hf, o, h⟩ := h
  refine ⟨g, Hf, env, S, o.cn, PoS.expr o h fun r S1 v Hf1 H1 h1 a1 w1 q1 => ?_⟩
  cases r with
  | bor xs => exact h1.elim
  | _ => exact h1 v Hf1 H1 (o.gr.trans a1) w1 (RV.back q1 o.gr)
def fRetN : FS := fun _ S => .rt (.d .none) S
theorem ds_retN : DS XO X E (.Return none pos) fRetN := ⟨PS.imp ps_retN fun D σ H h => by obtain ⟨g, Hf0, H0, env, S, Hf, o, h⟩ := h; exact h .non Hf H o.gr o.cn.w .non⟩
/-- a name that owns a list is handed back -/
def fRetV (i : Nat) : FS := fun env S => match env[i]? with
  | some (.d x) => .rt (.d x) S
  | some (.own xs) => .rt (.own xs) S
  | _ => .bad
theorem ds_retV (i : Nat) {x : Str} {p : Pos} (hN : X.N[i]? = some x := by rfl) (hv : Vis X.env.scope x := by first | exact Or.inl rfl | exact Or.inr (Or.inl rfl) | exact Or.inr (Or.inr rfl)) (hd : (x == ("__debug__" : Str)) = false := by decide)
    (hcd : (x == ("__classdict__" : Str)) = false := by decide) : DS XO X E (.Return (some (.Name x p)) pos) (fRetV i) := by
  refine ⟨PS.imp (ps_ret (pe_var hN hv hd hcd)) fun D σ H h => ?_⟩
  obtain ⟨g, Hf0, H0, env, S, Hf, o, h⟩ := h
  unfold fRetV at h
  cases e : env[i]? with
  | none => rw [e] at h; exact h.elim
  | some r =>
    rw [e] at h
    cases r with
    | d y =>
      obtain ⟨v, h1, h2⟩ := o.cn.sd i y e
      exact ⟨v, h1, h v Hf H o.gr o.cn.w h2⟩
    | own xs =>
      obtain ⟨p, ob, h1, h2, h3, h4, h5⟩ := o.cn.sl i _ e rfl
      exact ⟨.ref p, h1, h _ Hf H o.gr o.cn.w ⟨p, ob, rfl, o.nw i _ p e rfl h1, h2, h3, h4, h5⟩⟩
    | _ => exact h.elim
/-- name = value -/
def notBor : SV → Bool
  | .bor _ => false
  | _ => true
def fSet (i : Nat) (fe : FE) : FS := fun env S => (fe env S).toS fun r S1 => if notBor r = true then (match setE i r env with | some env' => .nx env' S1 | none => .bad) else .bad
theorem asg_of {K : Frag} {i : Nat} {D : Ends} {σ : L2.St} {H : Hp} (h : tDS XO K E (fSet i fe) D σ H) : tAsg (tDE XO K E fe) (gName i) D σ H := by
  obtain ⟨g, Hf0, H0, env, S, Hf, o, h⟩ := h
  refine ⟨g, Hf, env, S, o.cn, PoS.expr o h fun r S1 v Hf1 H1 h1 a1 w1 q1 => ?_⟩
  split at h1
  · rename_i nb
    cases z : setE i r env with
    | none => rw [z] at h1; exact h1.elim
    | some env' =>
      rw [z] at h1
      exact h1 _ _ _ (o.set a1 w1 q1 z fun xs e => by subst e; cases nb) (Same.refl _)
  · exact h1.elim
theorem ds_set {i : Nat} {x : Str} {p : Pos} (hN : X.N.Nodup) (hi : X.N[i]? = some x) (hx : Loc X.env.scope x) (he : DE XO X E e fe) (hs : swapsWith e (some (.Name x p)) pos.line X.env = pure false := by rfl)
    (hf : X.fn x = true ∨ X.env.scope.names.lookup x = some .local := by first | exact .inl rfl | exact .inr rfl) : DS XO X E (.Assign [.Name x p] e pos) (fSet i fe) :=
  ⟨PS.imp (ps_set hN hi hx he.pe hs hf) fun _ _ _ h => asg_of h⟩
/-- name = [.. for ..] -/
theorem ds_setLc {i : Nat} {y : Str} {py : Pos} {elt tg iter : Expr} {ifs : List Expr} {scope : Scope} {own : List (Str × Nat)} {spos : Pos} {fi : FI} {T : Tg} {ft : FT} (hc : X.calm = true) (hN : X.N.Nodup) (hy : X.N[i]? = some y) (hyl : X.env.scope.names.lookup y = some .local)
    (hsw : swapsWith (.ListComp elt [⟨tg, iter, ifs, 0⟩] scope pos) (some (.Name y py)) spos.line X.env = pure true) (hi : DI XO X E tg iter fi) (ok : BlkOk X.N X.env.scope scope own) (hT : ∀ i ∈ T.slots, i ∈ own.map (·.2))
    (hg : ∀ (s : Shared) (H : Hp) (C : Addr) (cl : List (Str × Addr)) (fp : List Addr), DG (X.blk s H scope (compEnvC scope cl C X.env) fp) tg T)
    (ht : ∀ (s : Shared) (H : Hp) (C : Addr) (cl : List (Str × Addr)) (fp : List Addr), DTs XO (X.blk s H scope (compEnvC scope cl C X.env) fp) ifs ft)
    (he : ∀ (s : Shared) (H : Hp) (C : Addr) (cl : List (Str × Addr)) (fp : List Addr), DE XO (X.blk s H scope (compEnvC scope cl C X.env) fp) E0 elt fe) (hs : ∀ x, foldedSetIterable iter X.env x = pure x := by intro _; rfl) :
    DS XO X E (.Assign [.Name y py] (.ListComp elt [⟨tg, iter, ifs, 0⟩] scope pos) spos) (fSet i (fLc (own.map (·.2)) T fi ft fe)) := by
  refine ⟨PS.imp (ps_setLc hc hN hy hyl hsw hi.pi ok (g := gTg X.K T) (fun s H C cl fp => (hg s H C cl fp).pg) (tt := tDT XO X.K E0 ft) (fun s H C cl fp => (ht s H C cl fp).pts) (te := tDE XO X.K E0 fe) (fun s H C cl fp => (he s H C cl fp).pe) hs) fun D σ H h => ?_⟩
  have h2 := asg_of h
  exact tLc_of (fe := fe) hT h2
/-- .. settled at once -/
theorem ds_setLcF {i : Nat} {y : Str} {py : Pos} {elt tg iter : Expr} {ifs : List Expr} {scope : Scope} {own : List (Str × Nat)} {spos : Pos} {fi : FI} {T : Tg} {ft : FT} (hc : X.calm = true) (hN : X.N.Nodup) (hy : X.N[i]? = some y) (hyl : X.env.scope.names.lookup y = some .local)
    (hsw : swapsWith (.ListComp elt [⟨tg, iter, ifs, 0⟩] scope pos) (some (.Name y py)) spos.line X.env = pure true) (hi : DI XO X E tg iter fi) (ok : BlkOk X.N X.env.scope scope own) (hT : ∀ i ∈ T.slots, i ∈ own.map (·.2))
    (hg : ∀ (s : Shared) (H : Hp) (C : Addr) (cl : List (Str × Addr)) (fp : List Addr), DG (X.blk s H scope (compEnvC scope cl C X.env) fp) tg T)
    (ht : ∀ (s : Shared) (H : Hp) (C : Addr) (cl : List (Str × Addr)) (fp : List Addr), DTs XO (X.blk s H scope (compEnvC scope cl C X.env) fp) ifs ft)
    (he : ∀ (s : Shared) (H : Hp) (C : Addr) (cl : List (Str × Addr)) (fp : List Addr), DE XO (X.blk s H scope (compEnvC scope cl C X.env) fp) E0 elt fe) (hs : ∀ x, foldedSetIterable iter X.env x = pure x := by intro _; rfl) :
    DS XO X E (.Assign [.Name y py] (.ListComp elt [⟨tg, iter, ifs, 0⟩] scope pos) spos) (fSet i (fFz (fLc (own.map (·.2)) T fi ft fe))) := by
  refine ⟨PS.imp (ps_setLc hc hN hy hyl hsw hi.pi ok (g := gTg X.K T) (fun s H C cl fp => (hg s H C cl fp).pg) (tt := tDT XO X.K E0 ft) (fun s H C cl fp => (ht s H C cl fp).pts) (te := tDE XO X.K E0 fe) (fun s H C cl fp => (he s H C cl fp).pe) hs) fun D σ H h => ?_⟩
  have h2 := asg_of h
  exact tLc_of (fe := fe) hT (fz_of h2)
/-- a, b = value (a tuple) -/
def fSetT (T : Tg) (fe : FE) : FS := fun env S => (fe env S).toS fun r S1 => match r with
  | .d x => (match asgT T x env with | some env' => .nx env' S1 | none => .bad)
  | _ => .bad
theorem setsE_own {is : List Nat} : ∀ {ds : List D} {env env' : EnvD}, setsE is ds env = some env' → ∀ (i : Nat) (r : SV), env'[i]? = some r → r.isOwn = true → env[i]? = some r ∧ i ∉ is := by
  induction is with
  | nil => intro ds env env' e i r h1 h2; cases ds with
    | nil => cases e; exact ⟨h1, by simp⟩
    | cons => cases e
  | cons k is ih => intro ds env env' e i r h1 h2; cases ds with
    | nil => cases e
    | cons x xs =>
      simp only [setsE, setE] at e
      by_cases hk : k < env.length
      · rw [if_pos hk, Option.bind_some] at e
        obtain ⟨h3, h4⟩ := ih e i r h1 h2
        by_cases z : i = k
        · subst z; rw [List.getElem?_set_self hk] at h3; cases h3; cases h2
        · rw [List.getElem?_set_ne (Ne.symm z)] at h3; exact ⟨h3, by simp [z, h4]⟩
      · rw [if_neg hk] at e; cases e
theorem asgT_own {T : Tg} {x : D} {env env' : EnvD} (e : asgT T x env = some env') (i : Nat) (r : SV) (h1 : env'[i]? = some r) (h2 : r.isOwn = true) : env[i]? = some r ∧ i ∉ T.slots := by
  cases T with
  | nm k => exact setsE_own (is := [k]) (ds := [x]) (by simp only [asgT] at e; simp only [setsE, e, Option.bind_some]) i r h1 h2
  | tp is => cases x with
    | tuple ds => exact setsE_own e i r h1 h2
    | _ => cases e
/-- the other slots stand -/
theorem gTg_run2 {K : Frag} {g : G} {Hf H : Hp} {S : StD} {T : Tg} {x : D} {v : V} {env env' : EnvD} {σ : L2.St} {Q : L2.St → Hp → Prop} (c : Cn K g Hf env S σ H) (r : Rp K Hf v x) (e : asgT T x env = some env')
    (q : ∀ σ', Cn K g Hf env' S σ' H → (∀ i, i ∉ T.slots → σ'[i]? = σ[i]?) → Q σ' H) : gTg K T v σ H Q := by
  refine gTg_run c r e fun σ' c' k => q σ' c' fun i hi => ?_
  have h := k T.slots fun _ z => z
  have h1 := congrArg (fun l => l[i]?) h
  simpa only [wipe_out hi] using h1
theorem SO.asg {K : Frag} {g : G} {Hf0 H0 Hf H : Hp} {env : EnvD} {S : StD} {σ σ' : L2.St} {T : Tg} {x : D} {env' : EnvD} (o : SO K g Hf0 H0 env S σ H Hf) (e : asgT T x env = some env') (c : Cn K g Hf env' S σ' H) (k : ∀ i, i ∉ T.slots → σ'[i]? = σ[i]?) :
    SO K g Hf0 H0 env' S σ' H Hf := ⟨c, o.gr, fun i r p h1 h2 h3 => by
  obtain ⟨h4, h5⟩ := asgT_own e i r h1 h2
  rw [k i h5] at h3
  exact o.nw i r p h4 h2 h3⟩
theorem ds_setT {tg : Expr} {T : Tg} (he : DE XO X E e fe) (hg : DG X tg T) (hs : swapsWithSole [tg] e pos.line X.env = pure false := by rfl) (hw : swappedStores [tg] e X.env = pure none := by rfl) (h1 : (assignEach [tg] X.env).map (·.2) = [assign tg X.env] := by rfl) :
    DS XO X E (.Assign [tg] e pos) (fSetT T fe) := by
  refine ⟨PS.imp (ps_asg he.pe hg.pg hs hw h1) fun D σ H h => ?_⟩
  obtain ⟨g, Hf0, H0, env, S, Hf, o, h⟩ := h
  refine ⟨g, Hf, env, S, o.cn, PoS.expr o h fun r S1 v Hf1 H1 h1 a1 w1 q1 => ?_⟩
  cases r with
  | d x =>
    cases z : asgT T x env with
    | none => simp only [z] at h1; exact h1.elim
    | some env' =>
      simp only [z] at h1
      exact gTg_run2 (o.cn.step a1 w1) q1 z fun σ' c' k => h1 σ' H1 Hf1 ((o.step a1 w1).asg z c' k) (Same.refl _)
  | _ => exact h1.elim
/-- a, b = x, y with plain local names -/
def fPar (i j : Nat) (fa : FA) : FS := fun env S => (fa env S).toS fun rs S1 => match rs with
  | [.d x, .d y] => (match (setE i (.d x) env).bind (setE j (.d y)) with | some env' => .nx env' S1 | none => .bad)
  | _ => .bad
theorem ds_par {i j : Nat} {x y : Str} {a b : Expr} {fa : FA} {px py pt : Pos} {kt k2 pt2} (hc : X.calm = true) (hN : X.N.Nodup) (hi : X.N[i]? = some x) (hj : X.N[j]? = some y) (hij : i ≠ j)
    (hx : X.env.scope.names.lookup x = some .local) (hy : X.env.scope.names.lookup y = some .local) (ha : DA XO X E [a, b] fa)
    (hw : swappedStores [.Tuple [.Name x px, .Name y py] kt pt] (.Tuple [a, b] k2 pt2) X.env = pure (some [x, y]))
    (hs : swapsWithSole [.Tuple [.Name x px, .Name y py] kt pt] (.Tuple [a, b] k2 pt2) pos.line X.env = pure false := by rfl) :
    DS XO X E (.Assign [.Tuple [.Name x px, .Name y py] kt pt] (.Tuple [a, b] k2 pt2) pos) (fPar i j fa) := by
  refine ⟨PS.imp (ps_par hc hN hi hj hij hx hy ha.pa hw hs) fun D σ H h => ?_⟩
  obtain ⟨g, Hf0, H0, env, S, Hf, o, h⟩ := h
  refine ⟨g, Hf, env, S, o.cn, PoS.expr o h fun rs S1 vs Hf1 H1 h1 a1 w1 q1 => ?_⟩
  split at h1
  · rename_i u w
    cases q1 with
    | cons qa t =>
      cases t with
      | cons qb t =>
        cases t
        rename_i va vb
        obtain ⟨_, qa⟩ := qa
        obtain ⟨_, qb⟩ := qb
        refine ⟨va, vb, rfl, ?_⟩
        cases z : setE i (.d u) env with
        | none => simp only [z, Option.bind_none] at h1; exact h1.elim
        | some e1 =>
          cases z2 : setE j (.d w) e1 with
          | none => simp only [z, Option.bind_some, z2] at h1; exact h1.elim
          | some e2 =>
            simp only [z, Option.bind_some, z2] at h1
            have o1 := (o.step a1 w1).set Gr.refl w1 (v := va) (r := .d u) qa z fun _ y => by cases y
            exact h1 _ _ _ (o1.set Gr.refl w1 (v := vb) (r := .d w) qb z2 fun _ y => by cases y) (Same.refl _)
  · exact h1.elim
/-- if -/
def fIfS (t : FT) (a b : FS) : FS := fun env S => (t env S).toS fun k S1 => if k = true then a env S1 else b env S1
theorem ds_if {c : Expr} {a b : List Stmt} {t : FT} {fa fb : FS} (hc : DT XO X E c t) (ha : DSs XO X E a fa) (hb : DSs XO X E b fb) : DS XO X E (.If c a b pos) (fIfS t fa fb) := by
  refine ⟨PS.imp (ps_if hc.pt ha.pss hb.pss) fun D σ H h => ?_⟩
  obtain ⟨g, Hf0, H0, env, S, Hf, o, h⟩ := h
  refine ⟨g, Hf, env, S, o.cn, PoS.expr o h fun k S1 v Hf1 H1 h1 a1 w1 q1 => ?_⟩
  subst q1
  cases v with
  | true => exact ⟨g, Hf0, H0, env, S1, Hf1, o.step a1 w1, h1⟩
  | false => exact ⟨g, Hf0, H0, env, S1, Hf1, o.step a1 w1, h1⟩
/-- name op= value -/
def fAug (i : Nat) (op : SV → SV → Option SV) (fe : FE) : FS := fun env S => match env[i]? with
  | some (.d x) => (fe env S).toS fun r S1 => match op (.d x) r with
    | some z => if notBor z = true then (match setE i z env with | some env' => .nx env' S1 | none => .bad) else .bad
    | none => .bad
  | _ => .bad
theorem ds_aug {i : Nat} {x : Str} {op : Operator} {r : R2} {o : SV → SV → Option SV} {p : Pos} (hN : X.N.Nodup) (hi : X.N[i]? = some x) (hx : Loc X.env.scope x) (hr : OpR X (inplaceOp op) r) (ho : Op2 X.K r o) (he : DE XO X E e fe)
    (hf : X.fn x = true ∨ X.env.scope.names.lookup x = some .local := by first | exact .inl rfl | exact .inr rfl) : DS XO X E (.AugAssign (.Name x p) op e pos) (fAug i o fe) := by
  refine ⟨PS.imp (ps_aug (ti := r) hN hi hx he.pe (fun pins s σ H x y v u Q I rx ry q => hr pins s σ H x y v u Q I rx ry q) hf) fun D σ H h => ?_⟩
  obtain ⟨g, Hf0, H0, env, S, Hf, oo, h⟩ := h
  unfold fAug at h
  split at h
  · rename_i y ey
    obtain ⟨v, h1, h2⟩ := oo.cn.sd i y ey
    refine ⟨v, h1, g, Hf, env, S, oo.cn, PoS.expr oo h fun rr S1 v1 Hf1 H1 h3 a1 w1 q1 => ?_⟩
    cases z : o (.d y) rr with
    | none => simp only [z] at h3; exact h3.elim
    | some rz =>
      simp only [z] at h3
      refine ho g Hf1 S1 H1 v v1 (.d y) rr rz _ w1 ⟨H, Rp.mono a1.ext h2⟩ ⟨H, q1⟩ z fun v2 Hf2 H2 a2 w2 q2 => ?_
      split at h3
      · rename_i nb
        cases zz : setE i rz env with
        | none => rw [zz] at h3; exact h3.elim
        | some env' =>
          rw [zz] at h3
          exact h3 _ _ _ ((oo.step a1 w1).set a2 w2 q2 zz fun xs e => by subst e; cases nb) a2.ext
      · exact h3.elim
  · exact h.elim
/-- an owned list settles ahead of a statement -/
def settleE (i : Nat) (env : EnvD) : Option EnvD := match env[i]? with
  | some (.own xs) => some (env.set i (.d (.list xs)))
  | some (.d x) => some env
  | _ => none
def fStl (i : Nat) (f : FS) : FS := fun env S => match settleE i env with
  | some env' => f env' S
  | none => .bad
theorem SO.settle {K : Frag} {g : G} {Hf0 H0 Hf H : Hp} {env : EnvD} {S : StD} {σ : L2.St} {i : Nat} {env' : EnvD} (o : SO K g Hf0 H0 env S σ H Hf) (e : settleE i env = some env') : ∃ Hf', SO K g Hf0 H0 env' S σ H Hf' ∧ Same Hf Hf' := by
  unfold settleE at e
  split at e
  · rename_i xs ex
    cases e
    have hi : i < env.length := (List.getElem?_eq_some_iff.mp ex).1
    obtain ⟨Hf', c', p, ob, rfl, e1, e2⟩ := o.cn.settle ex
    have hp0 := o.nw i _ p ex rfl e1
    refine ⟨_, ⟨c', ⟨fun b u q => ?_, o.gr.keep, fun b u q => ?_, o.gr.hin⟩, fun j r q h1 h2 h3 => ?_⟩, fun b u q => by rw [upd_ne (ne_of_none q e2)]; exact q⟩
    · rw [upd_ne (ne_of_none (o.gr.ext b u q) e2)]; exact o.gr.ext b u q
    · by_cases z : b = p
      · subst z; exact .inr hp0
      · rw [upd_ne z] at q; exact o.gr.grow b u q
    · by_cases z : j = i
      · subst z; rw [List.getElem?_set_self hi] at h1; cases h1; cases h2
      · rw [List.getElem?_set_ne (Ne.symm z)] at h1; exact o.nw j r q h1 h2 h3
  · cases e; exact ⟨Hf, o, Same.refl _⟩
  · cases e
theorem ds_stl (i : Nat) (h : DS XO X E st f) : DS XO X E st (fStl i f) := by
  refine ⟨PS.imp h.ps fun D σ H h => ?_⟩
  obtain ⟨g, Hf0, H0, env, S, Hf, o, h⟩ := h
  unfold fStl at h
  cases z : settleE i env with
  | none => rw [z] at h; exact h.elim
  | some env' =>
    rw [z] at h
    obtain ⟨Hf', o', m⟩ := o.settle z
    exact ⟨g, Hf0, H0, env', S, Hf', o', h.mono m⟩

/-! ### for, while -/
def forGo (T : Tg) (body : FS) : List D → FS
  | [], env, S => .nx env S
  | x :: xs, env, S => match asgT T x env with
    | none => .bad
    | some env1 => match body env1 S with
      | .nx e s => forGo T body xs e s
      | .ct e s => forGo T body xs e s
      | .bk e s => .nx e s
      | r => r
def fFor (T : Tg) (fi : FI) (body : FS) : FS := fun env S => (fi env S).toS fun its S1 => if its.2 = true then forGo T body its.1 env S1 else .bad
theorem ds_for {tg iter : Expr} {body : List Stmt} {fi : FI} {T : Tg} {fb : FS} (hp : PassesOwn (model X.prog X.w) X.A X.env X.xe) (hc : X.calm = true) (hi : DI XO X E tg iter fi) (hg : DG X tg T) (hb : DSs XO X E body fb)
    (hs : ∀ x, foldedSetIterable iter X.env x = pure x := by intro _; rfl) : DS XO X E (.For tg iter body [] pos) (fFor T fi fb) := by
  refine ⟨PS.imp (ps_for hp hc hi.pi hg.pg hb.pss hs) fun D σ H h => ?_⟩
  obtain ⟨g, Hf0, H0, env, S, Hf, o, h⟩ := h
  refine ⟨g, Hf, env, S, o.cn, PoS.expr o h fun its S1 J Hf1 H1 h1 a1 w1 ⟨ws, ok, iv, rr, ll, _, st2⟩ => ?_⟩
  split at h1
  · rename_i hf
    have st := st2 hf
    have hlen := rr.length
    refine ⟨fun i m σ H => m = its.1.length - i ∧ i ≤ its.1.length ∧ ∃ env S Hf, SO X.K g Hf0 H0 env S σ H Hf ∧ Same Hf1 Hf ∧ PoS XO X.K g Hf0 H0 Hf1 E D (forGo T fb (its.1.drop i) env S), ⟨_, rfl, Nat.zero_le _, env, S1, Hf1, o.step a1 w1, Same.refl _, h1⟩, ?_⟩
    rintro i m σ H ⟨rfl, hi, env, S, Hf, o, sf, po⟩
    have sm : Same Hf1 H := sf.trans o.cn.w.sub
    by_cases hlt : i < its.1.length
    · have hw : i < ws.length := by omega
      refine .inr ⟨iv.go i H (st _ sm) hw, fun σ H => i + 1 ≤ its.1.length ∧ ∃ env S Hf, SO X.K g Hf0 H0 env S σ H Hf ∧ Same Hf1 Hf ∧ PoS XO X.K g Hf0 H0 Hf1 E D (forGo T fb (its.1.drop (i + 1)) env S), fun σ' H' h2 => ⟨its.1.length - (i + 1), by omega, rfl, h2⟩, fun x H'' hy => ?_⟩
      obtain ⟨rfl, hx⟩ := iv.yld i H x H'' (st _ sm) hw hy
      obtain ⟨d, hd, rd⟩ := Rps.get rr hx
      have hdr : its.1.drop i = d :: its.1.drop (i + 1) := by
        rw [List.drop_eq_getElem_cons hlt]
        rw [List.getElem?_eq_getElem hlt] at hd
        rw [Option.some.inj hd]
      rw [hdr] at po
      simp only [forGo] at po
      cases e : asgT T d env with
      | none => rw [e] at po; exact po.elim
      | some env1 =>
        simp only [e] at po
        refine gTg_run2 o.cn (Rp.mono sf rd) e fun σ2 c2 k2 => ?_
        refine ⟨g, Hf0, H0, env1, S, Hf, o.asg e c2 k2, ?_⟩
        cases zb : fb env1 S with
        | nx e2 s2 => simp only [zb] at po; exact fun σ3 H3 Hf3 o3 m3 => ⟨hlt, e2, s2, Hf3, o3, sf.trans m3, po⟩
        | ct e2 s2 => simp only [zb] at po; exact fun σ3 H3 Hf3 o3 m3 => ⟨hlt, e2, s2, Hf3, o3, sf.trans m3, po⟩
        | bk e2 s2 => simp only [zb] at po; exact fun σ3 H3 Hf3 o3 m3 => po σ3 H3 Hf3 o3 (sf.trans m3)
        | rt r s2 => simp only [zb] at po; exact po
        | ex x s2 => simp only [zb] at po; exact po
        | bad => simp only [zb] at po; exact po
    · have hdr : its.1.drop i = [] := List.drop_eq_nil_of_le (by omega)
      rw [hdr] at po
      exact .inl ⟨iv.stop i H (st _ sm) (by omega), po σ H Hf o sf⟩
  · exact h1.elim
def whGo (t : FT) (body : FS) : Nat → FS
  | 0, _, _ => .bad
  | n + 1, env, S => (t env S).toS fun k S1 => if k = true then (match body env S1 with
      | .nx e s => whGo t body n e s
      | .ct e s => whGo t body n e s
      | .bk e s => .nx e s
      | r => r) else .nx env S1
theorem ds_while {c : Expr} {body : List Stmt} {t : FT} {fb : FS} (n : Nat) (hp : PassesOwn (model X.prog X.w) X.A X.env X.xe) (hc : DT XO X E c t) (hb : DSs XO X E body fb) : DS XO X E (.While c body [] pos) (whGo t fb n) := by
  refine ⟨PS.imp (ps_while hp hc.pt hb.pss) fun D σ H h => ?_⟩
  obtain ⟨g, Hf0, H0, env, S, Hf1, o, h⟩ := h
  refine ⟨fun m σ H => ∃ env S Hf, SO X.K g Hf0 H0 env S σ H Hf ∧ Same Hf1 Hf ∧ PoS XO X.K g Hf0 H0 Hf1 E D (whGo t fb m env S), ⟨n, env, S, Hf1, o, Same.refl _, h⟩, ?_⟩
  rintro m σ H ⟨env, S, Hf, o, sf, po⟩
  cases m with
  | zero => exact po.elim
  | succ m =>
    simp only [whGo] at po
    refine ⟨g, Hf, env, S, o.cn, ?_⟩
    cases zt : t env S with
    | ex x s => rw [zt] at po; exact fun c dd Hf1 H1 b w q => po c dd Hf1 H1 (o.gr.trans b) w q
    | bad => rw [zt] at po; exact po.elim
    | ok k S1 =>
      simp only [zt, Res.toS_ok] at po
      intro v Hf2 H2 a2 w2 q2
      subst q2
      have o2 := o.step a2 w2
      have s2 := sf.trans a2.ext
      cases v with
      | false =>
        simp only [Bool.false_eq_true, if_false] at po ⊢
        exact po σ H2 Hf2 o2 s2
      | true =>
        simp only [if_true] at po ⊢
        refine ⟨fun σ' H' => ∃ env S Hf, SO X.K g Hf0 H0 env S σ' H' Hf ∧ Same Hf1 Hf ∧ PoS XO X.K g Hf0 H0 Hf1 E D (whGo t fb m env S), fun σ' H' h => ⟨m, Nat.lt_succ_self m, h⟩, g, Hf0, H0, env, S1, Hf2, o2, ?_⟩
        cases zb : fb env S1 with
        | nx e2 s3 => simp only [zb] at po; exact fun σ3 H3 Hf3 o3 m3 => ⟨e2, s3, Hf3, o3, s2.trans m3, po⟩
        | ct e2 s3 => simp only [zb] at po; exact fun σ3 H3 Hf3 o3 m3 => ⟨e2, s3, Hf3, o3, s2.trans m3, po⟩
        | bk e2 s3 => simp only [zb] at po; exact fun σ3 H3 Hf3 o3 m3 => po σ3 H3 Hf3 o3 (s2.trans m3)
        | rt r s3 => simp only [zb] at po; exact po
        | ex x s3 => simp only [zb] at po; exact po
        | bad => simp only [zb] at po; exact po

/-! ### lists of one's own are changed -/
theorem SO.chg {K : Frag} {g : G} {Hf0 H0 Hf H : Hp} {env : EnvD} {S : StD} {σ : L2.St} {i : Nat} {r r' : SV} {p : Addr} {o' : HO} (o : SO K g Hf0 H0 env S σ H Hf) (e : env[i]? = some r) (ho : r.isOwn = true) (ho' : r'.isOwn = true) (hp : σ[i]? = some (some (.ref p))) (hr : HOf K Hf r' o') :
    SO K g Hf0 H0 (env.set i r') S σ (upd H p o') Hf := by
  have h0 := o.nw i r p e ho hp
  have hi : i < env.length := (List.getElem?_eq_some_iff.mp e).1
  refine ⟨o.cn.change e ho ho' hp hr, ⟨o.gr.ext, fun b u q n => ?_, o.gr.grow, fun b q => ?_⟩, fun j r2 q h1 h2 h3 => ?_⟩
  · rw [upd_ne (ne_of_none q h0)]; exact o.gr.keep b u q n
  · by_cases z : b = p
    · subst z; rw [upd_same]; simp
    · rw [upd_ne z]; exact o.gr.hin b q
  · by_cases z : j = i
    · subst z; rw [hp] at h3; cases h3; exact h0
    · rw [List.getElem?_set_ne (Ne.symm z)] at h1; exact o.nw j r2 q h1 h2 h3
/-- an owned slot, at the heap as it stands -/
theorem SO.own {K : Frag} {g : G} {Hf0 H0 Hf H : Hp} {env : EnvD} {S : StD} {σ : L2.St} {i : Nat} {xs : List D} (o : SO K g Hf0 H0 env S σ H Hf) (e : env[i]? = some (.own xs)) :
    ∃ p vs, σ[i]? = some (some (.ref p)) ∧ H p = some (.lst vs) ∧ Rps K Hf vs xs ∧ vs.length ≤ sizeLine ∧ Hf p = none := by
  obtain ⟨p, ob, h1, h2, h3, h4, h5⟩ := o.cn.sl i _ e rfl
  obtain ⟨vs, rfl, h6, h7⟩ := h5.own
  exact ⟨p, vs, h1, h4, h6, h7, h2⟩
/-- a method of an owned list, one argument: the value is dropped -/
def fM1 (i : Nat) (op : List D → SV → Option (List D)) (fe : FE) : FS := fun env S => match env[i]? with
  | some (.own xs) => (fe env S).toS fun r S1 => (match op xs r with | some ys => .nx (env.set i (.own ys)) S1 | none => .bad)
  | _ => .bad
/-- what a method of a list is to do -/
def MtO (r : V → List V → Hp → VK → Prop) (op : List D → SV → Option (List D)) : Prop := ∀ (K : Frag) (g : G) (Hf H : Hp) (S : StD) (q : Addr) (vs : List V) (xs ys : List D) (v : V) (rx : SV) (Q : VK), Wk g Hf S H → H q = some (.lst vs) → Hf q = none → Rps K Hf vs xs → vs.length ≤ sizeLine → RVq K g Hf H v rx → op xs rx = some ys →
      (∀ ws u, Rps K Hf ws ys → ws.length ≤ sizeLine → Q u (upd H q (.lst ws))) → r (.ref q) [v] H Q
theorem ds_m1 {id : String} {m x : Str} {r : V → List V → Hp → VK → Prop} {i : Nat} {p apos cpos : Pos} {op : List D → SV → Option (List D)} (slot : Slot "list" m id) (hty : typeOf (.builtin id) = pure (.type "method_descriptor")) (hm : MtR X id r) (hr : MtO r op)
    (hN : X.N[i]? = some x) (hv : Vis X.env.scope x) (he : DE XO X E e fe) (hd : (x == ("__debug__" : Str)) = false := by decide) (hcd : (x == ("__classdict__" : Str)) = false := by decide)
    (hs : swapsWith (.Call (.Attribute (.Name x p) m apos) [e] [] cpos) none pos.line X.env = pure false := by rfl)
    (hbase : attributeBase (.Name x p) m X.env (eval (.Name x p) X.env) = eval (.Name x p) X.env := by rfl)
    (hfew : ((backTo cpos (starEach (e :: []) X.env)).all (fun x => !x.1) && (backToKw cpos (keywordEach [] X.env)).all (fun x => x.1.isSome)
      && decide ((e :: []).length + ([] : List Keyword).length + (if ([] : List Keyword).isEmpty then 0 else 1) < 30)) = true := by rfl)
    (hline : (apos.endLine == cpos.line) = true := by rfl) (hs2 : starEach (e :: []) X.env = (false, eval e X.env) :: starEach [] X.env := by rfl) :
    DS XO X E (.Expr (.Call (.Attribute (.Name x p) m apos) [e] [] cpos) pos) (fM1 i op fe) := by
  refine ⟨PS.imp (ps_expr (pe_bm PySem.F.plainAttrs_list slot hty hm (pe_var hN hv hd hcd) (pa_cons he.pe pa_nil hs2) hbase hfew hline hs2) hs) fun D σ H h => ?_⟩
  obtain ⟨g, Hf0, H0, env, S, Hf, o, h⟩ := h
  unfold fM1 at h
  split at h
  · rename_i xs ex
    obtain ⟨q, vs, h1, h2, h3, h4, h5⟩ := o.own ex
    refine ⟨.ref q, h1, .inl ⟨rfl, vs, .inl (.inl h2)⟩, g, Hf, env, S, o.cn, PoS.expr o h fun r1 S1 v Hf1 H1 hh a1 w1 q1 => ?_⟩
    have o1 := o.step a1 w1
    obtain ⟨q', vs', k1, k2, k3, k4, k5⟩ := o1.own ex
    rw [h1] at k1
    cases k1
    cases z : op xs r1 with
    | none => simp only [z] at hh; exact hh.elim
    | some ys =>
      simp only [z] at hh
      exact hr X.K g Hf1 H1 S1 q vs' xs ys v r1 _ w1 k2 k5 k3 k4 ⟨H, q1⟩ z fun ws u r2 l2 => hh _ _ _ (o1.chg (o' := .lst ws) ex rfl rfl h1 ⟨r2, l2⟩) (Same.refl _)
  · exact h.elim
def opApp (xs : List D) : SV → Option (List D)
  | .d y => if xs.length < sizeLine then some (xs ++ [y]) else none
  | _ => none
theorem mo_app : MtO rAppend opApp := fun K g Hf H S q vs xs ys v rx Q w h0 h1 h2 h3 h4 e hq => by
  cases rx with
  | d y =>
    simp only [opApp] at e
    split at e
    · cases e
      obtain ⟨_, h4⟩ := h4
      have hl := h2.length
      exact ⟨q, vs, v, rfl, rfl, h0, by omega, hq _ _ (h2.append (.cons h4 .nil)) (by simp; omega)⟩
    · cases e
  | _ => cases e
def opExt (xs : List D) : SV → Option (List D)
  | .d (.list ys) => if xs.length + ys.length ≤ sizeLine then some (xs ++ ys) else none
  | .own ys => if xs.length + ys.length ≤ sizeLine then some (xs ++ ys) else none
  | .bor ys => if xs.length + ys.length ≤ sizeLine then some (xs ++ ys) else none
  | _ => none
theorem opExt_eq (xs : List D) (r : SV) (zs : List D) (h : opExt xs r = some zs) : ∃ ys, r.rd = some (.list ys) ∧ zs = xs ++ ys ∧ xs.length + ys.length ≤ sizeLine := by
  unfold opExt at h
  split at h
  · split at h
    · cases h; exact ⟨_, rfl, rfl, by assumption⟩
    · cases h
  · split at h
    · cases h; exact ⟨_, rfl, rfl, by assumption⟩
    · cases h
  · split at h
    · cases h; exact ⟨_, rfl, rfl, by assumption⟩
    · cases h
  · cases h
/-- the list's values at the settled heap -/
theorem RVq.lst {K : Frag} {g : G} {Hf H : Hp} {S : StD} {v : V} {r : SV} {ys : List D} (w : Wk g Hf S H) (h : RVq K g Hf H v r) (e : r.rd = some (.list ys)) : ∃ p vs, v = .ref p ∧ H p = some (.lst vs) ∧ Rps K Hf vs ys ∧ vs.length ≤ sizeLine := by
  obtain ⟨H0, h⟩ := h
  cases r with
  | d x => cases e; cases h with
    | lst h1 h2 h3 => exact ⟨_, _, rfl, w.sub _ _ h1, h2, h3⟩
  | own xs =>
    cases e
    obtain ⟨p, o, rfl, _, _, _, h, z⟩ := h
    obtain ⟨vs, rfl, z⟩ := z.own
    exact ⟨p, vs, rfl, h, z.1, z.2⟩
  | bor xs => cases e; obtain ⟨p, vs, rfl, _, _, h, z, l⟩ := h; exact ⟨p, vs, rfl, h, z, l⟩
  | _ => cases e
theorem mo_ext : MtO rExtend opExt := fun K g Hf H S q vs xs ys v rx Q w h0 h1 h2 h3 h4 e hq => by
  obtain ⟨zs, e1, rfl, e3⟩ := opExt_eq xs rx ys e
  obtain ⟨p, us, rfl, k1, k2, k3⟩ := h4.lst w e1
  have hl := h2.length
  have hl2 := k2.length
  exact ⟨q, p, vs, us, rfl, rfl, h0, k1, by omega, hq _ _ (h2.append k2) (by simp; omega)⟩
/-- xs[k] = e -/
def opSet (xs : List D) (k : SV) (r : SV) : Option (List D) := match k, r with
  | .d (.int i), .d y => (ixN xs.length i).map fun j => xs.set j y
  | _, _ => none
def fSub (i : Nat) (fk fe : FE) : FS := fun env S => (fe env S).toS fun r S1 => match env[i]? with
  | some (.own xs) => (fk env S1).toS fun k S2 => (match opSet xs k r with | some ys => .nx (env.set i (.own ys)) S2 | none => .bad)
  | _ => .bad
theorem ds_sub {x : Str} {i : Nat} {k : Expr} {fk : FE} {p p2 : Pos} (hN : X.N[i]? = some x) (hv : Vis X.env.scope x) (hk : DE XO X E k fk) (he : DE XO X E e fe) (hd : (x == ("__debug__" : Str)) = false := by decide) (hcd : (x == ("__classdict__" : Str)) = false := by decide)
    (ha : ∀ v, assign (.Subscript (.Name x p) k p2) X.env v = (do
      let ov ← holding [v] (eval (.Name x p) X.env)
      let iv ← holding [v, ov] (eval k X.env)
      standAt p2
      holding [v, ov, iv] (setItem ov iv v)
      release [v, ov, iv] []) := by intro _; rfl)
    (hs : swapsWithSole [.Subscript (.Name x p) k p2] e pos.line X.env = pure false := by rfl) (hw : swappedStores [.Subscript (.Name x p) k p2] e X.env = pure none := by rfl)
    (h1 : (assignEach [.Subscript (.Name x p) k p2] X.env).map (·.2) = [assign (.Subscript (.Name x p) k p2) X.env] := by rfl) : DS XO X E (.Assign [.Subscript (.Name x p) k p2] e pos) (fSub i fk fe) := by
  refine ⟨PS.imp (ps_asg he.pe (pg_sub (pe_var hN hv hd hcd) hk.pe set_list ha) hs hw h1) fun D σ H h => ?_⟩
  obtain ⟨g, Hf0, H0, env, S, Hf, o, h⟩ := h
  refine ⟨g, Hf, env, S, o.cn, PoS.expr o h fun r1 S1 v Hf1 H1 hh a1 w1 q1 => ?_⟩
  have o1 := o.step a1 w1
  split at hh
  · rename_i xs ex
    obtain ⟨q, vs, k1, k2, k3, k4, k5⟩ := o1.own ex
    refine ⟨.ref q, k1, g, Hf1, env, S1, o1.cn, PoS.expr o1 hh fun r2 S2 u Hf2 H2 hh a2 w2 q2 => ?_⟩
    have o2 := o1.step a2 w2
    obtain ⟨q', vs', j1, j2, j3, j4, j5⟩ := o2.own ex
    rw [k1] at j1
    cases j1
    unfold opSet at hh
    split at hh
    · rename_i hz
      split at hz
      · rename_i j y
        cases zz : ixN xs.length j with
        | none => rw [zz] at hz; cases hz
        | some m =>
          rw [zz] at hz
          cases hz
          cases q2
          have q1' := RV.keep q1 a2
          exact ⟨q, vs', j, m, rfl, rfl, j2, by rw [j3.length]; exact zz, hh _ _ _ (o2.chg (o' := .lst (vs'.set m v)) ex rfl rfl k1 ⟨j3.set q1' m, by simpa using j4⟩) (Same.refl _)⟩
      · cases hz
    · exact hh.elim
  · exact hh.elim
end

/-! ### defs -/
/-- an argument is settled or the draws' state; the frame at the entry -/
theorem start_cn {K : Frag} {g : G} {Hf H : Hp} {S : StD} {vs : List V} {rs : List SV} {N : List Str} {m : Nat} (w : Wk g Hf S H) (r : Paired (RVa K g Hf) vs rs) (hm : N.length = m) :
    Cn K g Hf (rs ++ List.replicate (m - rs.length) .no) S (start N vs) H := by
  have hl : vs.length = rs.length := Paired.length r
  have get : ∀ {vs : List V} {rs : List SV}, Paired (RVa K g Hf) vs rs → ∀ (i : Nat) (q : SV), rs[i]? = some q → ∃ v, vs[i]? = some v ∧ RVa K g Hf v q := by
    intro vs rs r
    induction r with
    | nil => intro i q e; simp at e
    | cons h _ ih => intro i q e; cases i with
      | zero => simp at e; subst e; exact ⟨_, rfl, h⟩
      | succ i => obtain ⟨v, h1, h2⟩ := ih i q (by simpa using e); exact ⟨v, by simpa using h1, h2⟩
  have key : ∀ (i : Nat) (q : SV), (rs ++ List.replicate (m - rs.length) SV.no)[i]? = some q → q ≠ .no → ∃ v, (start N vs)[i]? = some (some v) ∧ RVa K g Hf v q := fun i q e hq => by
    by_cases hi : i < rs.length
    · rw [List.getElem?_append_left hi] at e
      obtain ⟨v, h1, h2⟩ := get r i q e
      refine ⟨v, ?_, h2⟩
      unfold L2.start
      rw [List.getElem?_append_left (by simp; omega), List.getElem?_map, h1]
      rfl
    · rw [List.getElem?_append_right (by omega)] at e
      obtain ⟨_, h2⟩ := List.getElem?_eq_some_iff.mp e
      simp at h2
      exact absurd h2.symm hq
  refine ⟨w, ?_, fun i x e => ?_, fun i e => ?_, fun i q e h => ?_, fun i j q q2 p _ e1 h1 _ _ _ _ => ?_, fun i xs e => ?_⟩
  · unfold L2.start; simp [hl, hm]
  · exact key i _ e (by simp)
  · obtain ⟨v, h1, a, b, h2, rfl⟩ := key i _ e (by simp); exact ⟨a, b, h2, h1⟩
  · obtain ⟨v, h1, h2⟩ := key i _ e (by rintro rfl; cases h); cases q <;> first | exact h2.elim | cases h
  · obtain ⟨v, h1, h2⟩ := key i _ e1 (by rintro rfl; cases h1); cases q <;> first | exact h2.elim | cases h1
  · obtain ⟨v, h1, h2⟩ := key i _ e (by simp); exact h2.elim
/-- a def as a function: n parameters, m slots -/
def fnOf (m : Nat) (f : FS) : Fn := fun rs S => match f (rs ++ List.replicate (m - rs.length) .no) S with
  | .rt r S' => .ok r S'
  | .nx _ S' => .ok (.d .none) S'
  | _ => .bad
section
variable {P : Program} {w : World} {K : PySem.W.Frag} {mg : Str → Option Value} {base : Heap}
theorem fn_ok {x qual : Str} {st : Stmt} {f : Addr} {fd : FuncData} {N ps : List Str} {k n m : Nat} {fs : FS} (F : Fun K x qual st f fd) (S : FnScope N ps (defScope st)) (hn : ps.length = n) (hm : N.length = m)
    (body : ∀ (cdv : Value) (A : Around) (outer : List Env) (s : Shared) (H : Hp) (E : XK), Room k (A.deeper (envOfC qual (defScope st) s.heap.objs.size f cdv)) →
      DSs XO (cxOf CX0 P w K mg base N qual (defScope st) f cdv A outer s H E).nox E0 (defBody st) fs) : FnOk P w K mg base CX0 (k + 1) f fd ps (spF XO K n (fnOf m fs)) := by
  refine F.ok S (fun vs H Q E h => by rw [h.1, hn]) fun cdv A outer s H vs Q E hr h => ⟨_, (body cdv A outer s H E hr).pss, ?_⟩
  obtain ⟨hl, g, Hf, S0, rs, w0, ra, po⟩ := h
  have c := start_cn w0 ra hm
  refine ⟨g, Hf, H, _, S0, Hf, ⟨c, Gr.refl, fun i r p e h1 _ => ?_⟩, ?_⟩
  · obtain ⟨p', o, h3, h4, h5, h6, h7⟩ := c.sl i r e h1
    exfalso
    by_cases hi : i < rs.length
    · rw [List.getElem?_append_left hi] at e
      have get : ∀ {vs : List V} {rs : List SV}, Paired (RVa K g Hf) vs rs → ∀ (i : Nat) (q : SV), rs[i]? = some q → ∃ v, RVa K g Hf v q := by
        intro vs rs r
        induction r with
        | nil => intro i q e; simp at e
        | cons h _ ih => intro i q e; cases i with
          | zero => simp at e; subst e; exact ⟨_, h⟩
          | succ i => exact ih i q (by simpa using e)
      obtain ⟨v, h8⟩ := get ra i r e
      cases r <;> first | exact h8 | cases h1
    · rw [List.getElem?_append_right (by omega)] at e
      obtain ⟨_, h2⟩ := List.getElem?_eq_some_iff.mp e
      simp at h2
      subst h2
      cases h1
  · unfold fnOf at po
    cases z : fs (rs ++ List.replicate (m - rs.length) .no) S0 with
    | rt r S' => rw [z] at po; exact po
    | nx e S' => rw [z] at po; exact fun σ' H' Hf' o _ => po .non Hf' H' o.gr o.cn.w .non
    | ex y S' => rw [z] at po; exact po.elim
    | bk e S' => rw [z] at po; exact po.elim
    | ct e S' => rw [z] at po; exact po.elim
    | bad => rw [z] at po; exact po.elim
end
end DV

/-! DV5: operators and built-ins over deep values. -/
namespace DV
open PySem PySem.Spec PyProof.Rows L2
variable {XO : XOT}

section
variable {K : Frag} {g : G} {Hf H : Hp} {S : StD} {v : V} {r : SV} {x : D}
theorem RVq.rp (w : Wk g Hf S H) (h : RVq K g Hf H v r) (e : r.rd = some x) : Rp K H v x := by obtain ⟨H0, h⟩ := h; exact RV.rp w h e
theorem RVq.rd_d (h : RVq K g Hf H v (.d x)) : Rp K Hf v x := by obtain ⟨H0, h⟩ := h; exact h
/-- a tuple is settled -/
theorem RVq.tup {xs : List D} (h : RVq K g Hf H v r) (e : r.rd = some (.tuple xs)) : ∃ a vs, v = .ref a ∧ SqT K Hf a vs ∧ Rps K Hf vs xs ∧ vs.length ≤ sizeLine := by
  cases r with
  | d y => cases e; cases h.rd_d with
    | tup h1 h2 h3 => exact ⟨_, _, rfl, h1, h2, h3⟩
  | own xs => cases e
  | bor xs => cases e
  | _ => cases e
theorem RVq.int {i : Int} (h : RVq K g Hf H v r) (e : r.rd = some (.int i)) : v = .int i := by
  cases r with
  | d y => cases e; cases h.rd_d; rfl
  | _ => cases e
theorem RVq.bool {i : Bool} (h : RVq K g Hf H v r) (e : r.rd = some (.bool i)) : v = .bl i := by
  cases r with
  | d y => cases e; cases h.rd_d; rfl
  | _ => cases e
theorem RVq.str {i : Str} (h : RVq K g Hf H v r) (e : r.rd = some (.str i)) : v = .str i := by
  cases r with
  | d y => cases e; cases h.rd_d; rfl
  | _ => cases e
theorem RVq.d_of (h : RVq K g Hf H v r) (H0 : Hp) (x : D) (e : r = .d x) : RV K g H0 Hf H v (.d x) := by subst e; exact h.rd_d
/-- a new list, a new tuple as what is wanted -/
theorem new_own {vs : List V} {xs : List D} {p : Addr} (w : Wk g Hf S H) (hp : H p = none) (r : Rps K Hf vs xs) (l : vs.length ≤ sizeLine) :
    Gr g Hf H Hf (upd H p (.lst vs)) ∧ Wk g Hf S (upd H p (.lst vs)) ∧ RV K g H Hf (upd H p (.lst vs)) (.ref p) (.own xs) :=
  ⟨(w.putO hp).2, (w.putO hp).1, p, .lst vs, rfl, hp, w.freeP hp, w.notG hp, upd_same, r, l⟩
theorem new_tup {vs : List V} {xs : List D} {p : Addr} (w : Wk g Hf S H) (hp : H p = none) (r : Rps K Hf vs xs) (l : vs.length ≤ sizeLine) :
    Gr g Hf H (upd Hf p (.tup vs)) (upd H p (.tup vs)) ∧ Wk g (upd Hf p (.tup vs)) S (upd H p (.tup vs)) ∧ RV K g H (upd Hf p (.tup vs)) (upd H p (.tup vs)) (.ref p) (.d (.tuple xs)) :=
  ⟨(w.put hp).2, (w.put hp).1, .tup (.inl (.inl upd_same)) (Rps.mono (w.put (o := .tup vs) hp).2.ext r) l⟩
end
def lift2 (f : D → D → Option SV) : SV → SV → Option SV := fun a b => match a.rd, b.rd with
  | some x, some y => f x y
  | _, _ => none
theorem lift2_eq {f : D → D → Option SV} {a b z : SV} (h : lift2 f a b = some z) : ∃ x y, a.rd = some x ∧ b.rd = some y ∧ f x y = some z := by
  unfold lift2 at h
  split at h
  · exact ⟨_, _, by assumption, by assumption, h⟩
  · cases h
@[simp] theorem rd_d (x : D) : (SV.d x).rd = some x := rfl
@[simp] theorem rd_own (x : List D) : (SV.own x).rd = some (.list x) := rfl
@[simp] theorem rd_bor (x : List D) : (SV.bor x).rd = some (.list x) := rfl
@[simp] theorem fz_d (x : D) : (SV.d x).fz = some x := rfl
@[simp] theorem fz_own (x : List D) : (SV.own x).fz = some (.list x) := rfl
/-- ops whose value is settled and needs nothing -/
theorem Op2.val {K : Frag} {r : R2} {f : D → D → Option SV} (h : ∀ (H : Hp) (a b : V) (x y : D) (z : SV) (Q : VK), Rp K H a x → Rp K H b y → f x y = some z → ∃ u, (∀ Hf, RV K none H Hf H u z) ∧ (∀ g H0 Hf H1, RV K g H0 Hf H1 u z) ∧ (Q u H → r a b H Q)) : Op2 K r (lift2 f) := by
  intro g Hf S H a b ra rb z Q w ha hb e q
  obtain ⟨x, y, e1, e2, e3⟩ := lift2_eq e
  obtain ⟨u, _, h2, h3⟩ := h H a b x y z Q (ha.rp w e1) (hb.rp w e2) e3
  exact h3 (q u Hf H Gr.refl w (h2 _ _ _ _))

/-! ### + -/
def addD : D → D → Option SV
  | .int i, .int j => some (.d (.int (i + j)))
  | .str a, .str b => if a.length + b.length ≤ sizeLine then some (.d (.str (a ++ b))) else none
  | .list a, .list b => if a.length + b.length ≤ sizeLine then some (.own (a ++ b)) else none
  | .tuple a, .tuple b => if a.length + b.length ≤ sizeLine then some (.d (.tuple (a ++ b))) else none
  | .int i, .bool k => some (.d (.int (i + b2i k)))
  | _, _ => none
def opAdd (a b : SV) : Option SV := lift2 addD a b
def rAddAll (K : Frag) : R2 := fun x y H Q => (((((∃ i j, x = .int i ∧ y = .int j ∧ Q (.int (i + j)) H) ∨ (∃ i j, x = .str i ∧ y = .str j ∧ i.length + j.length ≤ sizeLine ∧ Q (.str (i ++ j)) H)) ∨ rCat x y H Q) ∨ rCatA K x y H Q) ∨ (∃ i k, x = .int i ∧ y = .bl k ∧ Q (.int (i + b2i k)) H))
theorem or_add {X : Cx} : OpR X (binaryOp .Add) (rAddAll X.K) := (((op_add.or op_add_str).or op_cat).or op_catA).or op_add_ib
theorem o2_add {K : Frag} : Op2 K (rAddAll K) opAdd := by
  intro g Hf S H a b ra rb z Q w ha hb e q
  obtain ⟨x, y, e1, e2, e3⟩ := lift2_eq e
  unfold addD at e3
  split at e3
  · cases e3
    exact .inl (.inl (.inl (.inl ⟨_, _, ha.int e1, hb.int e2, q _ Hf H Gr.refl w (.int _)⟩)))
  · split at e3
    · cases e3
      exact .inl (.inl (.inl (.inr ⟨_, _, ha.str e1, hb.str e2, by assumption, q _ Hf H Gr.refl w (.str _)⟩)))
    · cases e3
  · split at e3
    · rename_i hs
      cases e3
      obtain ⟨p, vs, rfl, h1, h2, h3⟩ := ha.lst w e1
      obtain ⟨p2, vs2, rfl, k1, k2, k3⟩ := hb.lst w e2
      have hl := h2.length
      have hl2 := k2.length
      refine .inl (.inl (.inr ⟨p, p2, vs, vs2, rfl, rfl, h1, k1, by omega, fun u hu => ?_⟩))
      obtain ⟨a1, w1, r1⟩ := new_own w hu (h2.append k2) (by simp; omega)
      exact q _ _ _ a1 w1 r1
    · cases e3
  · split at e3
    · rename_i hs
      cases e3
      obtain ⟨p, vs, rfl, h1, h2, h3⟩ := ha.tup e1
      obtain ⟨p2, vs2, rfl, k1, k2, k3⟩ := hb.tup e2
      have hl := h2.length
      have hl2 := k2.length
      refine .inl (.inr ⟨p, p2, vs, vs2, rfl, rfl, SqT.mono w.sub h1, SqT.mono w.sub k1, by omega, fun e0 => ?_, fun _ e0 => ?_, fun _ _ u hu => ?_⟩)
      · subst e0
        cases h2
        exact q _ Hf H Gr.refl w (.tup k1 k2 k3)
      · subst e0
        cases k2
        rw [List.append_nil] at q
        exact q _ Hf H Gr.refl w (.tup h1 h2 h3)
      · obtain ⟨a1, w1, r1⟩ := new_tup w hu (h2.append k2) (by simp; omega)
        exact q _ _ _ a1 w1 r1
    · cases e3
  · cases e3
    exact .inr ⟨_, _, ha.int e1, hb.bool e2, q _ Hf H Gr.refl w (.int _)⟩
  · cases e3

/-! ### numbers -/
def intD (f : Int → Int → Option Int) : D → D → Option SV
  | .int i, .int j => (f i j).map fun k => .d (.int k)
  | _, _ => none
theorem o2_int {K : Frag} {C : Int → Int → Prop} {h : Int → Int → Int} {f : Int → Int → Option Int} (hf : ∀ i j k, f i j = some k → C i j ∧ k = h i j) : Op2 K (rI C fun i j => .int (h i j)) (lift2 (intD f)) := by
  intro g Hf S H a b ra rb z Q w ha hb e q
  obtain ⟨x, y, e1, e2, e3⟩ := lift2_eq e
  unfold intD at e3
  split at e3
  · rename_i i j
    cases e4 : f i j with
    | none => rw [e4] at e3; cases e3
    | some k =>
      rw [e4] at e3
      cases e3
      obtain ⟨hc, rfl⟩ := hf i j k e4
      exact ⟨i, j, ha.int e1, hb.int e2, hc, q _ Hf H Gr.refl w (.int _)⟩
  · cases e3
def subI (i j : Int) : Option Int := some (i - j)
def opSub (a b : SV) : Option SV := lift2 (intD subI) a b
theorem o2_sub {K : Frag} : Op2 K (rI (fun _ _ => True) fun i j => .int (i - j)) opSub := o2_int fun i j k e => ⟨trivial, by cases e; rfl⟩
theorem or_sub {X : Cx} : OpR X (binaryOp .Sub) (rI (fun _ _ => True) fun i j => .int (i - j)) := fun pins s σ H x y v u Q I rx ry q => by
  obtain ⟨i, j, h1, h2, _, h3⟩ := q
  exact op_sub pins s σ H x y v u Q I rx ry ⟨i, j, h1, h2, h3⟩
/-- a size that all products here stay below -/
def big : Nat := 2 ^ 400000
theorem big_le {k : Nat} (h : k ≤ 400000) {n : Nat} (hn : n < 2 ^ k) : n < big := Nat.lt_of_lt_of_le hn (Nat.pow_le_pow_right (by decide) h)
noncomputable def mulI (i j : Int) : Option Int := @ite _ (i.natAbs < big ∧ j.natAbs < big) (Classical.propDecidable _) (some (i * j)) (none)
noncomputable def opMulI (a b : SV) : Option SV := lift2 (intD mulI) a b
theorem or_mulI {X : Cx} : OpR X (binaryOp .Mult) (rI CMulW fun i j => .int (i * j)) := op_mulW
theorem o2_mulI {K : Frag} : Op2 K (rI CMulW fun i j => .int (i * j)) opMulI := o2_int fun i j k e => by
  unfold mulI at e
  split at e
  · rename_i h
    cases e
    exact ⟨wide_mul h.1 h.2 (by decide) (by decide) (by decide), rfl⟩
  · cases e
def big9 : Nat := 2 ^ 9000
def CDiv9 (i j : Int) : Prop := CDivN i j ∨ CDivW i j
noncomputable def fdivI (i j : Int) : Option Int := @ite _ (j ≠ 0 ∧ j.natAbs < 1073741824) (Classical.propDecidable _) (some (i.fdiv j)) (@ite _ (0 < j ∧ j.natAbs < big9) (Classical.propDecidable _) (some (i.fdiv j)) (none))
noncomputable def opFdiv (a b : SV) : Option SV := lift2 (intD fdivI) a b
theorem or_fdiv {X : Cx} : OpR X (binaryOp .FloorDiv) (rI CDiv9 fun i j => .int (i.fdiv j)) := fun pins s σ H x y v u Q I rx ry q => by
  obtain ⟨i, j, e1, e2, c, h⟩ := q
  rcases c with c | c
  · exact op_fdivN pins s σ H x y v u Q I rx ry ⟨i, j, e1, e2, c, h⟩
  · refine op_fdivW pins s σ H x y v u Q I rx ry ⟨i, j, e1, e2, c, ?_⟩
    have h2 := h
    simp only at h2
    rw [Int.fdiv_eq_ediv_of_nonneg i (Int.le_of_lt c.1)] at h2
    exact h2
theorem o2_fdiv {K : Frag} : Op2 K (rI CDiv9 fun i j => .int (i.fdiv j)) opFdiv := o2_int fun i j k e => by
  unfold fdivI at e
  split at e
  · cases e; exact ⟨.inl (by assumption), rfl⟩
  · split at e
    · rename_i h
      cases e
      exact ⟨.inr (wide_div h.1 h.2 (by decide) (by decide)), rfl⟩
    · cases e
def modI (i j : Int) : Option Int := if j ≠ 0 then some (i.fmod j) else none
def opMod (a b : SV) : Option SV := lift2 (intD modI) a b
theorem o2_mod {K : Frag} : Op2 K (rI (fun _ j => j ≠ 0) fun i j => .int (i.fmod j)) opMod := o2_int fun i j k e => by
  unfold modI at e
  split at e
  · cases e; exact ⟨by assumption, rfl⟩
  · cases e
noncomputable def powI (i j : Int) : Option Int := @ite _ (0 ≤ j ∧ j ≤ 1000 ∧ i.natAbs < 2 ^ 64) (Classical.propDecidable _) (some (i ^ j.toNat)) (none)
noncomputable def opPow (a b : SV) : Option SV := lift2 (intD powI) a b
theorem o2_pow {K : Frag} : Op2 K (rI CPow fun i j => .int (i ^ j.toNat)) opPow := o2_int fun i j k e => by
  unfold powI at e
  split at e
  · rename_i h; cases e; exact ⟨⟨h.1, by omega, h.2.2⟩, rfl⟩
  · cases e

/-! ### * of lists, tuples -/
noncomputable def repD : D → D → Option SV
  | .list xs, .int k => @ite _ (-(2 ^ 63) ≤ k ∧ k < 2 ^ 63 ∧ xs.length * k.toNat ≤ sizeLine) (Classical.propDecidable _) (some (.own (List.replicate k.toNat xs).flatten)) none
  | _, _ => none
noncomputable def opRep (a b : SV) : Option SV := lift2 repD a b
theorem flatten_len {α : Type} (xs : List α) : ∀ k : Nat, (List.replicate k xs).flatten.length = xs.length * k
  | 0 => by simp
  | k + 1 => by rw [List.replicate_succ, List.flatten_cons, List.length_append, flatten_len xs k, Nat.mul_succ, Nat.add_comm]
theorem o2_rep {K : Frag} : Op2 K rRep opRep := by
  intro g Hf S H a b ra rb z Q w ha hb e q
  obtain ⟨x, y, e1, e2, e3⟩ := lift2_eq e
  unfold repD at e3
  split at e3
  · split at e3
    · rename_i xs k hs
      cases e3
      obtain ⟨p, vs, rfl, h1, h2, h3⟩ := ha.lst w e1
      have hl := h2.length
      refine ⟨p, k, vs, rfl, hb.int e2, h1, hs.1, hs.2.1, by rw [hl]; exact hs.2.2, fun u hu => ?_⟩
      obtain ⟨a1, w1, r1⟩ := new_own w hu (h2.flat k.toNat) (by rw [flatten_len, hl]; exact hs.2.2)
      exact q _ _ _ a1 w1 r1
    · cases e3
  · cases e3

/-! ### comparisons -/
def cmpD (p : Int → Int → Bool) : D → D → Option SV
  | .int i, .int j => some (.d (.bool (p i j)))
  | _, _ => none
theorem o2_cmp {K : Frag} {p : Int → Int → Bool} : Op2 K (rI0 fun i j => .bl (p i j)) (lift2 (cmpD p)) := by
  intro g Hf S H a b ra rb z Q w ha hb e q
  obtain ⟨x, y, e1, e2, e3⟩ := lift2_eq e
  unfold cmpD at e3
  split at e3
  · cases e3; exact ⟨_, _, ha.int e1, hb.int e2, q _ Hf H Gr.refl w (.bl _)⟩
  · cases e3
def opLt (a b : SV) : Option SV := lift2 (cmpD fun i j => decide (i < j)) a b
def opLe (a b : SV) : Option SV := lift2 (cmpD fun i j => decide (i ≤ j)) a b
def opGt (a b : SV) : Option SV := lift2 (cmpD fun i j => decide (j < i)) a b
def opGe (a b : SV) : Option SV := lift2 (cmpD fun i j => decide (j ≤ i)) a b
/-- == of data of any kind -/
def eqD (x y : D) : Option SV := if SeqAt.shaped x = true ∧ SeqAt.shaped y = true then some (.d (.bool (PyData.eqv x y))) else none
def neD (x y : D) : Option SV := if SeqAt.shaped x = true ∧ SeqAt.shaped y = true then some (.d (.bool (!PyData.eqv x y))) else none
def opEq (a b : SV) : Option SV := lift2 eqD a b
def opNe (a b : SV) : Option SV := lift2 neD a b
theorem o2_eq {K : Frag} : Op2 K (rEqD K) opEq := by
  intro g Hf S H a b ra rb z Q w ha hb e q
  obtain ⟨x, y, e1, e2, e3⟩ := lift2_eq e
  unfold eqD at e3
  split at e3
  · rename_i hs; cases e3; exact ⟨x, y, (ha.rp w e1).dp, (hb.rp w e2).dp, hs.1, hs.2, q _ Hf H Gr.refl w (.bl _)⟩
  · cases e3
theorem o2_ne {K : Frag} : Op2 K (rNeD K) opNe := by
  intro g Hf S H a b ra rb z Q w ha hb e q
  obtain ⟨x, y, e1, e2, e3⟩ := lift2_eq e
  unfold neD at e3
  split at e3
  · rename_i hs; cases e3; exact ⟨x, y, (ha.rp w e1).dp, (hb.rp w e2).dp, hs.1, hs.2, q _ Hf H Gr.refl w (.bl _)⟩
  · cases e3
/-- is None -/
def isN (b : Bool) : SV → SV → Option SV := fun x y => match x.rd, y with
  | some d, .d .none => some (.d (.bool (b != (match d with | .none => true | _ => false))))
  | _, _ => none
theorem rp_none {K : Frag} {H : Hp} {v : V} {d : D} (h : Rp K H v d) : decide (v = .non) = (match d with | .none => true | _ => false) := by cases h <;> rfl
theorem o2_isN {K : Frag} : Op2 K (fun x y H Q => y = .non ∧ Q (.bl (decide (x = .non))) H) (isN false) := by
  intro g Hf S H a b ra rb z Q w ha hb e q
  unfold isN at e
  split at e
  · rename_i d h
    cases e
    cases hb.rd_d
    refine ⟨rfl, ?_⟩
    rw [rp_none (ha.rp w h)]
    have := q (.bl (match d with | .none => true | _ => false)) Hf H Gr.refl w
    cases d <;> exact this (.bl _)
  · cases e
theorem o2_notN {K : Frag} : Op2 K (fun x y H Q => y = .non ∧ Q (.bl (!decide (x = .non))) H) (isN true) := by
  intro g Hf S H a b ra rb z Q w ha hb e q
  unfold isN at e
  split at e
  · rename_i d h
    cases e
    cases hb.rd_d
    refine ⟨rfl, ?_⟩
    rw [rp_none (ha.rp w h)]
    have := q (.bl (!(match d with | .none => true | _ => false))) Hf H Gr.refl w
    cases d <;> exact this (.bl _)
  · cases e
/-- in, not in of lists and tuples -/
def inD (b : Bool) : D → D → Option SV
  | x, .list ds => if SeqAt.shaped x = true ∧ SeqAt.shaped (.list ds) = true then some (.d (.bool (b != ds.any fun z => PyData.eqv z x))) else none
  | x, .tuple ds => if PyData.plainAll ds = true ∧ x.plain = true ∧ PyData.depthAll ds ≤ 60 then some (.d (.bool (b != ds.any fun z => PyData.eqv z x))) else none
  | _, _ => none
def rInT (K : Frag) (b : Bool) : R2 := fun x y H Q => ∃ d ds, Dp K H x d ∧ Dp K H y (.tuple ds) ∧ PyData.plainAll ds = true ∧ d.plain = true ∧ PyData.depthAll ds ≤ 60 ∧ Q (.bl (b != ds.any fun z => PyData.eqv z d)) H
theorem or_inT {X : Cx} (hu : X.A.units + 65 < cLine) : OpR X (compareOp .In) (rInT X.K false) := by
  intro pins s σ H x y v u Q I rx ry ⟨d, ds, hd, he, h1, h2, h3, q⟩
  obtain ⟨as, r1⟩ := Dp.reads I d x v hd rx
  obtain ⟨bs, r2⟩ := Dp.reads I (.tuple ds) y u he ry
  have e : (false != ds.any fun z => PyData.eqv z d) = ds.any fun z => PyData.eqv z d := by cases ds.any fun z => PyData.eqv z d <;> rfl
  rw [e] at q
  exact PySem.SeqAt.in_tuple_data r2 r1 h1 h2 (by omega) ⟨.bl _, H, I, rfl, q⟩
theorem or_notInT {X : Cx} (hu : X.A.units + 65 < cLine) : OpR X (compareOp .NotIn) (rInT X.K true) := by
  intro pins s σ H x y v u Q I rx ry ⟨d, ds, hd, he, h1, h2, h3, q⟩
  obtain ⟨as, r1⟩ := Dp.reads I d x v hd rx
  obtain ⟨bs, r2⟩ := Dp.reads I (.tuple ds) y u he ry
  have e : (true != ds.any fun z => PyData.eqv z d) = !ds.any fun z => PyData.eqv z d := by cases ds.any fun z => PyData.eqv z d <;> rfl
  rw [e] at q
  exact PySem.SeqAt.notIn_tuple_data r2 r1 h1 h2 (by omega) ⟨.bl _, H, I, rfl, q⟩
def opIn (a b : SV) : Option SV := lift2 (inD false) a b
def opNotIn (a b : SV) : Option SV := lift2 (inD true) a b
theorem or_in {X : Cx} (hu : X.A.units + 65 < cLine) : OpR X (compareOp .In) (fun x y H Q => rInD X.K x y H Q ∨ rInT X.K false x y H Q) := (op_inD hu).or (or_inT hu)
theorem or_notIn {X : Cx} (hu : X.A.units + 65 < cLine) : OpR X (compareOp .NotIn) (fun x y H Q => rNotInD X.K x y H Q ∨ rInT X.K true x y H Q) := (op_notInD hu).or (or_notInT hu)
theorem o2_in {K : Frag} : Op2 K (fun x y H Q => rInD K x y H Q ∨ rInT K false x y H Q) opIn := by
  intro g Hf S H a b ra rb z Q w ha hb e q
  obtain ⟨x, y, e1, e2, e3⟩ := lift2_eq e
  unfold inD at e3
  split at e3
  · split at e3
    · rename_i hs; cases e3
      refine .inl ⟨_, _, (ha.rp w e1).dp, (hb.rp w e2).dp, hs.1, hs.2, ?_⟩
      have := q _ Hf H Gr.refl w (.bl _)
      simpa using this
    · cases e3
  · split at e3
    · rename_i hs; cases e3
      exact .inr ⟨_, _, (ha.rp w e1).dp, (hb.rp w e2).dp, hs.1, hs.2.1, hs.2.2, q _ Hf H Gr.refl w (.bl _)⟩
    · cases e3
  · cases e3
theorem o2_notIn {K : Frag} : Op2 K (fun x y H Q => rNotInD K x y H Q ∨ rInT K true x y H Q) opNotIn := by
  intro g Hf S H a b ra rb z Q w ha hb e q
  obtain ⟨x, y, e1, e2, e3⟩ := lift2_eq e
  unfold inD at e3
  split at e3
  · split at e3
    · rename_i hs; cases e3
      refine .inl ⟨_, _, (ha.rp w e1).dp, (hb.rp w e2).dp, hs.1, hs.2, ?_⟩
      have := q _ Hf H Gr.refl w (.bl _)
      simpa using this
    · cases e3
  · split at e3
    · rename_i hs; cases e3
      exact .inr ⟨_, _, (ha.rp w e1).dp, (hb.rp w e2).dp, hs.1, hs.2.1, hs.2.2, q _ Hf H Gr.refl w (.bl _)⟩
    · cases e3
  · cases e3

/-! ### subscripts, slices -/
def ixD : D → D → Option SV
  | .list xs, .int i => (atI xs i).map .d
  | .tuple xs, .int i => (atI xs i).map .d
  | .str z, .int i => if z.length ≤ sizeLine then (atI z.cps.toList i).map fun c => .d (.str ⟨#[c]⟩) else none
  | _, _ => none
def opIx (a b : SV) : Option SV := lift2 ixD a b
theorem atI_rps {K : Frag} {H : Hp} {vs : List V} {xs : List D} {i : Int} {x : D} (r : Rps K H vs xs) (h : atI xs i = some x) : ∃ v, atI vs i = some v ∧ Rp K H v x := by
  unfold atI at h ⊢
  rw [r.length]
  cases e : ixN xs.length i with
  | none => rw [e] at h; cases h
  | some j => rw [e] at h; obtain ⟨v, h1, h2⟩ := Rps.get' r h; exact ⟨v, h1, h2⟩
theorem o2_ix {K : Frag} : Op2 K (rIx K) opIx := by
  intro g Hf S H a b ra rb z Q w ha hb e q
  obtain ⟨x, y, e1, e2, e3⟩ := lift2_eq e
  unfold ixD at e3
  split at e3
  · rename_i xs i
    cases e4 : atI xs i with
    | none => rw [e4] at e3; cases e3
    | some u =>
      rw [e4] at e3; cases e3
      obtain ⟨p, vs, rfl, h1, h2, h3⟩ := ha.lst w e1
      obtain ⟨v, k1, k2⟩ := atI_rps h2 e4
      exact .inl ⟨p, vs, i, v, rfl, hb.int e2, .inl (.inl h1), k1, q _ Hf H Gr.refl w k2⟩
  · rename_i xs i
    cases e4 : atI xs i with
    | none => rw [e4] at e3; cases e3
    | some u =>
      rw [e4] at e3; cases e3
      obtain ⟨p, vs, rfl, h1, h2, h3⟩ := ha.tup e1
      obtain ⟨v, k1, k2⟩ := atI_rps h2 e4
      exact .inr (.inl ⟨p, vs, i, v, rfl, hb.int e2, SqT.mono w.sub h1, k1, q _ Hf H Gr.refl w k2⟩)
  · rename_i t i
    split at e3
    · rename_i hl
      cases e4 : atI t.cps.toList i with
      | none => rw [e4] at e3; cases e3
      | some u =>
        rw [e4] at e3; cases e3
        exact .inr (.inr ⟨t, i, u, ha.str e1, hb.int e2, hl, e4, q _ Hf H Gr.refl w (.str _)⟩)
    · cases e3
  · cases e3
def cutL {α : Type} (xs : List α) (lo hi : Option Int) : List α := (xs.drop (HT.sIx xs.length 0 lo)).take (HT.sIx xs.length xs.length hi - HT.sIx xs.length 0 lo)
theorem cutL_rps {K : Frag} {H : Hp} {vs : List V} {xs : List D} (r : Rps K H vs xs) (lo hi : Option Int) : Rps K H (cutV vs lo hi) (cutL xs lo hi) := by
  unfold cutV cutL
  rw [r.length]
  exact (r.drop _).take _
theorem cutL_whole {α : Type} {xs : List α} {lo hi : Option Int} (h : HT.sIx xs.length 0 lo = 0 ∧ HT.sIx xs.length xs.length hi = xs.length) : cutL xs lo hi = xs := by
  unfold cutL; rw [h.1, h.2]; simp
abbrev FO := EnvD → StD → Res (Option Int)
def tDO (XO : XOT) (K : Frag) (E : XK) (f : FO) : TO := fun σ H Q => ∃ g Hf env S, Cn K g Hf env S σ H ∧ Po XO g Hf H E (fun _ _ (b c : Option Int) => b = c) Q (f env S)
structure DO_ (XO : XOT) (X : Cx) (E : XK) (e : Option Expr) (f : FO) : Prop where
  po : PO X e (tDO XO X.K E f)
theorem PO.imp {X : Cx} {e : Option Expr} {t t' : TO} (h : PO X e t) (i : ∀ σ H Q, t' σ H Q → t σ H Q) : PO X e t' := ⟨fun pins s σ H Q I q => h.run pins s σ H Q I (i σ H Q q)⟩
def fNo : FO := fun _ S => .ok none S
def asI : SV → Option Int
  | .d (.int i) => some i
  | _ => none
def fPart (f : FE) : FO := fun env S => (f env S).bind fun r S1 => (optR (asI r) S1).bind fun i S2 => .ok (some i) S2
section
variable {X : Cx} {E : XK} {pos p2 : Pos}
theorem do_none : DO_ XO X E none fNo := ⟨PO.imp po_none fun σ H Q h => by obtain ⟨g, Hf, env, S, c, h⟩ := h; exact h _ Hf H Gr.refl c.w rfl⟩
theorem do_some {e : Expr} {f : FE} (h : DE XO X E e f) : DO_ XO X E (some e) (fPart f) := by
  refine ⟨PO.imp (po_some h.pe) fun σ H Q h => ?_⟩
  obtain ⟨g, Hf, env, S, c, h⟩ := h
  refine ⟨g, Hf, env, S, c, Po.bindP h fun r S1 h1 v Hf1 H1 a1 w1 q1 => ?_⟩
  cases e : asI r with
  | none => rw [e] at h1; exact h1.elim
  | some i =>
    rw [e] at h1
    have : v = .int i := by
      cases r with
      | d x => cases x <;> first | (cases e; cases q1; rfl) | cases e
      | _ => cases e
    exact ⟨i, this, h1 _ Hf1 H1 a1 w1 rfl⟩
/-- x[lo:hi] of a list, a tuple -/
def slD (x : SV) (lo hi : Option Int) : Option SV := match x.rd with
  | some (.list xs) => some (.own (cutL xs lo hi))
  | some (.tuple xs) => some (.d (.tuple (cutL xs lo hi)))
  | _ => none
def fSl (fe : FE) (fl fh : FO) : FE := fun env S => (fe env S).bind fun r S1 => (fl env S1).bind fun l S2 => (fh env S2).bind fun h S3 => optR (slD r l h) S3
def rSlAll (K : Frag) : V → Option Int → Option Int → Hp → VK → Prop := fun x lo hi H Q => rSlL K x lo hi H Q ∨ rSlA K x lo hi H Q
theorem d_slice {e : Expr} {lo hi : Option Expr} {fe : FE} {fl fh : FO} (he : DE XO X E e fe) (hl : DO_ XO X E lo fl) (hh : DO_ XO X E hi fh) : DE XO X E (.Subscript e (.Slice lo hi none p2) pos) (fSl fe fl fh) := by
  refine ⟨PE.imp (pe_slice (r := rSlAll X.K) (SlR.or sl_list sl_tupA) he.pe hl.po hh.po) fun σ H Q h => ?_⟩
  obtain ⟨g, Hf, env, S, c, h⟩ := h
  refine ⟨g, Hf, env, S, c, Po.bindP h fun r S1 h1 v Hf1 H1 a1 w1 q1 => ?_⟩
  refine ⟨g, Hf1, env, S1, c.step a1 w1, Po.bindP (h1.step a1) fun l S2 h2 l' Hf2 H2 a2 w2 q2 => ?_⟩
  subst q2
  refine ⟨g, Hf2, env, S2, (c.step a1 w1).step a2 w2, Po.bindP (h2.step a2) fun l S3 h3 u' Hf3 H3 a3 w3 q3 => ?_⟩
  subst q3
  have q : RVq X.K g Hf3 H3 v r := ⟨H, RV.keep q1 (a2.trans a3)⟩
  have h4 := h3.step a3
  unfold slD at h4
  split at h4
  · rename_i xs ex
    obtain ⟨p, vs, rfl, k1, k2, k3⟩ := q.lst w3 ex
    refine .inl ⟨p, vs, rfl, .inl (.inl k1), fun u hu => ?_⟩
    obtain ⟨b1, b2, b3⟩ := new_own w3 hu (cutL_rps k2 l' u') (Nat.le_trans (cutV_length _ _ _) k3)
    exact h4 _ _ _ b1 b2 b3
  · rename_i xs ex
    obtain ⟨p, vs, rfl, k1, k2, k3⟩ := q.tup ex
    have hl := k2.length
    refine .inr ⟨p, vs, rfl, SqT.mono w3.sub k1, fun hw => ?_, fun _ u hu => ?_⟩
    · rw [hl] at hw
      rw [cutL_whole hw] at h4
      exact h4 _ Hf3 H3 Gr.refl w3 (.tup k1 k2 k3)
    · obtain ⟨b1, b2, b3⟩ := new_tup w3 hu (cutL_rps k2 l' u') (Nat.le_trans (cutV_length _ _ _) k3)
      exact h4 _ _ _ b1 b2 b3
  · exact h4.elim

/-! ### one-place operators, calls of built-ins -/
def Op1 (K : Frag) (r : V → Hp → VK → Prop) (op : SV → Option SV) : Prop := ∀ (g : G) (Hf : Hp) (S : StD) (H : Hp) (x : V) (rx rz : SV) (Q : VK), Wk g Hf S H → RVq K g Hf H x rx → op rx = some rz → (∀ v Hf' H', Gr g Hf H Hf' H' → Wk g Hf' S H' → RV K g H Hf' H' v rz → Q v H') → r x H Q
def f1 (op : SV → Option SV) (fa : FE) : FE := fun env S => (fa env S).bind fun ra S1 => optR (op ra) S1
theorem d_un {op : UnaryOp} {r : V → Hp → VK → Prop} {o : SV → Option SV} {a : Expr} {fa : FE} (hr : UnR X (unaryOp op) r) (ho : Op1 X.K r o) (ha : DE XO X E a fa) : DE XO X E (.UnaryOp op a pos) (f1 o fa) := by
  refine ⟨PE.imp (pe_un hr ha.pe) fun σ H Q h => ?_⟩
  obtain ⟨g, Hf, env, S, c, h⟩ := h
  refine ⟨g, Hf, env, S, c, Po.bindP h fun r S1 h1 v Hf1 H1 a1 w1 q1 => ?_⟩
  cases z : o r with
  | none => rw [z] at h1; exact h1.elim
  | some rz => rw [z] at h1; exact ho g Hf1 S1 H1 v r rz Q w1 ⟨H, q1⟩ z fun v Hf' H' a w q => h1 v Hf' H' (a1.trans a) w (RV.back q a1)
end
def opNeg : SV → Option SV
  | .d (.int i) => some (.d (.int (-i)))
  | _ => none
theorem o1_neg {K : Frag} : Op1 K (rU fun i => .int (-i)) opNeg := by
  intro g Hf S H x rx rz Q w hx e q
  unfold opNeg at e
  split at e
  · cases e; cases hx.rd_d; exact ⟨_, rfl, q _ Hf H Gr.refl w (.int _)⟩
  · cases e
/-- f(x) with x only read -/
def lift1 (f : D → Option SV) : List SV → Option SV
  | [a] => a.rd.bind f
  | _ => none
theorem lift1_eq {f : D → Option SV} {rs : List SV} {z : SV} (h : lift1 f rs = some z) : ∃ a x, rs = [a] ∧ a.rd = some x ∧ f x = some z := by
  unfold lift1 at h
  split at h
  · rename_i a
    cases e : a.rd with
    | none => rw [e] at h; cases h
    | some x => rw [e] at h; exact ⟨a, x, rfl, e, h⟩
  · cases h
section
variable {K : Frag} {X : Cx}
def lenD : D → Option SV
  | .list xs => some (.d (.int xs.length))
  | .tuple xs => some (.d (.int xs.length))
  | .str z => if z.length ≤ sizeLine then some (.d (.int z.length)) else none
  | _ => none
def opLen (rs : List SV) : Option SV := lift1 lenD rs
theorem on_len : OpN K (fun xs H Q => ∃ x n, xs = [x] ∧ LenV K x H n ∧ Q (.int n) H) opLen := by
  intro g Hf S H xs rs rz Q w hx e q
  obtain ⟨a, x, rfl, e1, e2⟩ := lift1_eq e
  cases hx with
  | cons hx t =>
    cases t
    unfold lenD at e2
    split at e2
    · cases e2
      obtain ⟨p, vs, rfl, h1, h2, h3⟩ := hx.lst w e1
      refine ⟨.ref p, vs.length, rfl, .inl ⟨vs, .inl (.inl h1), rfl⟩, ?_⟩
      rw [h2.length]
      exact q _ Hf H Gr.refl w (.int _)
    · cases e2
      obtain ⟨p, vs, rfl, h1, h2, h3⟩ := hx.tup e1
      refine ⟨.ref p, vs.length, rfl, .inr ⟨vs, SqT.mono w.sub h1, rfl⟩, ?_⟩
      rw [h2.length]
      exact q _ Hf H Gr.refl w (.int _)
    · split at e2
      · rename_i z hz
        cases e2
        exact ⟨.str z, z.length, by rw [hx.str e1], ⟨hz, rfl⟩, q _ Hf H Gr.refl w (.int _)⟩
      · cases e2
    · cases e2
/-- all items are ints, bools -/
def intsOf : List D → Option (List Int)
  | [] => some []
  | .int i :: r => (intsOf r).map (i :: ·)
  | _ => none
theorem intsOf_eq : ∀ {ds : List D} {ns : List Int}, intsOf ds = some ns → ds = ns.map PyData.int
  | [], _, e => by cases e; rfl
  | d :: ds, ns, e => by
    cases d with
    | int i =>
      simp only [intsOf] at e
      cases h : intsOf ds with
      | none => rw [h] at e; cases e
      | some ms => rw [h] at e; cases e; rw [intsOf_eq h]; rfl
    | _ => cases e
@[simp] theorem intsOf_map (ns : List Int) : intsOf (ns.map PyData.int) = some ns := by
  induction ns with
  | nil => rfl
  | cons n ns ih => simp [intsOf, ih]
def boolsOf : List D → Option (List Bool)
  | [] => some []
  | .bool i :: r => (boolsOf r).map (i :: ·)
  | _ => none
theorem boolsOf_eq : ∀ {ds : List D} {ns : List Bool}, boolsOf ds = some ns → ds = ns.map PyData.bool
  | [], _, e => by cases e; rfl
  | d :: ds, ns, e => by
    cases d with
    | bool i =>
      simp only [boolsOf] at e
      cases h : boolsOf ds with
      | none => rw [h] at e; cases e
      | some ms => rw [h] at e; cases e; rw [boolsOf_eq h]; rfl
    | _ => cases e
@[simp] theorem boolsOf_map (ns : List Bool) : boolsOf (ns.map PyData.bool) = some ns := by
  induction ns with
  | nil => rfl
  | cons n ns ih => simp [boolsOf, ih]
def allD : D → Option SV
  | .list xs => (boolsOf xs).map fun bs => .d (.bool (bs.all id))
  | _ => none
def anyD : D → Option SV
  | .list xs => (boolsOf xs).map fun bs => .d (.bool (bs.any id))
  | _ => none
def opAll (rs : List SV) : Option SV := lift1 allD rs
def opAny (rs : List SV) : Option SV := lift1 anyD rs
theorem on_all : OpN K (rAll K) opAll := by
  intro g Hf S H xs rs rz Q w hx e q
  obtain ⟨a, x, rfl, e1, e2⟩ := lift1_eq e
  cases hx with
  | cons hx t =>
    cases t
    unfold allD at e2
    split at e2
    · rename_i ds
      cases e3 : boolsOf ds with
      | none => rw [e3] at e2; cases e2
      | some bs =>
        rw [e3] at e2; cases e2
        obtain ⟨p, vs, rfl, h1, h2, h3⟩ := hx.lst w e1
        rw [boolsOf_eq e3] at h2
        rw [Rps.blsV h2] at h1
        exact ⟨p, bs, rfl, .inl (.inl h1), q _ Hf H Gr.refl w (.bl _)⟩
    · cases e2
theorem on_any : OpN K (rAny K) opAny := by
  intro g Hf S H xs rs rz Q w hx e q
  obtain ⟨a, x, rfl, e1, e2⟩ := lift1_eq e
  cases hx with
  | cons hx t =>
    cases t
    unfold anyD at e2
    split at e2
    · rename_i ds
      cases e3 : boolsOf ds with
      | none => rw [e3] at e2; cases e2
      | some bs =>
        rw [e3] at e2; cases e2
        obtain ⟨p, vs, rfl, h1, h2, h3⟩ := hx.lst w e1
        rw [boolsOf_eq e3] at h2
        rw [Rps.blsV h2] at h1
        exact ⟨p, bs, rfl, .inl (.inl h1), q _ Hf H Gr.refl w (.bl _)⟩
    · cases e2
/-- sum of a list or a tuple of ints -/
def sumD : D → Option SV
  | .list xs => (intsOf xs).map fun ns => .d (.int ns.sum)
  | .tuple xs => (intsOf xs).map fun ns => .d (.int ns.sum)
  | _ => none
def opSum (rs : List SV) : Option SV := lift1 sumD rs
def rSumT (K : Frag) : List V → Hp → VK → Prop := fun vs H Q => ∃ (a : Addr) (ns : List Int), vs = [V.ref a] ∧ SqT K H a (ns.map V.int) ∧ Q (.int ns.sum) H
theorem cr_sumT (hc : X.calm = true) : CallR X (.builtin "sum") (rSumT X.K) := by
  intro pins s σ H vs us Q I rv ⟨a, ns, e, sq, q⟩
  subst e
  obtain ⟨items, ri, pt, _⟩ := I.tuple sq
  rw [Vals.ref1 rv]
  have hi : IntsAre items ns := ri.ints
  have tp : s.heap.IsTuple a items.toArray := pt
  obtain ⟨ps, hp⟩ := hi.allInts.items
  have hn : numsOf items.toArray.toList = ns := (congrArg numsOf (List.toList_toArray)).trans hi.numsOf
  rw [hp] at tp hn
  rw [nums_intItems] at hn
  apply PySem.W.ktm_sumG (I.ok.hd hc) tp
  intro h' tk t' kp
  rw [preSum_eq, List.take_of_length_le (by simp), hn]
  exact ⟨.int ns.sum, H, I.kept kp, ⟨_, rfl⟩, q⟩
theorem or_sum (hc : X.calm = true) : CallR X (.builtin "sum") (fun x H Q => rSum X.K x H Q ∨ rSumT X.K x H Q) := CallR.or (cr_sum hc) (cr_sumT hc)
theorem on_sum : OpN K (fun x H Q => rSum K x H Q ∨ rSumT K x H Q) opSum := by
  intro g Hf S H xs rs rz Q w hx e q
  obtain ⟨a, x, rfl, e1, e2⟩ := lift1_eq e
  cases hx with
  | cons hx t =>
    cases t
    unfold sumD at e2
    split at e2
    · rename_i ds
      cases e3 : intsOf ds with
      | none => rw [e3] at e2; cases e2
      | some bs =>
        rw [e3] at e2; cases e2
        obtain ⟨p, vs, rfl, h1, h2, h3⟩ := hx.lst w e1
        rw [intsOf_eq e3] at h2
        rw [Rps.intsV h2] at h1
        exact .inl ⟨p, bs, rfl, .inl (.inl h1), q _ Hf H Gr.refl w (.int _)⟩
    · rename_i ds
      cases e3 : intsOf ds with
      | none => rw [e3] at e2; cases e2
      | some bs =>
        rw [e3] at e2; cases e2
        obtain ⟨p, vs, rfl, h1, h2, h3⟩ := hx.tup e1
        rw [intsOf_eq e3] at h2
        rw [Rps.intsV h2] at h1
        exact .inr ⟨p, bs, rfl, SqT.mono w.sub h1, q _ Hf H Gr.refl w (.int _)⟩
    · cases e2
/-- max, min of a list of ints, not empty -/
def maxL : List Int → Int
  | [] => 0
  | [x] => x
  | x :: xs => max x (maxL xs)
def minL : List Int → Int
  | [] => 0
  | [x] => x
  | x :: xs => min x (minL xs)
theorem maxL_spec : ∀ (ns : List Int), ns ≠ [] → maxL ns ∈ ns ∧ ∀ y ∈ ns, y ≤ maxL ns
  | [], h => absurd rfl h
  | [x], _ => by simp [maxL]
  | x :: y :: r, _ => by
    obtain ⟨h1, h2⟩ := maxL_spec (y :: r) (by simp)
    simp only [maxL]
    refine ⟨?_, fun z hz => ?_⟩
    · by_cases c : x ≤ maxL (y :: r)
      · rw [Int.max_eq_right c]; exact List.mem_cons_of_mem _ h1
      · rw [Int.max_eq_left (by omega)]; exact List.mem_cons_self
    · rcases List.mem_cons.mp hz with rfl | hz
      · omega
      · have := h2 z hz; omega
theorem minL_spec : ∀ (ns : List Int), ns ≠ [] → minL ns ∈ ns ∧ ∀ y ∈ ns, minL ns ≤ y
  | [], h => absurd rfl h
  | [x], _ => by simp [minL]
  | x :: y :: r, _ => by
    obtain ⟨h1, h2⟩ := minL_spec (y :: r) (by simp)
    simp only [minL]
    refine ⟨?_, fun z hz => ?_⟩
    · by_cases c : minL (y :: r) ≤ x
      · rw [Int.min_eq_right c]; exact List.mem_cons_of_mem _ h1
      · rw [Int.min_eq_left (by omega)]; exact List.mem_cons_self
    · rcases List.mem_cons.mp hz with rfl | hz
      · omega
      · have := h2 z hz; omega
def maxD : D → Option SV
  | .list xs => (intsOf xs).bind fun ns => if ns.isEmpty then none else some (.d (.int (maxL ns)))
  | _ => none
def minD : D → Option SV
  | .list xs => (intsOf xs).bind fun ns => if ns.isEmpty then none else some (.d (.int (minL ns)))
  | _ => none
def opMax (rs : List SV) : Option SV := lift1 maxD rs
def opMin (rs : List SV) : Option SV := lift1 minD rs
theorem on_max : OpN K (rMax K) opMax := by
  intro g Hf S H xs rs rz Q w hx e q
  obtain ⟨a, x, rfl, e1, e2⟩ := lift1_eq e
  cases hx with
  | cons hx t =>
    cases t
    unfold maxD at e2
    split at e2
    · rename_i ds
      cases e3 : intsOf ds with
      | none => rw [e3] at e2; cases e2
      | some bs =>
        rw [e3] at e2
        cases bs with
        | nil => cases e2
        | cons b bs =>
          cases e2
          obtain ⟨p, vs, rfl, h1, h2, h3⟩ := hx.lst w e1
          rw [intsOf_eq e3] at h2
          rw [Rps.intsV h2] at h1
          obtain ⟨m1, m2⟩ := maxL_spec (b :: bs) (by simp)
          refine ⟨p, b :: bs, rfl, .inl (.inl h1), by simp, fun m hm hy => ?_⟩
          have : m = maxL (b :: bs) := Int.le_antisymm (m2 m hm) (hy _ m1)
          rw [this]
          exact q _ Hf H Gr.refl w (.int _)
    · cases e2
theorem on_min : OpN K (rMin K) opMin := by
  intro g Hf S H xs rs rz Q w hx e q
  obtain ⟨a, x, rfl, e1, e2⟩ := lift1_eq e
  cases hx with
  | cons hx t =>
    cases t
    unfold minD at e2
    split at e2
    · rename_i ds
      cases e3 : intsOf ds with
      | none => rw [e3] at e2; cases e2
      | some bs =>
        rw [e3] at e2
        cases bs with
        | nil => cases e2
        | cons b bs =>
          cases e2
          obtain ⟨p, vs, rfl, h1, h2, h3⟩ := hx.lst w e1
          rw [intsOf_eq e3] at h2
          rw [Rps.intsV h2] at h1
          obtain ⟨m1, m2⟩ := minL_spec (b :: bs) (by simp)
          refine ⟨p, b :: bs, rfl, .inl (.inl h1), by simp, fun m hm hy => ?_⟩
          have : m = minL (b :: bs) := Int.le_antisymm (hy _ m1) (m2 m hm)
          rw [this]
          exact q _ Hf H Gr.refl w (.int _)
    · cases e2
/-- sorted of ints -/
def insI (x : Int) : List Int → List Int
  | [] => [x]
  | y :: ys => if x ≤ y then x :: y :: ys else y :: insI x ys
def srtI : List Int → List Int
  | [] => []
  | x :: xs => insI x (srtI xs)
theorem insI_perm (x : Int) : ∀ ys, (insI x ys).Perm (x :: ys)
  | [] => .refl _
  | y :: ys => by
    unfold insI
    split
    · exact .refl _
    · exact (List.Perm.cons y (insI_perm x ys)).trans (.swap x y ys)
theorem srtI_perm : ∀ xs, (srtI xs).Perm xs
  | [] => .refl _
  | x :: xs => (insI_perm x (srtI xs)).trans (.cons x (srtI_perm xs))
theorem insI_sorted (x : Int) : ∀ ys, ys.Pairwise (· ≤ ·) → (insI x ys).Pairwise (· ≤ ·)
  | [], _ => by simp [insI]
  | y :: ys, h => by
    obtain ⟨h1, h2⟩ := List.pairwise_cons.mp h
    unfold insI
    split
    · rename_i c
      refine List.pairwise_cons.mpr ⟨fun z hz => ?_, h⟩
      rcases List.mem_cons.mp hz with rfl | hz
      · exact c
      · exact Int.le_trans c (h1 z hz)
    · rename_i c
      refine List.pairwise_cons.mpr ⟨fun z hz => ?_, insI_sorted x ys h2⟩
      rcases List.mem_cons.mp ((insI_perm x ys).mem_iff.mp hz) with rfl | hz
      · omega
      · exact h1 z hz
theorem srtI_sorted : ∀ xs, (srtI xs).Pairwise (· ≤ ·)
  | [] => .nil
  | x :: xs => insI_sorted x _ (srtI_sorted xs)
theorem perm_sorted_eq : ∀ {xs ys : List Int}, xs.Perm ys → xs.Pairwise (· ≤ ·) → ys.Pairwise (· ≤ ·) → xs = ys
  | [], ys, p, _, _ => (List.nil_perm.mp p).symm
  | x :: xs, [], p, _, _ => absurd p.length_eq (by simp)
  | x :: xs, y :: ys, p, hx, hy => by
    obtain ⟨h1, h2⟩ := List.pairwise_cons.mp hx
    obtain ⟨k1, k2⟩ := List.pairwise_cons.mp hy
    have e : x = y := by
      have a : x ∈ y :: ys := p.mem_iff.mp List.mem_cons_self
      have b : y ∈ x :: xs := p.mem_iff.mpr List.mem_cons_self
      rcases List.mem_cons.mp a with rfl | a
      · rfl
      · rcases List.mem_cons.mp b with rfl | b
        · rfl
        · exact Int.le_antisymm (h1 y b) (k1 x a)
    subst e
    rw [perm_sorted_eq (List.Perm.cons_inv p) h2 k2]
def sortD : D → Option SV
  | .list xs => (intsOf xs).map fun ns => .own ((srtI ns).map PyData.int)
  | _ => none
def opSorted (rs : List SV) : Option SV := lift1 sortD rs
theorem on_sorted : OpN K (rSortedI K) opSorted := by
  intro g Hf S H xs rs rz Q w hx e q
  obtain ⟨a, x, rfl, e1, e2⟩ := lift1_eq e
  cases hx with
  | cons hx t =>
    cases t
    unfold sortD at e2
    split at e2
    · rename_i ds
      cases e3 : intsOf ds with
      | none => rw [e3] at e2; cases e2
      | some bs =>
        rw [e3] at e2; cases e2
        obtain ⟨p, vs, rfl, h1, h2, h3⟩ := hx.lst w e1
        rw [intsOf_eq e3] at h2
        have hl := h2.length
        rw [Rps.intsV h2] at h1 h3
        refine ⟨p, bs, rfl, .inl (.inl h1), fun ns' u hp hs hu => ?_⟩
        rw [perm_sorted_eq (hp.trans (srtI_perm bs).symm) hs (srtI_sorted bs)]
        obtain ⟨a1, a2, a3⟩ := new_own w hu (Rps.ints (K := K) (H := Hf) (srtI bs)) (by
          simp only [List.length_map] at h3 ⊢
          rw [(srtI_perm bs).length_eq]; exact h3)
        exact q _ _ _ a1 a2 a3
    · cases e2
def opAbs : List SV → Option SV
  | [.d (.int i)] => some (.d (.int (if i < 0 then -i else i)))
  | _ => none
theorem on_abs : OpN K (fun xs H Q => ∃ i, xs = [.int i] ∧ Q (.int (if i < 0 then -i else i)) H) opAbs := by
  intro g Hf S H xs rs rz Q w hx e q
  unfold opAbs at e
  split at e
  · cases e
    cases hx with
    | cons hx t => cases t; cases rvq_int hx; exact ⟨_, rfl, q _ Hf H Gr.refl w (.int _)⟩
  · cases e
def opInt : List SV → Option SV
  | [.d (.int i)] => some (.d (.int i))
  | [.d (.bool k)] => some (.d (.int (if k then 1 else 0)))
  | _ => none
theorem on_int : OpN K (fun xs H Q => (∃ i, xs = [.int i] ∧ Q (.int i) H) ∨ ∃ k, xs = [.bl k] ∧ Q (.int (if k then 1 else 0)) H) opInt := by
  intro g Hf S H xs rs rz Q w hx e q
  unfold opInt at e
  split at e
  · cases e
    cases hx with
    | cons hx t => cases t; cases rvq_int hx; exact .inl ⟨_, rfl, q _ Hf H Gr.refl w (.int _)⟩
  · cases e
    cases hx with
    | cons hx t => cases t; rw [hx.bool rfl]; exact .inr ⟨_, rfl, q _ Hf H Gr.refl w (.int _)⟩
  · cases e
/-- tuple(x), list(x) -/
def tupD : D → Option SV
  | .list xs => some (.d (.tuple xs))
  | .tuple xs => some (.d (.tuple xs))
  | _ => none
def opTuple (rs : List SV) : Option SV := lift1 tupD rs
theorem on_tuple : OpN K (fun xs H Q => ∃ p ys, xs = [.ref p] ∧ ((SqL K H p ys ∧ ∀ l, H l = none → Q (.ref l) (upd H l (.tup ys))) ∨ (SqT K H p ys ∧ Q (.ref p) H))) opTuple := by
  intro g Hf S H xs rs rz Q w hx e q
  obtain ⟨a, x, rfl, e1, e2⟩ := lift1_eq e
  cases hx with
  | cons hx t =>
    cases t
    unfold tupD at e2
    split at e2
    · cases e2
      obtain ⟨p, vs, rfl, h1, h2, h3⟩ := hx.lst w e1
      refine ⟨p, vs, rfl, .inl ⟨.inl (.inl h1), fun l hl => ?_⟩⟩
      obtain ⟨a1, a2, a3⟩ := new_tup w hl h2 h3
      exact q _ _ _ a1 a2 a3
    · cases e2
      obtain ⟨p, vs, rfl, h1, h2, h3⟩ := hx.tup e1
      exact ⟨p, vs, rfl, .inr ⟨SqT.mono w.sub h1, q _ Hf H Gr.refl w (.tup h1 h2 h3)⟩⟩
    · cases e2
def lstD : D → Option SV
  | .list xs => some (.own xs)
  | .tuple xs => some (.own xs)
  | _ => none
def opList (rs : List SV) : Option SV := lift1 lstD rs
theorem on_list : OpN K (fun xs H Q => ∃ p ys, xs = [.ref p] ∧ (SqL K H p ys ∨ SqT K H p ys) ∧ ∀ l, H l = none → Q (.ref l) (upd H l (.lst ys))) opList := by
  intro g Hf S H xs rs rz Q w hx e q
  obtain ⟨a, x, rfl, e1, e2⟩ := lift1_eq e
  cases hx with
  | cons hx t =>
    cases t
    unfold lstD at e2
    split at e2
    · cases e2
      obtain ⟨p, vs, rfl, h1, h2, h3⟩ := hx.lst w e1
      refine ⟨p, vs, rfl, .inl (.inl (.inl h1)), fun l hl => ?_⟩
      obtain ⟨a1, a2, a3⟩ := new_own w hl h2 h3
      exact q _ _ _ a1 a2 a3
    · cases e2
      obtain ⟨p, vs, rfl, h1, h2, h3⟩ := hx.tup e1
      refine ⟨p, vs, rfl, .inr (SqT.mono w.sub h1), fun l hl => ?_⟩
      obtain ⟨a1, a2, a3⟩ := new_own w hl h2 h3
      exact q _ _ _ a1 a2 a3
    · cases e2
end
/-! ### isinstance(x, T) -/
def tyD : D → String
  | .none => "NoneType"
  | .bool _ => "bool"
  | .int _ => "int"
  | .str _ => "str"
  | .list _ => "list"
  | .tuple _ => "tuple"
  | .dict _ => "dict"
def isiD (T : String) (x : D) : Option Bool := match T, x with
  | "tuple", .tuple _ => some true
  | "tuple", .dict _ => none
  | "tuple", _ => some false
  | "list", .list _ => some true
  | "list", .dict _ => none
  | "list", _ => some false
  | "bool", .bool _ => some true
  | "bool", .dict _ => none
  | "bool", _ => some false
  | "int", .int _ => some true
  | "int", .bool _ => some true
  | "int", .dict _ => none
  | "int", _ => some false
  | "str", .str _ => some true
  | "str", .dict _ => none
  | "str", _ => some false
  | _, _ => none
def fIsi (T : String) (f : FE) : FE := fun env S => (f env S).bind fun r S1 => (optR (r.rd.bind (isiD T)) S1).bind fun b S2 => .ok (.d (.bool b)) S2
theorem kit_tab : (["NoneType", "bool", "int", "str", "list", "tuple"].all fun a => ["tuple", "list", "bool", "int", "str"].all fun b => decide (kitB a b = some (a == b || (a == "bool" && b == "int")))) = true := by decide +kernel
theorem kit_at {a b : String} (ha : a ∈ ["NoneType", "bool", "int", "str", "list", "tuple"]) (hb : b ∈ ["tuple", "list", "bool", "int", "str"]) : kitB a b = some (a == b || (a == "bool" && b == "int")) := by
  have h := kit_tab
  rw [List.all_eq_true] at h
  have h1 := h a ha
  rw [List.all_eq_true] at h1
  exact of_decide_eq_true (h1 b hb)
theorem tyX_of {K : Frag} {H : Hp} {v : V} {x : D} (h : Rp K H v x) : TyX K H v (.type (tyD x)) ∧ tyD x ∈ ["NoneType", "bool", "int", "str", "list", "tuple"] := by
  cases h with
  | non => exact ⟨.base .non, by simp [tyD]⟩
  | bl b => exact ⟨.base (.bl b), by simp [tyD]⟩
  | int i => exact ⟨.base (.int i), by simp [tyD]⟩
  | str z => exact ⟨.base (.str z), by simp [tyD]⟩
  | lst h _ _ => exact ⟨.base (.lst h), by simp [tyD]⟩
  | tup h _ _ =>
    refine ⟨?_, by simp [tyD]⟩
    rcases h with (h | ⟨o, h⟩) | ⟨o, its, n, h1, h2, h3, h4, h5⟩
    · exact .base (.tup h)
    · exact .fTuple h
    · exact .kTuple h1 h2
theorem isiD_eq {T : String} (hT : T ∈ ["tuple", "list", "bool", "int", "str"]) {x : D} {b : Bool} (h : isiD T x = some b) : b = (tyD x == T || (tyD x == "bool" && T == "int")) := by
  simp only [List.mem_cons, List.mem_nil_iff, or_false] at hT
  rcases hT with rfl | rfl | rfl | rfl | rfl <;> cases x <;> first | (cases h; rfl) | cases h
section
variable {X : Cx} {E : XK} {pos p p2 : Pos} {e : Expr} {fe : FE}
theorem d_isi {T : Str} {Tn : String} (hT : Tn ∈ ["tuple", "list", "bool", "int", "str"]) (he : DE XO X E e fe) (hg : Gl X "isinstance") (hm : X.mg "isinstance" = none) (hgT : Gl X T) (hmT : X.mg T = none) (hvT : bootBuiltins T = some (.type Tn)) (hnT : T ≠ "__name__" := by decide) (hdT : (T == ("__debug__" : Str)) = false := by decide)
    (hv : bootBuiltins "isinstance" = some (.builtin "isinstance") := by decide +kernel)
    (hst : starEach (e :: [.Name T p2]) X.env = (false, eval e X.env) :: starEach [.Name T p2] X.env := by rfl) (hst2 : starEach (.Name T p2 :: []) X.env = (false, eval (.Name T p2) X.env) :: starEach [] X.env := by rfl) (hpl : (backTo pos (starEach [.Name T p2] X.env)).any (·.1) = false := by rfl) :
    DE XO X E (.Call (.Name "isinstance" p) [e, .Name T p2] [] pos) (fIsi Tn fe) := by
  refine ⟨PE.imp (pe_callB call_isi hg hm hv (pa_cons he.pe (pa_cons (pe_bltn (v := .ty Tn) hgT hmT hvT rfl hnT hdT) pa_nil hst2) hst) (by decide) (by decide) hst hpl) fun σ H Q h => ?_⟩
  obtain ⟨g, Hf, env, S, c, h⟩ := h
  refine ⟨g, Hf, env, S, c, Po.bindP h fun r S1 h1 v Hf1 H1 a1 w1 q1 => ?_⟩
  cases e1 : r.rd with
  | none => rw [e1] at h1; exact h1.elim
  | some x =>
    cases e2 : isiD Tn x with
    | none => simp only [e1, Option.bind_some, e2] at h1; exact h1.elim
    | some b =>
      simp only [e1, Option.bind_some, e2, optR_some, Res.bind_ok] at h1
      obtain ⟨t1, t2⟩ := tyX_of (RV.rp w1 q1 e1)
      refine ⟨v, .ty Tn, .type (tyD x), .type Tn, b, rfl, .ty Tn, t1, ?_, h1 _ Hf1 H1 a1 w1 (.bl b)⟩
      rw [isiD_eq hT e2]
      exact kit_ty (kit_at t2 hT)
/-- list(range(..)) -/
def fLstR (k : List SV → Option (List D × Bool)) (f : FA) : FE := fun env S => (f env S).bind fun rs S1 => (optR (k rs) S1).bind fun r S2 => .ok (.own r.1) S2
end
end DV

/-! DV6: more over deep values: calls of defs by a bundle (Cal), ranges with a step, list(range), places changed in place, tuples times a number. -/
namespace DV
open PySem PySem.Spec PyProof.Rows L2
/-- no exceptions -/
abbrev XO0 : XOT := fun _ _ _ _ _ => False
def Cal (P : Program) (w : World) (K : Frag) (mg : Str → Option Value) (base : Heap) (x : Str) (l n : Nat) (fn : Fn) : Prop :=
  ∃ (f : Addr) (fd : FuncData) (ps : List Str), FnOk P w K mg base CX0 l f fd ps (spF XO0 K n fn) ∧ mg x = some (.ref f) ∧ PySem.W.keepIn K (.ref f) = true ∧ Binds K fd ps []
section
variable {X : Cx} {pos p : Pos}
theorem d_callC {x : Str} {l n : Nat} {fn : Fn} {e : Expr} {es : List Expr} {fa : FA} (C : Cal X.prog X.w X.K X.mg X.base x l n fn) (hr : Room l X.A) (hg : Gl X x) (ha : DA XO0 X E0 (e :: es) fa) (hdb : (x == ("__debug__" : Str)) = false := by decide)
    (he : starEach (e :: es) X.env = (false, eval e X.env) :: starEach es X.env := by rfl) (hpl : (backTo pos (starEach es X.env)).any (·.1) = false := by rfl) : DE XO0 X E0 (.Call (.Name x p) (e :: es) [] pos) (fCall n fn fa) := by
  obtain ⟨f, fd, ps, F, hm, hk, hb⟩ := C
  exact d_call F hr hg hm hk hb pass0 ha hdb he hpl
end
theorem fn_bad {P : Program} {w : World} {K : Frag} {mg : Str → Option Value} {base : Heap} {l n : Nat} {f : Addr} {fd : FuncData} {ps : List Str} (hn : ps.length = n) : FnOk P w K mg base CX0 l f fd ps (spF XO0 K n fun _ _ => .bad) :=
  ⟨fun vs H Q E h => by rw [h.1, hn], fun A outer s H args us vs Q E _ _ _ _ h => by obtain ⟨_, g, Hf, S, rs, _, _, h⟩ := h; exact h.elim⟩
section
variable {XO : XOT} {X : Cx} {E : XK} {pos p : Pos} {tg : Expr}
theorem ds_doc {z j pos'} : DS XO X E (.Expr (.Constant (.str z) j pos) pos') fNext := ⟨PS.imp L2.ps_doc fun D σ H h => by obtain ⟨g, Hf0, H0, env, S, Hf, o, h⟩ := h; exact h σ H Hf o (Same.refl _)⟩
/-- range(a, b, c), c above 0 -/
def rngN (i j c : Int) : Nat := if i < j then ((j - i - 1) / c + 1).toNat else 0
noncomputable def rng3 : List SV → Option (List D × Bool)
  | [.d (.int i), .d (.int j), .d (.int c)] => @ite _ (-lim ≤ i ∧ i < lim ∧ -lim ≤ j ∧ j < lim ∧ 0 < c ∧ c < 1000000 ∧ rngN i j c ≤ sizeLine) (Classical.propDecidable _) (some (rngD i c (rngN i j c), true)) (none)
  | _ => none
theorem rngN_size {i j c : Int} (hc : 0 < c) : Builtin.Range.rangeSize i j c = (rngN i j c : Nat) := by
  unfold Builtin.Range.rangeSize rngN
  rw [if_pos hc]
  split
  · have : 0 ≤ (j - i - 1) / c := Int.ediv_nonneg (by omega) (by omega)
    omega
  · rfl
theorem rng_small {i j c : Int} (h1 : -lim ≤ i) (h2 : i < lim) (h3 : -lim ≤ j) (h4 : j < lim) (hc : 0 < c) (hc2 : c < 1000000) : Builtin.Range.small i j c = true := by
  rw [lim_eq] at h1 h2 h3 h4
  unfold Builtin.Range.small
  rw [rngN_size hc]
  have hn : (rngN i j c : Int) ≤ 2 ^ 63 - 1 := by
    unfold rngN
    split
    · have := Int.ediv_le_self (a := j - i - 1) c (by omega)
      omega
    · decide
  simp only [Builtin.Range.rangeFitsLong, Bool.and_eq_true, Bool.or_eq_true, decide_eq_true_eq, beq_iff_eq, show c > 0 from hc, if_true]
  omega
theorem rng3_eq {rs : List SV} {r : List D × Bool} (h : rng3 rs = some r) : ∃ i j c, rs = [.d (.int i), .d (.int j), .d (.int c)] ∧ r = (rngD i c (rngN i j c), true) ∧ RgC i j c (rngN i j c) ∧ rngN i j c ≤ sizeLine := by
  unfold rng3 at h
  split at h
  · rename_i i j c
    split at h
    · rename_i z
      cases h
      exact ⟨i, j, c, rfl, rfl, ⟨by omega, by omega, rng_small z.1 z.2.1 z.2.2.1 z.2.2.2.1 z.2.2.2.2.1 z.2.2.2.2.2.1, rngN_size z.2.2.2.2.1⟩, z.2.2.2.2.2.2⟩
    · cases h
  · cases h
theorem rvqs_int3 {K : Frag} {g : G} {Hf H : Hp} {vs : List V} {i j c : Int} (h : RVqs K g Hf H vs [.d (.int i), .d (.int j), .d (.int c)]) : vs = [.int i, .int j, .int c] := by
  cases h with
  | cons q t => cases t with
    | cons q2 t => cases t with
      | cons q3 t =>
        cases t
        cases rvq_int q; cases rvq_int q2; cases rvq_int q3; rfl
theorem di_rng3 {a b c : Expr} {fa : FA} (hg : Gl X "range") (hm : X.mg "range" = none) (ha : DA XO X E [a, b, c] fa)
    (hs : starEach [a, b, c] X.env = (false, eval a X.env) :: starEach [b, c] X.env := by rfl) (hpl : (backTo pos (starEach [b, c] X.env)).any (·.1) = false := by rfl) : DI XO X E tg (.Call (.Name "range" p) [a, b, c] [] pos) (fRng rng3 fa) := by
  refine ⟨PI.imp (pi_range3 hg hm ha.pa hs hpl) fun σ H R h => ?_⟩
  obtain ⟨g, Hf, env, S, c, h⟩ := h
  refine ⟨g, Hf, env, S, c, Po.bindP h fun rs S1 h1 vs Hf1 H1 a1 w1 q1 => ?_⟩
  cases e : rng3 rs with
  | none => rw [e] at h1; exact h1.elim
  | some r =>
    rw [e] at h1
    obtain ⟨i, j, c, rfl, rfl, h3, h4⟩ := rng3_eq e
    exact ⟨i, j, c, _, rvqs_int3 q1, h3, h1 _ Hf1 H1 a1 w1 ⟨_, _, iterV_rngC, rng_rps _ _ _, by rw [rngV_len]; exact h4, fun _ _ _ => trivial, fun _ _ _ => trivial⟩⟩
/-- list(range(a, b, c)) -/
theorem d_lstR3 {a b c : Expr} {fa : FA} {p1 pos1 : Pos} (hgl : Gl X "list") (hml : X.mg "list" = none) (hc : X.calm = true) (hg : Gl X "range") (hm : X.mg "range" = none) (ha : DA XO X E [a, b, c] fa)
    (hs : starEach [a, b, c] X.env = (false, eval a X.env) :: starEach [b, c] X.env := by rfl) (hpl : (backTo pos (starEach [b, c] X.env)).any (·.1) = false := by rfl)
    (hs1 : starEach [.Call (.Name "range" p) [a, b, c] [] pos] X.env = (false, eval (.Call (.Name "range" p) [a, b, c] [] pos) X.env) :: starEach [] X.env := by rfl) :
    DE XO X E (.Call (.Name "list" p1) [.Call (.Name "range" p) [a, b, c] [] pos] [] pos1) (fLstR rng3 fa) := by
  refine ⟨⟨fun pins s σ H Q I h => ?_⟩⟩
  obtain ⟨g, Hf, env, S, cn, h⟩ := h
  have goal1 : tDA XO X.K E fa σ H (fun vs H1 => ∃ i j c n, vs = [.int i, .int j, .int c] ∧ RgC i j c n ∧ n ≤ sizeLine ∧ ∀ u, H1 u = none → Q (.ref u) (upd H1 u (.lst (rngV i c n)))) := by
    refine ⟨g, Hf, env, S, cn, Po.bindP h fun rs S1 h1 vs Hf1 H1 a1 w1 q1 => ?_⟩
    cases e : rng3 rs with
    | none => rw [e] at h1; exact h1.elim
    | some r =>
      rw [e] at h1
      obtain ⟨i, j, c, rfl, rfl, h3, h4⟩ := rng3_eq e
      refine ⟨i, j, c, _, rvqs_int3 q1, h3, h4, fun u hu => ?_⟩
      obtain ⟨b1, b2, b3⟩ := new_own w1 hu (rng_rps (K := X.K) (H := Hf1) i c (rngN i j c)) (by rw [rngV_len]; exact h4)
      exact h1 _ _ _ (a1.trans b1) b2 (RV.back b3 a1)
  refine Call_ (ld_blt I hgl hml boot_list (PyProof.Rows.callWith_type1 (args_cons ?_ hs1) hs1))
  refine Call_ (ld_blt I hg hm boot_range (PyProof.Rows.callWith_type1 (thn (ha.pa.run pos pins s σ H _ I goal1) fun us s1 ⟨vs, H1, I1, r1, i, j, c, n, e, ⟨c0, c1, c2, c3⟩, hn, q⟩ => ?_) hs hpl))
  subst e
  cases r1 with
  | cons r rr =>
    cases rr with
    | cons r' rr =>
      cases rr with
      | cons r'' rr =>
        cases rr
        obtain ⟨t, rfl⟩ := r
        obtain ⟨t', rfl⟩ := r'
        obtain ⟨t'', rfl⟩ := r''
        refine call_range_3 c0 (args_nil ?_) (.inl (PyProof.noPylong_small c1))
        have I2 : Inv X pins σ H1 { s1 with heap := s1.heap.push { cls := .type "range", data := .fields #[.int i t, .int j t', .int c t''] } } := I1.kept (t' := s1.toks) fun b o e => Heap.get?_push_of_some _ e
        refine call_list_range (n := n) (I2.ok.hd hc) (IsRange.new _ _ _ _ _ _ _) c2 c3 hn fun h' tk acc c' hk e' hi => ?_
        have rv : Vals (rngV i c n) acc.toList := by
          have e1 : acc.toList.length = n := by rw [Array.length_toList]; exact hi.1
          unfold rngV
          rw [← e1]
          refine vals_of_get acc.toList _ fun m u hu => ?_
          obtain ⟨t, rfl⟩ := hi.2 m u (by rw [← hu, Array.getElem?_toList])
          exact ⟨t, rfl⟩
        refine ⟨.ref _, _, I2.laid (o := .lst (rngV i c n)) hk (Nat.le_refl _) (show ObjOk X.prog X.w _ _ _ (.lst (rngV i c n)) from ⟨by rw [rngV_len]; exact hn, acc.toList, c', rv, ?_⟩), rfl, q _ (I2.hok.fresh (Nat.le_refl _))⟩
        rw [Array.toArray_toList]; exact e'
/-- xs[k] op= e -/
theorem pget_list : PGet X (rIxL X.K) := by
  intro pins s σ H o i ov iv Q I ro ri ⟨p, xs, k, v, e1, e2, sq, ha, q⟩
  subst e1 e2
  cases ro
  obtain ⟨t, rfl⟩ := ri
  obtain ⟨us, rv, pl, hz⟩ := I.list sq
  obtain ⟨j, h1, h2, h3, h4, h5⟩ := atI_get ha
  obtain ⟨u, hu, ru⟩ := rv.get h2
  have hl := rv.length
  have hn := line63
  have fin : EP X pins σ Q u s := ⟨v, H, I, ru, q⟩
  by_cases h0 : 0 ≤ k
  · have hj : k.toNat = j := by
      rw [seqIndex_of h0 h5] at h1
      exact Option.some.inj h1
    exact wpAny_getItem_list pl.isList h0 (by omega) (by rw [hj]; simpa using hu) fin
  · have hj : (k + (us.toArray.size : Int)).toNat = j := by
      rw [seqIndex_neg (by omega) h4] at h1
      rw [List.size_toArray, ← hl]
      exact Option.some.inj h1
    exact wpAny_getItem_list_neg pl.isList (by omega) (by rw [List.size_toArray] <;> omega) (by omega) (by rw [hj]; simpa using hu) fin
def iaddD : D → D → Option SV
  | .int i, .int j => some (.d (.int (i + j)))
  | .str a, .str b => if a.length + b.length ≤ sizeLine then some (.d (.str (a ++ b))) else none
  | _, _ => none
def opIadd (a b : SV) : Option SV := lift2 iaddD a b
theorem or_iadd : OpR X (inplaceOp .Add) (fun x y H Q => (∃ i j, x = .int i ∧ y = .int j ∧ Q (.int (i + j)) H) ∨ (∃ i j, x = .str i ∧ y = .str j ∧ i.length + j.length ≤ sizeLine ∧ Q (.str (i ++ j)) H)) := iop_add.or iop_add_str
theorem o2_iadd {K : Frag} : Op2 K (fun x y H Q => (∃ i j, x = .int i ∧ y = .int j ∧ Q (.int (i + j)) H) ∨ (∃ i j, x = .str i ∧ y = .str j ∧ i.length + j.length ≤ sizeLine ∧ Q (.str (i ++ j)) H)) opIadd := by
  intro g Hf S H a b ra rb z Q w ha hb e q
  obtain ⟨x, y, e1, e2, e3⟩ := lift2_eq e
  unfold iaddD at e3
  split at e3
  · cases e3; exact .inl ⟨_, _, ha.int e1, hb.int e2, q _ Hf H Gr.refl w (.int _)⟩
  · split at e3
    · cases e3; exact .inr ⟨_, _, ha.str e1, hb.str e2, by assumption, q _ Hf H Gr.refl w (.str _)⟩
    · cases e3
  · cases e3
theorem or_isub : OpR X (inplaceOp .Sub) (rI (fun _ _ => True) fun i j => .int (i - j)) := fun pins s σ H x y v u Q I rx ry q => by
  obtain ⟨i, j, h1, h2, _, h3⟩ := q
  exact iop_sub pins s σ H x y v u Q I rx ry ⟨i, j, h1, h2, h3⟩
theorem o2_isub {K : Frag} : Op2 K (rI (fun _ _ => True) fun i j => .int (i - j)) opSub := o2_sub
def fAugS (i : Nat) (op : SV → SV → Option SV) (fk fe : FE) : FS := fun env S => match env[i]? with
  | some (.own xs) => (fk env S).toS fun k S1 => match asI k with
    | some k => (match atI xs k, ixN xs.length k with
      | some x, some j => (fe env S1).toS fun r S2 => (match op (.d x) r with
        | some (.d y) => .nx (env.set i (.own (xs.set j y))) S2
        | _ => .bad)
      | _, _ => .bad)
    | none => .bad
  | _ => .bad
theorem asI_rv {K : Frag} {g : G} {H0 Hf H : Hp} {v : V} {r : SV} {i : Int} (h : RV K g H0 Hf H v r) (e : asI r = some i) : v = .int i := by
  cases r with
  | d x => cases x <;> first | (cases e; cases h; rfl) | cases e
  | _ => cases e
theorem ds_augS {x : Str} {i : Nat} {k e : Expr} {fk fe : FE} {p tpos : Pos} {op : Operator} {r : R2} {o : SV → SV → Option SV} (hN : X.N[i]? = some x) (hv : Vis X.env.scope x) (hr : OpR X (inplaceOp op) r) (ho : Op2 X.K r o) (hk : DE XO X E k fk) (he : DE XO X E e fe)
    (hd : (x == ("__debug__" : Str)) = false := by decide) (hcd : (x == ("__classdict__" : Str)) = false := by decide)
    (ha : ∀ ov iv new, augStore k ov iv new = (do holding [new, ov, iv] (setItem ov iv new); release [new, ov, iv] []; pure .next) := by intros; rfl) : DS XO X E (.AugAssign (.Subscript (.Name x p) k tpos) op e pos) (fAugS i o fk fe) := by
  refine ⟨PS.imp (ps_augS (tip := r) (pe_var hN hv hd hcd) hk.pe pget_list he.pe (fun pins s σ H x y v u Q I rx ry q => hr pins s σ H x y v u Q I rx ry q) set_list ha) fun D σ H h => ?_⟩
  obtain ⟨g, Hf0, H0, env, S, Hf, oo, h⟩ := h
  unfold fAugS at h
  split at h
  · rename_i xs ex
    obtain ⟨q, vs, h1, h2, h3, h4, h5⟩ := oo.own ex
    refine ⟨.ref q, h1, g, Hf, env, S, oo.cn, PoS.expr oo h fun rk S1 v Hf1 H1 hh a1 w1 q1 => ?_⟩
    have o1 := oo.step a1 w1
    obtain ⟨q', vs', k1, k2, k3, k4, k5⟩ := o1.own ex
    rw [h1] at k1
    cases k1
    split at hh
    · rename_i kk ek
      have ev := asI_rv q1 ek
      subst ev
      split at hh
      · rename_i x0 j e5 e6
        obtain ⟨v0, m1, m2⟩ := atI_rps k3 e5
        refine ⟨q, vs', kk, v0, rfl, rfl, .inl (.inl k2), m1, g, Hf1, env, S1, o1.cn, PoS.expr o1 hh fun rr S2 v2 Hf2 H2 hh a2 w2 q2 => ?_⟩
        have o2 := o1.step a2 w2
        split at hh
        · rename_i y ey
          refine ho g Hf2 S2 H2 v0 v2 (.d x0) rr (.d y) _ w2 ⟨H1, Rp.mono a2.ext m2⟩ ⟨H1, q2⟩ ey fun v3 Hf3 H3 a3 w3 q3 => ?_
          have o3 := o2.step a3 w3
          obtain ⟨q'', vs'', n1, n2, n3, n4, n5⟩ := o3.own ex
          rw [h1] at n1
          cases n1
          exact ⟨q, vs'', kk, j, rfl, rfl, n2, by rw [n3.length]; exact e6, hh _ _ _ (o3.chg (o' := .lst (vs''.set j v3)) ex rfl rfl h1 ⟨n3.set q3 j, by simpa using n4⟩) a3.ext⟩
        · exact hh.elim
      · exact hh.elim
    · exact hh.elim
  · exact h.elim
end
/-- a module's constant of any kind -/
theorem d_gval {XO : XOT} {X : Cx} {E : XK} {pos : Pos} {x : Str} {dd : D} (hg : Gl X x) (hm : ∃ (a : Addr) (v : V) (u : Value), X.mg x = some u ∧ RelV v u ∧ ∀ H : Hp, Rp X.K H v dd) (hd : (x == ("__debug__" : Str)) = false := by decide) : DE XO X E (.Name x pos) (fC dd) := by
  obtain ⟨_, v, u, h1, h2, h3⟩ := hm
  exact d_const (v := v) (pe_glob hg h1 h2 hd) h3
theorem hu64 {k : Nat} {A : Around} (hr : Room k A) : A.units + 64 < cLine := hr.units
theorem hu65 {k : Nat} {A : Around} (hr : Room k A) : A.units + 65 < cLine := by have := hr.un; omega
/-! ### a tuple times a number -/
theorem tuple_mul1 (l : Addr) (items : Array Value) (n : Nat) (dd : Option Addr) (sl : Array (Option Value)) (x : Int) (u : Tok) (c0 : (decide (x < -(2 ^ 63)) || decide (x ≥ 2 ^ 63)) = false) (c1 : (items.isEmpty || x == 1) = true) :
    Meets (Builtin.«tuple.__mul__» ⟨[.ref l, .int x u], []⟩) (fun _ R s => s.heap.get? l = some { cls := .type "tuple", dict := dd, data := .seq items n, slots := sl } ∧ R (.ok (.ret (.ref l))) { s with heap := s.heap, toks := s.toks }) :=
  .of_wp fun prog w A R s h => by
    obtain ⟨hp, g, d, tk, os⟩ := s
    obtain ⟨hl, h⟩ := h
    have f1 := AutoSeq1.idx_int
    wp_walk using AutoSeq1.wpAny_loadPart' hl
    repeat (first
      | (refine wpAny_ite_false (decide_eq_false (by rw [c0]; exact Bool.false_ne_true)) ?_; wp_walk using AutoSeq1.wpAny_loadPart' hl)
      | (refine wpAny_ite_true (decide_eq_true c1) ?_; wp_walk using AutoSeq1.wpAny_loadPart' hl))
    exact ⟨_, rfl, h⟩
def rRep1 (K : Frag) : R2 := fun x y H Q => ∃ l k xs, x = .ref l ∧ y = .int k ∧ SqT K H l xs ∧ (xs = [] ∨ k = 1) ∧ -1000 ≤ k ∧ k ≤ 1000 ∧ Q (.ref l) H
theorem op_rep1 {X : Cx} : OpR X (binaryOp .Mult) (rRep1 X.K) := by
  intro pins s σ H x y v u Q I rx ry ⟨l, k, xs, e1, e2, hT, hc, h1, h2, q⟩
  subst e1 e2
  cases rx
  obtain ⟨t, rfl⟩ := ry
  obtain ⟨its, r, ⟨⟨cls, dd, data, sl⟩, ho, hcl, n, hd⟩, hs⟩ := I.tuple hT
  simp only at hcl hd
  subst hcl hd
  have c0 : (decide (k < -(2 ^ 63)) || decide (k ≥ 2 ^ 63)) = false := by rw [decide_eq_false (by omega), decide_eq_false (by omega)]; rfl
  have c1 : (its.toArray.isEmpty || k == 1) = true := by
    rcases hc with rfl | rfl
    · cases r; rfl
    · simp
  exact wpAny_binaryOp_repeat_ref (T := "tuple") (U := "int") (by decide) ⟨_, ho, rfl⟩ (fun s' => typeIs_int s' k t) noFill_tuple_mul F.fills_int_mul F.slot_int_rmul repeat_tuple F.slot_int_index.lookup
    (call_meets F.slot_int_rmul (typeIs_int s k t) F.entry_int_rmul (F.args_int_rmul_2 _ _) (int_rmul_tuple k t l its.toArray n dd sl)
      ⟨ho, rfl, ⟨_, ho, rfl⟩, call_meets F.slot_tuple_mul ⟨_, ho, rfl⟩ F.entry_tuple_mul (F.args_tuple_mul_2 _ _) (tuple_mul1 l its.toArray n dd sl k t c0 c1) ⟨ho, ⟨.ref l, H, I, rfl, q⟩⟩⟩)
/-- is, is not of bools -/
def isBo (b : Bool) : SV → SV → Option SV := fun x y => match x, y with
  | .d (.bool i), .d (.bool j) => some (.d (.bool (b != decide (i = j))))
  | _, _ => none
theorem o2_isBo {K : Frag} : Op2 K rIsB (isBo false) := by
  intro g Hf S H a b ra rb z Q w ha hb e q
  unfold isBo at e
  split at e
  · rename_i i j
    cases e
    cases ha.rd_d
    cases hb.rd_d
    refine ⟨i, j, rfl, rfl, ?_⟩
    have := q _ Hf H Gr.refl w (.bl _)
    simpa using this
  · cases e
theorem o2_notBo {K : Frag} : Op2 K rNotB (isBo true) := by
  intro g Hf S H a b ra rb z Q w ha hb e q
  unfold isBo at e
  split at e
  · rename_i i j
    cases e
    cases ha.rd_d
    cases hb.rd_d
    refine ⟨i, j, rfl, rfl, ?_⟩
    have := q _ Hf H Gr.refl w (.bl _)
    simpa using this
  · cases e
noncomputable def repTD : D → D → Option SV
  | .tuple xs, .int k => @ite _ (1 ≤ k ∧ k ≤ 1000 ∧ 1 ≤ xs.length ∧ xs.length ≤ 1000) (Classical.propDecidable _) (some (.d (.tuple (List.replicate k.toNat xs).flatten))) none
  | _, _ => none
noncomputable def opRepT (a b : SV) : Option SV := lift2 repTD a b
theorem or_repT {X : Cx} : OpR X (binaryOp .Mult) (fun x y H Q => rRepT X.K x y H Q ∨ rRep1 X.K x y H Q) := op_repT.or op_rep1
theorem o2_repT {K : Frag} : Op2 K (fun x y H Q => rRepT K x y H Q ∨ rRep1 K x y H Q) opRepT := by
  intro g Hf S H a b ra rb z Q w ha hb e q
  obtain ⟨x, y, e1, e2, e3⟩ := lift2_eq e
  unfold repTD at e3
  split at e3
  · rename_i xs k
    split at e3
    · rename_i hs
      cases e3
      obtain ⟨p, vs, rfl, h1, h2, h3⟩ := ha.tup e1
      have hl := h2.length
      by_cases hk : k = 1
      · subst hk
        refine .inr ⟨p, 1, vs, rfl, hb.int e2, SqT.mono w.sub h1, .inr rfl, by omega, by omega, q _ Hf H Gr.refl w ?_⟩
        have e : (List.replicate (1 : Int).toNat xs).flatten = xs := by simp
        rw [e]
        exact .tup h1 h2 h3
      · refine .inl ⟨p, k, vs, rfl, hb.int e2, SqT.mono w.sub h1, fun e => by subst e; simp at hl; omega, by omega, hs.2.1, by omega, fun u hu => ?_⟩
        obtain ⟨b1, b2, b3⟩ := new_tup w hu (h2.flat k.toNat) (by
          rw [flatten_len, hl, sizeLine_eq]
          have a1 : xs.length * k.toNat ≤ 1000 * 1000 := Nat.mul_le_mul hs.2.2.2 (by omega)
          omega)
        exact q _ _ _ b1 b2 b3
    · cases e3
  · cases e3
end DV

/-! DV7: the draws of a law. -/
namespace DV
open PySem PySem.Spec PyProof.Rows L2
/-- the next draw -/
def takeF (S : StD) (most : Int) : Res SV :=
  if most < 2 then .ok (.d (.int 0)) S else
  if most.natAbs < 1073741824 then
    match atI S.cells (S.pos.fmod S.cells.length), ixN S.cells.length (S.pos.fmod S.cells.length) with
    | some cell, some j => if S.cells.length = 0 then .bad else
      if 1000000000000000000 ≤ cell then .ok (.d (.int (cell.fmod most))) ⟨S.pos, S.cells.set j (cell.fdiv most)⟩
      else .ok (.d (.int (((((cell * 48271 + (S.pos + 1) * 69621).fmod 2147483647 * 16807 + (S.pos + 1) * 7919).fmod 1000000007).fdiv 7).fmod most))) ⟨S.pos + 1, S.cells⟩
    | _, _ => .bad
  else .bad
def fn_law_take (_ : Nat) : Fn := fun rs S => match rs with
  | [.st, .d (.int most)] => takeF S most
  | _ => .bad
/-- the draws go on -/
def Good (S : StD) : Prop := S.cells ≠ []
theorem take_ok {S : StD} {most : Int} (h : Good S) (h1 : 1 ≤ most) (h2 : most < 1073741824) (n : Nat) :
    ∃ r S', fn_law_take n [.st, .d (.int most)] S = .ok (.d (.int r)) S' ∧ 0 ≤ r ∧ r < most ∧ Good S' := by
  show ∃ r S', takeF S most = _ ∧ _
  unfold takeF
  by_cases c : most < 2
  · rw [if_pos c]
    exact ⟨0, S, rfl, by omega, by omega, h⟩
  · rw [if_neg c, if_pos (by omega)]
    have hl : 0 < S.cells.length := by
      cases e : S.cells with
      | nil => exact absurd e h
      | cons a b => simp
    have m0 : 0 ≤ S.pos.fmod S.cells.length := Int.fmod_nonneg_of_pos _ (by omega)
    have m1 : S.pos.fmod S.cells.length < S.cells.length := Int.fmod_lt_of_pos _ (by omega)
    have ej : ixN S.cells.length (S.pos.fmod S.cells.length) = some (S.pos.fmod S.cells.length).toNat := by
      unfold ixN; rw [if_pos m0, if_pos m1]
    have hj : (S.pos.fmod S.cells.length).toNat < S.cells.length := by omega
    have ea : atI S.cells (S.pos.fmod S.cells.length) = some (S.cells[(S.pos.fmod S.cells.length).toNat]) := by
      unfold atI; rw [ej]; simp [hj]
    rw [ea, ej]
    simp only
    rw [if_neg (by omega)]
    split
    · exact ⟨_, _, rfl, Int.fmod_nonneg_of_pos _ (by omega), Int.fmod_lt_of_pos _ (by omega), by simpa [Good] using h⟩
    · exact ⟨_, _, rfl, Int.fmod_nonneg_of_pos _ (by omega), Int.fmod_lt_of_pos _ (by omega), h⟩
/-- the state's objects are rewritten -/
theorem st_write {a c : Addr} {Hf H H' : Hp} {S S' : StD} (w : Wk (some (a, c)) Hf S H) (ha : H' a = some (.lst [.int S'.pos, .ref c])) (hc : H' c = some (.lst (S'.cells.map V.int))) (hl : S'.cells.length = S.cells.length) (hk : ∀ b, b ≠ a → b ≠ c → H' b = H b) :
    Gr (some (a, c)) Hf H Hf H' ∧ Wk (some (a, c)) Hf S' H' := by
  obtain ⟨h0, h1, h2, h3⟩ := w.st
  refine ⟨⟨Same.refl _, fun b o e n => ?_, fun b o e => .inl e, fun b e => ?_⟩, ⟨fun b o e => ?_, ⟨h0, ha, hc, by rw [hl]; exact h3⟩, w.gf⟩⟩
  · rw [hk b (fun z => n (.inl z)) fun z => n (.inr z)]; exact e
  · by_cases z : b = a
    · subst z; rw [ha]; simp
    · by_cases z2 : b = c
      · subst z2; rw [hc]; simp
      · rw [hk b z z2]; exact e
  · have n : ¬ inG (some (a, c)) b := fun z => by rw [w.gf b z] at e; cases e
    rw [hk b (fun z => n (.inl z)) fun z => n (.inr z)]; exact w.sub b o e
theorem map_int_get {ns : List Int} {i : Int} {x : Int} (h : atI ns i = some x) : atI (ns.map V.int) i = some (.int x) := by
  unfold atI at h ⊢
  rw [List.length_map]
  cases e : ixN ns.length i with
  | none => rw [e] at h; cases h
  | some j => rw [e] at h; simp only [Option.bind_some] at h ⊢; rw [List.getElem?_map, h]; rfl
/-- what _law_take asks, at its arguments -/
theorem take_cases {K : Frag} {vs : List V} {H : Hp} {Q : VK} {E : XK} {n : Nat} (h : spF XO0 K 2 (fn_law_take n) vs H Q E) : ∃ a c Hf S most, vs = [.ref a, .int most] ∧ Wk (some (a, c)) Hf S H ∧ Po XO0 (some (a, c)) Hf H E (RE K (some (a, c)) H) Q (takeF S most) := by
  obtain ⟨hl, g, Hf, S, rs, w, ra, po⟩ := h
  unfold fn_law_take at po
  split at po
  · rename_i most
    cases ra with
    | cons q t => cases t with
      | cons q2 t =>
        cases t
        obtain ⟨a, c, rfl, rfl⟩ := q
        cases q2
        exact ⟨a, c, Hf, S, most, rfl, w, po⟩
  · exact po.elim
/-- what _law_state hands back -/
def absI (i : Int) : Int := if i < 0 then -i else i
def spState (K : Frag) : Sp := fun vs H Q _ => ∃ (a : Addr) (ns : List Int), vs = [.ref a] ∧ SqL K H a (ns.map V.int) ∧ ns.length ≤ 63 ∧
  ∀ p c H' cs, Same H H' → H p = none → H c = none → p ≠ c → H' p = some (.lst [.int 0, .ref c]) → H' c = some (.lst (cs.map V.int)) → cs ≠ [] → cs.length ≤ 63 → Q (.ref p) H'
theorem cut63 (ns : List Int) (h : ns.length ≤ 63) : cutV (ns.map V.int) none (some 63) = ns.map V.int := by
  unfold cutV
  rw [HT.sIx_none, show HT.sIx (ns.map V.int).length (ns.map V.int).length (some 63) = min 63 (ns.map V.int).length from HT.sIx_nat _ _ 63]
  have : min 63 (ns.map V.int).length = (ns.map V.int).length := by rw [List.length_map]; omega
  rw [this, Nat.sub_zero, List.drop_zero, List.take_length]
theorem same_upd {H : Hp} {p : Addr} {o : HO} (h : H p = none) : Same H (upd H p o) := fun b x e => by rw [upd_ne (ne_of_none e h)]; exact e
end DV

/-! DV8: a law's own def: the draws' state is made, then the rest runs. -/
namespace DV
open PySem PySem.Spec PyProof.Rows L2
def spLaw (K : Frag) : Sp := fun vs H Q _ => ∃ (a : Addr) (ns : List Int), vs = [.ref a] ∧ SqL K H a (ns.map V.int) ∧ ns.length ≤ 63 ∧ ∀ H', Q (.bl true) H'
section
variable {P : Program} {w : World} {K : Frag} {mg : Str → Option Value} {base : Heap}
/-- the slots when the draws' state stands at i -/
def lawEnv (m i : Nat) : EnvD := (List.replicate m SV.no).set i .st
theorem law_ok {qual x : Str} {st : Stmt} {f fs : Addr} {fd fds : FuncData} {N : List Str} {k m i : Nat} {a0 : Stmt} {rest : List Stmt} {ff : FS} {y : Str} {py p2 pos1 pos2 pp : Pos} (F : Fun K x qual st f fd) (Sc : FnScope N ["script"] (defScope st)) (hm : N.length = m) (hb : defBody st = a0 :: rest)
    (h0 : a0 = .Assign [.Name y py] (.Call (.Name "_law_state" p2) [.Name "script" pp] [] pos1) pos2) (hi : i < m) (hi0 : i ≠ 0) (hy : N[i]? = some y) (hly : (defScope st).names.lookup y = some .local ∨ (defScope st).names.lookup y = some .cell) (hls : (defScope st).names.lookup ("script" : Str) = some .local ∨ (defScope st).names.lookup ("script" : Str) = some .cell)
    (hgs : (defScope st).names.lookup ("_law_state" : Str) = some .globalImplicit)
    (CS : FnOk P w K mg base CX0 1 fs fds ["script"] (spState K)) (ms : mg "_law_state" = some (.ref fs)) (ks : PySem.W.keepIn K (.ref fs) = true) (bs : Binds K fds ["script"] [])
    (body : ∀ (cdv : Value) (A : Around) (outer : List Env) (s : Shared) (H : Hp) (E : XK), Room k (A.deeper (envOfC qual (defScope st) s.heap.objs.size f cdv)) → 1 ≤ k →
      DSs XO0 (cxOf CX0 P w K mg base N qual (defScope st) f cdv A outer s H E).nox E0 rest ff) (hk : 1 ≤ k)
    (ev : ∀ S : StD, Good S → S.cells.length ≤ 63 → ∃ S', ff (lawEnv m i) S = .rt (.d (.bool true)) S') (hs : ∀ env : Env, env.scope = defScope st → swapsWith (.Call (.Name "_law_state" p2) [.Name "script" pp] [] pos1) (some (.Name y py)) pos2.line env = pure false) : FnOk P w K mg base CX0 (k + 1) f fd ["script"] (spLaw K) := by
  refine F.ok Sc (fun vs H Q E h => by obtain ⟨a, ns, rfl, _⟩ := h; rfl) fun cdv A outer s H vs Q E hr h => ?_
  obtain ⟨a, ns, rfl, sq, hl, q⟩ := h
  rw [hb, h0]
  have hN0 : N[0]? = some ("script" : Str) := by
    have := Sc.pre
    cases N with
    | nil => cases this
    | cons z zs => simp at this; simp [this]
  have bd := body cdv A outer s H E hr hk
  refine ⟨_, pss_cons (ps_set (i := i) Sc.nd hy hly (pe_call CS (hr.mono hk) hgs ms ks bs .nil pass0 (pa_cons (pe_var (i := 0) hN0 (by rcases hls with h | h; exact .inl h; exact .inr (.inl h))) pa_nil)) (hs _ rfl)) bd.pss, ?_⟩
  refine ⟨.ref a, by unfold L2.start; rfl, a, ns, rfl, sq, hl, fun p c H' cs sm np nc npc hp hc hne hl2 => ?_⟩
  show tDS XO0 K E0 ff _ ((L2.start N [.ref a]).set i (some (.ref p))) H'
  obtain ⟨S', e⟩ := ev ⟨0, cs⟩ hne hl2
  have hlen : (L2.start N [V.ref a]).length = m := by unfold L2.start; simp; omega
  refine ⟨some (p, c), fun _ => none, H', lawEnv m i, ⟨0, cs⟩, fun _ => none, ⟨⟨⟨(fun _ _ z => nomatch z), ⟨npc, hp, hc, by simp only; rw [sizeLine_eq]; omega⟩, fun _ _ => rfl⟩, by simp [lawEnv, hlen], fun j y z => ?_, fun j z => ?_, fun j r z hz => ?_, fun j l r q p' _ z hz _ _ _ _ => ?_, fun j y z => ?_⟩, Gr.refl, fun j r p' z hz _ => ?_⟩, ?_⟩
  · exfalso
    unfold lawEnv at z
    by_cases c : j = i
    · subst c; rw [List.getElem?_set_self (by simpa using hi)] at z; cases z
    · rw [List.getElem?_set_ne (Ne.symm c)] at z; obtain ⟨_, z⟩ := List.getElem?_eq_some_iff.mp z; simp at z
  · unfold lawEnv at z
    by_cases cc : j = i
    · subst cc; exact ⟨p, c, rfl, by rw [List.getElem?_set_self (by omega)]⟩
    · rw [List.getElem?_set_ne (Ne.symm cc)] at z; obtain ⟨_, z⟩ := List.getElem?_eq_some_iff.mp z; simp at z
  · exfalso
    unfold lawEnv at z
    by_cases c : j = i
    · subst c; rw [List.getElem?_set_self (by simpa using hi)] at z; cases z; cases hz
    · rw [List.getElem?_set_ne (Ne.symm c)] at z; obtain ⟨_, z⟩ := List.getElem?_eq_some_iff.mp z; simp at z; subst z; cases hz
  · exfalso
    unfold lawEnv at z
    by_cases c : j = i
    · subst c; rw [List.getElem?_set_self (by simpa using hi)] at z; cases z; cases hz
    · rw [List.getElem?_set_ne (Ne.symm c)] at z; obtain ⟨_, z⟩ := List.getElem?_eq_some_iff.mp z; simp at z; subst z; cases hz
  · exfalso
    unfold lawEnv at z
    by_cases c : j = i
    · subst c; rw [List.getElem?_set_self (by simpa using hi)] at z; cases z
    · rw [List.getElem?_set_ne (Ne.symm c)] at z; obtain ⟨_, z⟩ := List.getElem?_eq_some_iff.mp z; simp at z
  · exfalso
    unfold lawEnv at z
    by_cases c : j = i
    · subst c; rw [List.getElem?_set_self (by simpa using hi)] at z; cases z; cases hz
    · rw [List.getElem?_set_ne (Ne.symm c)] at z; obtain ⟨_, z⟩ := List.getElem?_eq_some_iff.mp z; simp at z; subst z; cases hz
  · rw [e]
    intro v Hf' H2 _ _ rv
    cases rv
    exact q H2
end
/-- a callee by its def -/
theorem cal_mk {P : Program} {w : World} {K : Frag} {mg : Str → Option Value} {base : Heap} {x : Str} {l n : Nat} {fn : Fn} {f : Addr} {fd : FuncData} {ps : List Str} {st : Stmt} {qual : Str} (F : Fun K x qual st f fd) (ok : FnOk P w K mg base CX0 l f fd ps (spF XO0 K n fn)) (hm : mg x = some (.ref f)) (hb : Binds K fd ps []) :
    Cal P w K mg base x l n fn := ⟨f, fd, ps, ok, hm, F.kp, hb⟩
end DV

/-! DV9: what the combinators come to: lemmas for reckoning with functions of deep values. -/
namespace DV
open PySem L2
/-! ### shapes -/
def Sh (k : Nat) (d : D) : Prop := d.canLay0 = true ∧ d.depth ≤ k
theorem Sh.mono {j k : Nat} {d : D} (h : Sh j d) (hk : j ≤ k) : Sh k d := ⟨h.1, Nat.le_trans h.2 hk⟩
theorem Sh.shaped {k : Nat} {d : D} (h : Sh k d) (hk : k ≤ 64 := by decide) : SeqAt.shaped d = true := by
  unfold SeqAt.shaped
  rw [h.1, Bool.true_and]
  exact decide_eq_true (Nat.le_trans h.2 hk)
theorem Sh.int (k : Nat) (i : Int) : Sh k (.int i) := ⟨by simp [PyData.canLay0], by simp [PyData.depth]⟩
theorem Sh.bool (k : Nat) (i : Bool) : Sh k (.bool i) := ⟨by simp [PyData.canLay0], by simp [PyData.depth]⟩
theorem Sh.none (k : Nat) : Sh k .none := ⟨by simp [PyData.canLay0], by simp [PyData.depth]⟩
theorem Sh.str (k : Nat) {x : Str} (h : PyData.strOk x = true) : Sh k (.str x) := ⟨by simp [PyData.canLay0, h], by simp [PyData.depth]⟩
theorem Sh.all {k : Nat} : ∀ {xs : List D}, (∀ x ∈ xs, Sh k x) → PyData.canLayAll0 xs = true ∧ PyData.depthAll xs ≤ k
  | [], _ => ⟨by simp [PyData.canLayAll0], by simp [PyData.depthAll]⟩
  | x :: xs, h => by
    have h1 := h x List.mem_cons_self
    have h2 := Sh.all fun y hy => h y (List.mem_cons_of_mem _ hy)
    exact ⟨by simp only [PyData.canLayAll0, h1.1, h2.1, Bool.and_self], by simp only [PyData.depthAll]; exact Nat.max_le.mpr ⟨h1.2, h2.2⟩⟩
theorem Sh.tup {k : Nat} {xs : List D} (h : ∀ x ∈ xs, Sh k x) : Sh (k + 1) (.tuple xs) := ⟨by simp only [PyData.canLay0]; exact (Sh.all h).1, by simp only [PyData.depth]; exact Nat.succ_le_succ (Sh.all h).2⟩
theorem Sh.lst {k : Nat} {xs : List D} (h : ∀ x ∈ xs, Sh k x) : Sh (k + 1) (.list xs) := ⟨by simp only [PyData.canLay0]; exact (Sh.all h).1, by simp only [PyData.depth]; exact Nat.succ_le_succ (Sh.all h).2⟩
theorem Sh.of_all {k : Nat} : ∀ {xs : List D}, PyData.canLayAll0 xs = true → PyData.depthAll xs ≤ k → ∀ x ∈ xs, Sh k x
  | [], _, _, x, hx => by cases hx
  | y :: ys, h, h2, x, hx => by
    simp only [PyData.canLayAll0, Bool.and_eq_true] at h
    simp only [PyData.depthAll] at h2
    have h3 := Nat.max_le.mp h2
    cases hx with
    | head => exact ⟨h.1, h3.1⟩
    | tail _ hx => exact Sh.of_all h.2 h3.2 x hx
theorem Sh.of_tup {k : Nat} {xs : List D} (h : Sh (k + 1) (.tuple xs)) : ∀ x ∈ xs, Sh k x := by
  obtain ⟨h1, h2⟩ := h
  simp only [PyData.canLay0] at h1
  simp only [PyData.depth] at h2
  exact Sh.of_all h1 (by omega)
theorem Sh.of_lst {k : Nat} {xs : List D} (h : Sh (k + 1) (.list xs)) : ∀ x ∈ xs, Sh k x := by
  obtain ⟨h1, h2⟩ := h
  simp only [PyData.canLay0] at h1
  simp only [PyData.depth] at h2
  exact Sh.of_all h1 (by omega)
/-! ### comparisons -/
theorem eq_ok {k l : Nat} {x y : D} (hx : Sh k x) (hy : Sh l y) (hk : k ≤ 64 := by decide) (hl : l ≤ 64 := by decide) : opEq (.d x) (.d y) = some (.d (.bool (PyData.eqv x y))) := by
  simp only [opEq, lift2, SV.rd, eqD, hx.shaped hk, hy.shaped hl, and_self, if_true]
theorem ne_ok {k l : Nat} {x y : D} (hx : Sh k x) (hy : Sh l y) (hk : k ≤ 64 := by decide) (hl : l ≤ 64 := by decide) : opNe (.d x) (.d y) = some (.d (.bool (!PyData.eqv x y))) := by
  simp only [opNe, lift2, SV.rd, neD, hx.shaped hk, hy.shaped hl, and_self, if_true]
theorem ne_same {k : Nat} {x : D} (hx : Sh k x) (hk : k ≤ 64 := by decide) : opNe (.d x) (.d x) = some (.d (.bool false)) := by
  rw [ne_ok hx hx hk hk, PySem.SeqAt.eqv_refl x hx.1]; rfl
theorem eq_same {k : Nat} {x : D} (hx : Sh k x) (hk : k ≤ 64 := by decide) : opEq (.d x) (.d x) = some (.d (.bool true)) := by
  rw [eq_ok hx hx hk hk, PySem.SeqAt.eqv_refl x hx.1]
theorem neI (i j : Int) : opNe (.d (.int i)) (.d (.int j)) = some (.d (.bool (!(i == j)))) := by rw [ne_ok (.int 0 i) (.int 0 j)]; simp [PyData.eqv]
theorem eqI (i j : Int) : opEq (.d (.int i)) (.d (.int j)) = some (.d (.bool (i == j))) := by rw [eq_ok (.int 0 i) (.int 0 j)]; simp [PyData.eqv]
theorem neB (i j : Bool) : opNe (.d (.bool i)) (.d (.bool j)) = some (.d (.bool (!(i == j)))) := by rw [ne_ok (.bool 0 i) (.bool 0 j)]; simp [PyData.eqv]
theorem eqB (i j : Bool) : opEq (.d (.bool i)) (.d (.bool j)) = some (.d (.bool (i == j))) := by rw [eq_ok (.bool 0 i) (.bool 0 j)]; simp [PyData.eqv]
theorem ltI (i j : Int) : opLt (.d (.int i)) (.d (.int j)) = some (.d (.bool (decide (i < j)))) := by simp [opLt, lift2, cmpD]
theorem leI (i j : Int) : opLe (.d (.int i)) (.d (.int j)) = some (.d (.bool (decide (i ≤ j)))) := by simp [opLe, lift2, cmpD]
theorem gtI (i j : Int) : opGt (.d (.int i)) (.d (.int j)) = some (.d (.bool (decide (j < i)))) := by simp [opGt, lift2, cmpD]
theorem geI (i j : Int) : opGe (.d (.int i)) (.d (.int j)) = some (.d (.bool (decide (j ≤ i)))) := by simp [opGe, lift2, cmpD]
theorem eqv_ints : ∀ xs ys : List Int, PyData.eqvAll (xs.map .int) (ys.map .int) = (xs == ys)
  | [], [] => by simp [PyData.eqvAll]
  | [], _ :: _ => by simp [PyData.eqvAll]
  | _ :: _, [] => by simp [PyData.eqvAll]
  | x :: xs, y :: ys => by
    simp only [List.map_cons, PyData.eqvAll, PyData.eqv, eqv_ints xs ys]
    rfl
/-! ### integers -/
theorem addI (i j : Int) : opAdd (.d (.int i)) (.d (.int j)) = some (.d (.int (i + j))) := by simp [opAdd, lift2, addD]
theorem subI' (i j : Int) : opSub (.d (.int i)) (.d (.int j)) = some (.d (.int (i - j))) := by simp [opSub, lift2, intD, subI]
theorem mul_ok {i j : Int} (h1 : i.natAbs < big) (h2 : j.natAbs < big) : opMulI (.d (.int i)) (.d (.int j)) = some (.d (.int (i * j))) := by simp [opMulI, lift2, intD, mulI, h1, h2]
theorem fdiv_ok {i j : Int} (h1 : 0 < j) (h2 : j.natAbs < big9) : opFdiv (.d (.int i)) (.d (.int j)) = some (.d (.int (i / j))) := by
  have : fdivI i j = some (i.fdiv j) := by
    unfold fdivI
    split
    · rfl
    · rw [if_pos ⟨h1, h2⟩]
  simp only [opFdiv, lift2, SV.rd, intD, this, Option.map_some, Int.fdiv_eq_ediv_of_nonneg _ (Int.le_of_lt h1)]
theorem mod_ok {i j : Int} (h1 : 0 < j) : opMod (.d (.int i)) (.d (.int j)) = some (.d (.int (i % j))) := by
  have : modI i j = some (i.fmod j) := by unfold modI; rw [if_pos (by omega)]
  simp only [opMod, lift2, SV.rd, intD, this, Option.map_some, Int.fmod_eq_emod_of_nonneg _ (Int.le_of_lt h1)]
theorem absI' (i : Int) : opAbs [.d (.int i)] = some (.d (.int (i.natAbs : Int))) := by
  simp only [opAbs]
  congr 3
  split <;> omega
/-! ### sequences -/
theorem atI0 {α : Type} (x : α) (l : List α) : atI (x :: l) 0 = some x := by simp [atI, ixN]
theorem atI1 {α : Type} (x y : α) (l : List α) : atI (x :: y :: l) 1 = some y := by
  unfold atI ixN
  simp only [List.length_cons]
  rw [if_pos (by omega), if_pos (by omega)]
  rfl
theorem atI2 {α : Type} (x y z : α) (l : List α) : atI (x :: y :: z :: l) 2 = some z := by
  unfold atI ixN
  simp only [List.length_cons]
  rw [if_pos (by omega), if_pos (by omega)]
  rfl
theorem ixT (xs : List D) (i : Int) : opIx (.d (.tuple xs)) (.d (.int i)) = (atI xs i).map .d := by simp [opIx, lift2, ixD]
theorem ixL (xs : List D) (i : Int) : opIx (.d (.list xs)) (.d (.int i)) = (atI xs i).map .d := by simp [opIx, lift2, ixD]
theorem ixO (xs : List D) (i : Int) : opIx (.own xs) (.d (.int i)) = (atI xs i).map .d := by simp [opIx, lift2, ixD, SV.rd]
theorem ixW (xs : List D) (i : Int) : opIx (.bor xs) (.d (.int i)) = (atI xs i).map .d := by simp [opIx, lift2, ixD, SV.rd]
theorem atI_k {xs : List D} {k : Nat} (h : k < xs.length) : atI xs (k : Int) = some xs[k] := atI_nat (List.getElem?_eq_getElem h)
theorem lenT (xs : List D) : opLen [.d (.tuple xs)] = some (.d (.int xs.length)) := by simp [opLen, lift1, lenD, SV.rd]
theorem lenL (xs : List D) : opLen [.d (.list xs)] = some (.d (.int xs.length)) := by simp [opLen, lift1, lenD, SV.rd]
theorem lenO (xs : List D) : opLen [.own xs] = some (.d (.int xs.length)) := by simp [opLen, lift1, lenD, SV.rd]
theorem lenW (xs : List D) : opLen [.bor xs] = some (.d (.int xs.length)) := by simp [opLen, lift1, lenD, SV.rd]
theorem tupO (xs : List D) : opTuple [.own xs] = some (.d (.tuple xs)) := by simp [opTuple, lift1, tupD, SV.rd]
theorem tupL (xs : List D) : opTuple [.d (.list xs)] = some (.d (.tuple xs)) := by simp [opTuple, lift1, tupD, SV.rd]
theorem tupW (xs : List D) : opTuple [.bor xs] = some (.d (.tuple xs)) := by simp [opTuple, lift1, tupD, SV.rd]
theorem lstO (xs : List D) : opList [.own xs] = some (.own xs) := by simp [opList, lift1, lstD, SV.rd]
theorem lstL (xs : List D) : opList [.d (.list xs)] = some (.own xs) := by simp [opList, lift1, lstD, SV.rd]
theorem lstW (xs : List D) : opList [.bor xs] = some (.own xs) := by simp [opList, lift1, lstD, SV.rd]
theorem lstT (xs : List D) : opList [.d (.tuple xs)] = some (.own xs) := by simp [opList, lift1, lstD, SV.rd]
theorem allO (bs : List Bool) : opAll [.own (bs.map .bool)] = some (.d (.bool (bs.all id))) := by simp [opAll, lift1, allD, SV.rd]
theorem anyO (bs : List Bool) : opAny [.own (bs.map .bool)] = some (.d (.bool (bs.any id))) := by simp [opAny, lift1, anyD, SV.rd]
theorem allF (f : D → Bool) (xs : List D) : opAll [.own (xs.map fun x => .bool (f x))] = some (.d (.bool (xs.all f))) := by
  have := allO (xs.map f)
  rw [List.map_map] at this
  simpa [Function.comp_def, List.all_map] using this
theorem anyF (f : D → Bool) (xs : List D) : opAny [.own (xs.map fun x => .bool (f x))] = some (.d (.bool (xs.any f))) := by
  have := anyO (xs.map f)
  rw [List.map_map] at this
  simpa [Function.comp_def, List.any_map] using this
theorem sumO (ns : List Int) : opSum [.own (ns.map .int)] = some (.d (.int ns.sum)) := by simp [opSum, lift1, sumD, SV.rd]
theorem addT {xs ys : List D} (h : xs.length + ys.length ≤ sizeLine) : opAdd (.d (.tuple xs)) (.d (.tuple ys)) = some (.d (.tuple (xs ++ ys))) := by simp [opAdd, lift2, addD, h]
/-! ### isinstance -/
def isT : D → Bool
  | .tuple _ => true
  | _ => false
def isI : D → Bool
  | .int _ => true
  | .bool _ => true
  | _ => false
def isB : D → Bool
  | .bool _ => true
  | _ => false
theorem isi_t {k : Nat} {x : D} (h : Sh k x) : isiD "tuple" x = some (isT x) := by cases x <;> first | rfl | (obtain ⟨h, _⟩ := h; simp [PyData.canLay0] at h)
theorem isi_i {k : Nat} {x : D} (h : Sh k x) : isiD "int" x = some (isI x) := by cases x <;> first | rfl | (obtain ⟨h, _⟩ := h; simp [PyData.canLay0] at h)
theorem isi_b {k : Nat} {x : D} (h : Sh k x) : isiD "bool" x = some (isB x) := by cases x <;> first | rfl | (obtain ⟨h, _⟩ := h; simp [PyData.canLay0] at h)
/-! ### comprehensions, loops -/
theorem lc_pure {T : Tg} {ft : FT} {fe : FE} {env0 : EnvD} {S : StD} (p : D → Bool) (f : D → D) : ∀ (xs : List D),
    (∀ x ∈ xs, ∃ env1, asgT T x env0 = some env1 ∧ ft env1 S = .ok (p x) S ∧ (p x = true → fe env1 S = .ok (.d (f x)) S)) → lcGo T ft fe env0 xs S = .ok ((xs.filter p).map f) S
  | [], _ => rfl
  | x :: xs, h => by
    obtain ⟨env1, h1, h2, h3⟩ := h x List.mem_cons_self
    have ih := lc_pure p f xs fun y hy => h y (List.mem_cons_of_mem _ hy)
    cases hp : p x with
    | false => simp only [lcGo, h1, h2, hp, noX_ok, Res.bind_ok, Bool.false_eq_true, if_false, ih, List.filter_cons, hp]
    | true => simp only [lcGo, h1, h2, h3 hp, hp, noX_ok, Res.bind_ok, if_true, ih, List.filter_cons, hp, List.map_cons]
theorem lc_map {T : Tg} {fe : FE} {env0 : EnvD} {S : StD} (f : D → D) (xs : List D) (h : ∀ x ∈ xs, ∃ env1, asgT T x env0 = some env1 ∧ fe env1 S = .ok (.d (f x)) S) : lcGo T fYes fe env0 xs S = .ok (xs.map f) S := by
  have := lc_pure (T := T) (ft := fYes) (fe := fe) (env0 := env0) (S := S) (fun _ => true) f xs fun x hx => by
    obtain ⟨e, h1, h2⟩ := h x hx
    exact ⟨e, h1, rfl, fun _ => h2⟩
  have e : xs.filter (fun _ => true) = xs := List.filter_eq_self.mpr fun _ _ => rfl
  rw [this, e]
/-- over a list that is made by f -/
theorem lc_pureF {α : Type} {T : Tg} {ft : FT} {fe : FE} {env0 : EnvD} {S : StD} (o : α → D) (p : α → Bool) (f : α → D) : ∀ (xs : List α), (∀ x ∈ xs, ∃ env1, asgT T (o x) env0 = some env1 ∧ ft env1 S = .ok (p x) S ∧ (p x = true → fe env1 S = .ok (.d (f x)) S)) → lcGo T ft fe env0 (xs.map o) S = .ok ((xs.filter p).map f) S
  | [], _ => rfl
  | x :: xs, h => by
    obtain ⟨env1, h1, h2, h3⟩ := h x List.mem_cons_self
    have ih := lc_pureF o p f xs fun y hy => h y (List.mem_cons_of_mem _ hy)
    cases hp : p x with
    | false => simp only [List.map_cons, lcGo, h1, h2, hp, noX_ok, Res.bind_ok, Bool.false_eq_true, if_false, ih, List.filter_cons, hp]
    | true => simp only [List.map_cons, lcGo, h1, h2, h3 hp, hp, noX_ok, Res.bind_ok, if_true, ih, List.filter_cons, hp, List.map_cons]
theorem lc_mapF {α : Type} {T : Tg} {fe : FE} {env0 : EnvD} {S : StD} (o : α → D) (f : α → D) (xs : List α) (h : ∀ x ∈ xs, ∃ env1, asgT T (o x) env0 = some env1 ∧ fe env1 S = .ok (.d (f x)) S) : lcGo T fYes fe env0 (xs.map o) S = .ok (xs.map f) S := by
  have := lc_pureF (T := T) (ft := fYes) (fe := fe) (env0 := env0) (S := S) o (fun _ => true) f xs fun x hx => by
    obtain ⟨e, h1, h2⟩ := h x hx
    exact ⟨e, h1, rfl, fun _ => h2⟩
  have e : xs.filter (fun _ => true) = xs := List.filter_eq_self.mpr fun _ _ => rfl
  rw [this, e]
theorem rngD_get (n : Nat) : rngD 0 1 n = (List.range n).map fun (k : Nat) => PyData.int (k : Int) := by
  unfold rngD
  congr 1
  funext k
  simp
/-- over range(n) -/
theorem lc_rng {T : Tg} {ft : FT} {fe : FE} {env0 : EnvD} {S : StD} (n : Nat) (p : Nat → Bool) (f : Nat → D)
    (h : ∀ k, k < n → ∃ env1, asgT T (.int (k : Int)) env0 = some env1 ∧ ft env1 S = .ok (p k) S ∧ (p k = true → fe env1 S = .ok (.d (f k)) S)) : lcGo T ft fe env0 (rngD 0 1 n) S = .ok (((List.range n).filter p).map f) S := by
  have hh := lc_pure (T := T) (ft := ft) (fe := fe) (env0 := env0) (S := S) (fun x => match x with | .int k => p k.toNat | _ => false) (fun x => match x with | .int k => f k.toNat | _ => .none) (rngD 0 1 n) fun x hx => by
    rw [rngD_get] at hx
    obtain ⟨k, hk, rfl⟩ := List.mem_map.mp hx
    obtain ⟨e, h1, h2, h3⟩ := h k (List.mem_range.mp hk)
    exact ⟨e, h1, by simpa using h2, by simpa using h3⟩
  rw [hh, rngD_get, List.filter_map, List.map_map]
  rfl
theorem lc_rngM {T : Tg} {fe : FE} {env0 : EnvD} {S : StD} (n : Nat) (f : Nat → D)
    (h : ∀ k, k < n → ∃ env1, asgT T (.int (k : Int)) env0 = some env1 ∧ fe env1 S = .ok (.d (f k)) S) : lcGo T fYes fe env0 (rngD 0 1 n) S = .ok ((List.range n).map f) S := by
  have := lc_rng (T := T) (ft := fYes) (fe := fe) (env0 := env0) (S := S) n (fun _ => true) f fun k hk => by
    obtain ⟨e, h1, h2⟩ := h k hk
    exact ⟨e, h1, rfl, fun _ => h2⟩
  have e : (List.range n).filter (fun _ => true) = List.range n := List.filter_eq_self.mpr fun _ _ => rfl
  rw [this, e]
theorem rng1_ok (n : Nat) (h : n ≤ sizeLine) : rng1 [.d (.int (n : Int))] = some (rngD 0 1 n, true) := by
  have h0 : sizeLine = 16777216 := by decide
  have h2 : lim = 4611686018427387904 := rfl
  have h3 : -lim ≤ (n : Int) ∧ (n : Int) < lim ∧ (n : Int).toNat ≤ sizeLine := ⟨by omega, by omega, by simpa using h⟩
  have h4 : rng1 [.d (.int (n : Int))] = some (rngD 0 1 (n : Int).toNat, true) := by unfold rng1; exact if_pos h3
  rw [h4, Int.toNat_natCast]
theorem for_inv {T : Tg} {body : FS} {S : StD} (I : List D → EnvD → Prop) (h : ∀ x xs env, I (x :: xs) env → ∃ env1 env2, asgT T x env = some env1 ∧ body env1 S = .nx env2 S ∧ I xs env2) : ∀ (xs : List D) (env : EnvD), I xs env → ∃ env', I [] env' ∧ forGo T body xs env S = .nx env' S
  | [], env, hi => ⟨env, hi, rfl⟩
  | x :: xs, env, hi => by
    obtain ⟨e1, e2, h1, h2, h3⟩ := h x xs env hi
    obtain ⟨e', h4, h5⟩ := for_inv I h xs e2 h3
    exact ⟨e', h4, by simp only [forGo, h1, h2, h5]⟩
theorem rngD_cons (k n : Nat) (h : k < n) : (rngD 0 1 n).drop k = .int (k : Int) :: (rngD 0 1 n).drop (k + 1) := by
  have hl : (rngD 0 1 n).length = n := by simp [rngD]
  rw [List.drop_eq_getElem_cons (by omega)]
  congr 1
  simp [rngD]
/-- over range(n) -/
theorem for_rng {T : Tg} {body : FS} {S : StD} (n : Nat) (I : Nat → EnvD → Prop) (h : ∀ k env, k < n → I k env → ∃ env1 env2, asgT T (.int (k : Int)) env = some env1 ∧ body env1 S = .nx env2 S ∧ I (k + 1) env2) (env : EnvD) (h0 : I 0 env) :
    ∃ env', I n env' ∧ forGo T body (rngD 0 1 n) env S = .nx env' S := by
  have hl : (rngD 0 1 n).length = n := by simp [rngD]
  obtain ⟨env', ⟨k, hk, e, hI⟩, h2⟩ := for_inv (T := T) (body := body) (S := S) (fun xs env => ∃ k, k ≤ n ∧ xs = (rngD 0 1 n).drop k ∧ I k env) (fun x xs env ⟨k, hk, e, hI⟩ => by
    rcases Nat.lt_or_ge k n with h1 | h1
    · rw [rngD_cons k n h1] at e
      cases e
      obtain ⟨e1, e2, a1, a2, a3⟩ := h k env h1 hI
      exact ⟨e1, e2, a1, a2, k + 1, h1, rfl, a3⟩
    · rw [List.drop_eq_nil_of_le (by omega)] at e
      cases e) (rngD 0 1 n) env ⟨0, Nat.zero_le _, rfl, h0⟩
  have : k = n := by
    have := congrArg List.length e
    simp [hl] at this
    omega
  subst this
  exact ⟨env', hI, h2⟩
theorem for_rngS {T : Tg} {body : FS} (n : Nat) (I : Nat → EnvD → StD → Prop) (h : ∀ k env S, k < n → I k env S → ∃ env1 env2 S', asgT T (.int (k : Int)) env = some env1 ∧ body env1 S = .nx env2 S' ∧ I (k + 1) env2 S') (env : EnvD) (S : StD) (h0 : I 0 env S) :
    ∃ env' S', I n env' S' ∧ forGo T body (rngD 0 1 n) env S = .nx env' S' := by
  have hl : (rngD 0 1 n).length = n := by simp [rngD]
  have go : ∀ (j k : Nat) (env : EnvD) (S : StD), j + k = n → I k env S → ∃ env' S', I n env' S' ∧ forGo T body ((rngD 0 1 n).drop k) env S = .nx env' S' := by
    intro j
    induction j with
    | zero =>
      intro k env S hk hI
      have : k = n := by omega
      subst this
      rw [List.drop_eq_nil_of_le (by omega)]
      exact ⟨env, S, hI, rfl⟩
    | succ j ih =>
      intro k env S hk hI
      obtain ⟨e1, e2, S2, a1, a2, a3⟩ := h k env S (by omega) hI
      obtain ⟨e', S', b1, b2⟩ := ih (k + 1) e2 S2 (by omega) a3
      rw [rngD_cons k n (by omega)]
      exact ⟨e', S', b1, by simp only [forGo, a1, a2, b2]⟩
  exact go n 0 env S (by omega) h0
theorem atI_map {α : Type} {f : α → D} {xs : List α} {k : Nat} (d : α) (h : k < xs.length) : atI (xs.map f) (k : Int) = some (f (xs.getD k d)) := by
  rw [atI_k (by simpa using h)]
  simp [h]
/-- with draws -/
theorem for_invS {T : Tg} {body : FS} (I : List D → EnvD → StD → Prop) (h : ∀ x xs env S, I (x :: xs) env S → ∃ env1 env2 S', asgT T x env = some env1 ∧ body env1 S = .nx env2 S' ∧ I xs env2 S') : ∀ (xs : List D) (env : EnvD) (S : StD), I xs env S → ∃ env' S', I [] env' S' ∧ forGo T body xs env S = .nx env' S'
  | [], env, S, hi => ⟨env, S, hi, rfl⟩
  | x :: xs, env, S, hi => by
    obtain ⟨e1, e2, S2, h1, h2, h3⟩ := h x xs env S hi
    obtain ⟨e', S', h4, h5⟩ := for_invS I h xs e2 S2 h3
    exact ⟨e', S', h4, by simp only [forGo, h1, h2, h5]⟩
/-- a comprehension with draws -/
theorem lc_st {T : Tg} {fe : FE} {env0 : EnvD} (P : List D → StD → Prop) (xs : List D) (h : ∀ x acc S, x ∈ xs → P acc S → ∃ env1 y S', asgT T x env0 = some env1 ∧ fe env1 S = .ok (.d y) S' ∧ P (acc ++ [y]) S') :
    ∀ (acc : List D) (S : StD), P acc S → ∃ ys S', lcGo T fYes fe env0 xs S = .ok ys S' ∧ P (acc ++ ys) S' ∧ ys.length = xs.length := by
  induction xs with
  | nil => exact fun acc S hp => ⟨[], S, rfl, by simpa using hp, rfl⟩
  | cons x xs ih =>
    intro acc S hp
    obtain ⟨e1, y, S1, h1, h2, h3⟩ := h x acc S List.mem_cons_self hp
    obtain ⟨ys, S2, h4, h5, h6⟩ := ih (fun x acc S hx => h x acc S (List.mem_cons_of_mem _ hx)) (acc ++ [y]) S1 h3
    refine ⟨y :: ys, S2, ?_, by simpa using h5, by simp [h6]⟩
    simp only [lcGo, h1, fYes, noX_ok, Res.bind_ok, if_true, h2, h4]
theorem itT (xs : List D) : itD (.d (.tuple xs)) = some (xs, true) := rfl
theorem itL (xs : List D) : itD (.d (.list xs)) = some (xs, true) := rfl
theorem itO (xs : List D) : itD (.own xs) = some (xs, false) := rfl
theorem itB (xs : List D) : itD (.bor xs) = some (xs, false) := rfl
/-- a pure int -/
def isZ (x : D) : Bool := isI x && !isB x
theorem isZ_int (i : Int) : isZ (.int i) = true := rfl
theorem isZ_of {x : D} (h : isZ x = true) : ∃ i, x = .int i := by cases x <;> first | exact ⟨_, rfl⟩ | cases h
/-! ### statements -/
theorem seq_nx {f u : FS} {env env' : EnvD} {S S' : StD} (h : f env S = .nx env' S') : fSeq f u env S = u env' S' := by simp only [fSeq, h]
theorem seq_rt {f u : FS} {env : EnvD} {S S' : StD} {r : SV} (h : f env S = .rt r S') : fSeq f u env S = .rt r S' := by simp only [fSeq, h]
theorem big_of {k : Nat} {i : Int} (h : i.natAbs < 2 ^ k) (hk : k ≤ 400000 := by decide) : i.natAbs < big := by unfold big; exact Nat.lt_of_lt_of_le h (Nat.pow_le_pow_right (by decide) hk)
theorem big9_of {k : Nat} {i : Int} (h : i.natAbs < 2 ^ k) (hk : k ≤ 9000 := by decide) : i.natAbs < big9 := by unfold big9; exact Nat.lt_of_lt_of_le h (Nat.pow_le_pow_right (by decide) hk)
end DV

/-! FracM: fractions as pairs of integers, plain Lean. -/
namespace FM
abbrev Fq := Int × Int
/-- without a common divisor, the lower number above 0 -/
def nrm (a b : Int) : Fq := if b < 0 then ((0 - a) / (Int.gcd (0 - a) (0 - b) : Int), (0 - b) / (Int.gcd (0 - a) (0 - b) : Int)) else (a / (Int.gcd a b : Int), b / (Int.gcd a b : Int))
def Fr (p : Fq) : Prop := 0 < p.2 ∧ Int.gcd p.1 p.2 = 1
theorem nrm_neg {a b : Int} (h : b < 0) : nrm a b = nrm (-a) (-b) := by
  unfold nrm
  rw [if_pos h, if_neg (by omega), Int.zero_sub, Int.zero_sub]
theorem nrm_pos {a b : Int} (h : 0 < b) : nrm a b = (a / (Int.gcd a b : Int), b / (Int.gcd a b : Int)) := by
  unfold nrm
  rw [if_neg (by omega)]
theorem gcd_pos' {a b : Int} (h : b ≠ 0) : 0 < Int.gcd a b := by
  rw [Int.gcd_pos_iff]; exact .inr h
theorem nrm_fr {a b : Int} (h : b ≠ 0) : Fr (nrm a b) := by
  have key : ∀ {a b : Int}, 0 < b → Fr (nrm a b) := by
    intro a b h
    rw [nrm_pos h]
    have hg := gcd_pos' (a := a) (b := b) (by omega)
    refine ⟨?_, ?_⟩
    · obtain ⟨c, hc⟩ := Int.gcd_dvd_right (a := a) (b := b)
      have : b / (Int.gcd a b : Int) = c := by
        conv => lhs; lhs; rw [hc]
        exact Int.mul_ediv_cancel_left _ (by omega)
      show 0 < b / _
      rw [this]
      have hg' : (0 : Int) < (Int.gcd a b : Int) := by omega
      rw [hc] at h
      exact Int.pos_of_mul_pos_right h hg'
    · exact Int.gcd_ediv_gcd_ediv_gcd hg
  rcases Int.lt_or_lt_of_ne h with h | h
  · rw [nrm_neg h]; exact key (by omega)
  · exact key h
theorem nrm_cross {a b : Int} (h : b ≠ 0) : (nrm a b).1 * b = a * (nrm a b).2 := by
  have key : ∀ {a b : Int}, 0 < b → (nrm a b).1 * b = a * (nrm a b).2 := by
    intro a b h
    rw [nrm_pos h]
    show a / _ * b = a * (b / _)
    have hg := gcd_pos' (a := a) (b := b) (by omega)
    obtain ⟨c, hc⟩ := Int.gcd_dvd_left (a := a) (b := b)
    obtain ⟨d, hd⟩ := Int.gcd_dvd_right (a := a) (b := b)
    generalize (Int.gcd a b : Int) = g at *
    subst hc hd
    have hg' : g ≠ 0 := by rintro rfl; simp at h
    rw [Int.mul_ediv_cancel_left _ hg', Int.mul_ediv_cancel_left _ hg']
    grind
  rcases Int.lt_or_lt_of_ne h with h | h
  · rw [nrm_neg h]
    have := key (a := -a) (b := -b) (by omega)
    grind
  · exact key h
theorem cop_dvd {b a d : Int} (h : Int.gcd a b = 1) (h2 : b ∣ a * d) : b ∣ d := by
  have h3 : b.natAbs ∣ a.natAbs * d.natAbs := by rw [← Int.natAbs_mul]; exact Int.natAbs_dvd_natAbs.mpr h2
  have h4 : Nat.Coprime b.natAbs a.natAbs := by rw [Nat.coprime_comm]; exact h
  exact Int.natAbs_dvd_natAbs.mp (h4.dvd_of_dvd_mul_left h3)
theorem fr_uniq {p q : Fq} (hp : Fr p) (hq : Fr q) (h : p.1 * q.2 = q.1 * p.2) : p = q := by
  obtain ⟨a, b⟩ := p
  obtain ⟨c, d⟩ := q
  obtain ⟨h1, h2⟩ := hp
  obtain ⟨h3, h4⟩ := hq
  simp only at *
  have e1 : b ∣ d := by
    have : b ∣ a * d := ⟨c, by rw [h]; exact Int.mul_comm c b⟩
    exact cop_dvd h2 this
  have e2 : d ∣ b := by
    have : d ∣ c * b := ⟨a, by rw [← h]; exact Int.mul_comm a d⟩
    exact cop_dvd h4 this
  have e : b = d := Int.dvd_antisymm (by omega) (by omega) e1 e2
  subst e
  have : a = c := Int.eq_of_mul_eq_mul_right (by omega) h
  rw [this]
theorem nrm_congr {a b c d : Int} (hb : b ≠ 0) (hd : d ≠ 0) (h : a * d = c * b) : nrm a b = nrm c d := by
  refine fr_uniq (nrm_fr hb) (nrm_fr hd) ?_
  have h1 := nrm_cross (a := a) hb
  have h2 := nrm_cross (a := c) hd
  generalize nrm a b = p at *
  generalize nrm c d = q at *
  have : (p.1 * q.2) * (b * d) = (q.1 * p.2) * (b * d) := by grind
  exact Int.eq_of_mul_eq_mul_right (Int.mul_ne_zero hb hd) this
theorem nrm_self {p : Fq} (h : Fr p) : nrm p.1 p.2 = p := by
  rw [nrm_pos h.1, h.2]; simp
theorem nrm_self' {a b : Int} (h : Fr (a, b)) : nrm a b = (a, b) := nrm_self h
/-! ### reckoning -/
def fadd (p q : Fq) : Fq := nrm (p.1 * q.2 + q.1 * p.2) (p.2 * q.2)
def fsub (p q : Fq) : Fq := nrm (p.1 * q.2 - q.1 * p.2) (p.2 * q.2)
def fmul (p q : Fq) : Fq := nrm (p.1 * q.1) (p.2 * q.2)
def fdiv (p q : Fq) : Fq := nrm (p.1 * q.2) (p.2 * q.1)
theorem fr_ne {p : Fq} (h : Fr p) : p.2 ≠ 0 := by have := h.1; omega
theorem fadd_fr {p q : Fq} (hp : Fr p) (hq : Fr q) : Fr (fadd p q) := nrm_fr (Int.mul_ne_zero (fr_ne hp) (fr_ne hq))
theorem fsub_fr {p q : Fq} (hp : Fr p) (hq : Fr q) : Fr (fsub p q) := nrm_fr (Int.mul_ne_zero (fr_ne hp) (fr_ne hq))
theorem fmul_fr {p q : Fq} (hp : Fr p) (hq : Fr q) : Fr (fmul p q) := nrm_fr (Int.mul_ne_zero (fr_ne hp) (fr_ne hq))
/-- a sum leans on the value of the second alone -/
theorem fadd_nrm {p : Fq} {c d : Int} (hp : p.2 ≠ 0) (hd : d ≠ 0) : fadd p (nrm c d) = nrm (p.1 * d + c * p.2) (p.2 * d) := by
  have h1 := nrm_cross (a := c) hd
  have h2 := nrm_fr (a := c) hd
  unfold fadd
  generalize nrm c d = q at *
  exact nrm_congr (Int.mul_ne_zero hp (fr_ne h2)) (Int.mul_ne_zero hp hd) (by grind)
theorem fsub_eq (p q : Fq) : fadd p (0 - q.1, q.2) = fsub p q := by
  unfold fadd fsub
  have : p.1 * q.2 + (0 - q.1) * p.2 = p.1 * q.2 - q.1 * p.2 := by grind
  simp only [this]
/-! ### sizes -/
def Sm (k : Nat) (i : Int) : Prop := i.natAbs < 2 ^ k
theorem Sm.mono {j k : Nat} {i : Int} (h : Sm j i) (hk : j ≤ k) : Sm k i := Nat.lt_of_lt_of_le h (Nat.pow_le_pow_right (by decide) hk)
theorem Sm.mul {j k : Nat} {a b : Int} (h : Sm j a) (h2 : Sm k b) : Sm (j + k) (a * b) := by
  unfold Sm at *
  rw [Int.natAbs_mul, Nat.pow_add]
  exact Nat.mul_lt_mul'' h h2
theorem Sm.add {k : Nat} {a b : Int} (h : Sm k a) (h2 : Sm k b) : Sm (k + 1) (a + b) := by
  unfold Sm at *
  have := Int.natAbs_add_le a b
  rw [Nat.pow_succ]
  omega
theorem Sm.sub {k : Nat} {a b : Int} (h : Sm k a) (h2 : Sm k b) : Sm (k + 1) (a - b) := by
  unfold Sm at *
  rw [Nat.pow_succ]
  omega
theorem Sm.neg {k : Nat} {a : Int} (h : Sm k a) : Sm k (0 - a) := by
  unfold Sm at *
  omega
theorem Sm.ediv {k : Nat} {a : Int} {g : Nat} (h : Sm k a) (hg : (g : Int) ∣ a) : Sm k (a / (g : Int)) := by
  unfold Sm at *
  rw [Int.natAbs_ediv_of_dvd hg]
  exact Nat.lt_of_le_of_lt (Nat.div_le_self _ _) h
def Sf (k : Nat) (p : Fq) : Prop := Sm k p.1 ∧ Sm k p.2
theorem Sf.mono {j k : Nat} {p : Fq} (h : Sf j p) (hk : j ≤ k) : Sf k p := ⟨h.1.mono hk, h.2.mono hk⟩
theorem nrm_sf {k : Nat} {a b : Int} (h : Sm k a) (h2 : Sm k b) : Sf k (nrm a b) := by
  unfold nrm
  split
  · exact ⟨h.neg.ediv (Int.gcd_dvd_left _ _), h2.neg.ediv (Int.gcd_dvd_right _ _)⟩
  · exact ⟨h.ediv (Int.gcd_dvd_left _ _), h2.ediv (Int.gcd_dvd_right _ _)⟩
theorem fadd_sf {j k : Nat} {p q : Fq} (hp : Sf j p) (hq : Sf k q) : Sf (j + k + 1) (fadd p q) :=
  nrm_sf (Sm.add (hp.1.mul hq.2) ((hq.1.mul hp.2).mono (by omega))) ((hp.2.mul hq.2).mono (by omega))
theorem fsub_sf {j k : Nat} {p q : Fq} (hp : Sf j p) (hq : Sf k q) : Sf (j + k + 1) (fsub p q) :=
  nrm_sf (Sm.sub (hp.1.mul hq.2) ((hq.1.mul hp.2).mono (by omega))) ((hp.2.mul hq.2).mono (by omega))
theorem fmul_sf {j k : Nat} {p q : Fq} (hp : Sf j p) (hq : Sf k q) : Sf (j + k) (fmul p q) := nrm_sf (hp.1.mul hq.1) (hp.2.mul hq.2)
end FM

namespace K01
open PySem PySem.Spec PyProof.Rows L2 DV
noncomputable section
def topS (i : Nat) : Stmt := PySem.Challenge.pw_boundwright_k01_parts_rows_and_weights.main.body.getD i (.Pass ⟨0, 0, 0, 0⟩)
def D_KINDS : PyData := (.tuple [(.str "most"), (.str "less"), (.str "just")])
abbrev s_divisor : Stmt := topS 1
abbrev n_divisor : List Str := ["one", "other"]
theorem sc_divisor : FnScope n_divisor ["one", "other"] (defScope s_divisor) := ⟨rfl, rfl, rfl, by decide +kernel, rfl, by decide +kernel, by decide +kernel⟩
def f_divisor (n : Nat) : FS :=
    (fSeq (fPar 0 1 (fCons (fFz (fN opAbs (fCons (fVar 0) fNil))) (fCons (fFz (fN opAbs (fCons (fVar 1) fNil))) fNil)))
    (fSeq (whGo (fB (f2 opNe (fVar 1) (fC (.int 0))))
    (fPar 0 1 (fCons (fFz (fVar 1)) (fCons (fFz (f2 opMod (fVar 0) (fVar 1))) fNil))) n)
    (fRetV 0)))
def fn_divisor (n : Nat) : Fn := fnOf 2 (f_divisor n)
section
variable {P : Program} {w : World} {K : PySem.W.Frag} {mg : Str → Option Value} {base : Heap}
theorem ok_divisor (n : Nat) (z_abs : mg "abs" = none) {f : Addr} {fd : FuncData} (F : Fun K "divisor" "divisor" s_divisor f fd) : FnOk P w K mg base CX0 1 f fd ["one", "other"] (spF XO0 K 2 (fn_divisor n)) := by
  refine fn_ok F sc_divisor rfl rfl fun cdv A outer s H E hr => ?_
  have nd := sc_divisor.nd
  exact (ds_cons (ds_par rfl nd rfl rfl (by decide) rfl rfl (da_cons (d_fz (d_callB call_abs on_abs (by rfl) z_abs (by decide +kernel) (da_cons (d_var 0) da_nil))) (da_cons (d_fz (d_callB call_abs on_abs (by rfl) z_abs (by decide +kernel) (da_cons (d_var 1) da_nil))) da_nil)) (by rfl))
    (ds_cons (ds_while n PassesOwn.never (dt_cmp (op_neD (hu64 hr)) o2_ne (d_var 1) d_int (nomark _))
    (ds_one (ds_par rfl nd rfl rfl (by decide) rfl rfl (da_cons (d_fz (d_var 1)) (da_cons (d_fz (d_op op_modN o2_mod (d_var 0) (d_var 1))) da_nil)) (by rfl))))
    (ds_one (ds_retV 0))))
end
abbrev s_part : Stmt := topS 2
abbrev n_part : List Str := ["above", "below", "common"]
theorem sc_part : FnScope n_part ["above", "below"] (defScope s_part) := ⟨rfl, rfl, rfl, by decide +kernel, rfl, by decide +kernel, by decide +kernel⟩
def f_part (n : Nat) : FS :=
    (fSeq (fIfS (fB (f2 opLt (fVar 1) (fC (.int 0))))
    (fPar 0 1 (fCons (fFz (f2 opSub (fC (.int 0)) (fVar 0))) (fCons (fFz (f2 opSub (fC (.int 0)) (fVar 1))) fNil)))
    fNext)
    (fSeq (fSet 2 (fFz (fCall 2 (fn_divisor n) (fCons (fFz (fVar 0)) (fCons (fFz (fVar 1)) fNil)))))
    (fRet (fTup (fCons (fFz (f2 opFdiv (fVar 0) (fVar 2))) (fCons (fFz (f2 opFdiv (fVar 1) (fVar 2))) fNil))))))
def fn_part (n : Nat) : Fn := fnOf 3 (f_part n)
section
variable {P : Program} {w : World} {K : PySem.W.Frag} {mg : Str → Option Value} {base : Heap}
theorem ok_part (n : Nat) (k_divisor : Cal P w K mg base "divisor" 1 2 (fn_divisor n)) {f : Addr} {fd : FuncData} (F : Fun K "part" "part" s_part f fd) : FnOk P w K mg base CX0 2 f fd ["above", "below"] (spF XO0 K 2 (fn_part n)) := by
  refine fn_ok F sc_part rfl rfl fun cdv A outer s H E hr => ?_
  have nd := sc_part.nd
  exact (ds_cons (ds_if (dt_cmp op_lt o2_cmp (d_var 1) d_int (nomark _))
    (ds_one (ds_par rfl nd rfl rfl (by decide) rfl rfl (da_cons (d_fz (d_op or_sub o2_sub d_int (d_var 0))) (da_cons (d_fz (d_op or_sub o2_sub d_int (d_var 1))) da_nil)) (by rfl)))
    ds_nil)
    (ds_cons (ds_set nd rfl (by first | exact .inl rfl | exact .inr rfl) (d_fz (d_callC k_divisor (hr.mono (by first | decide | (simp only [Nat.add_eq]; omega))) (by rfl) (da_cons (d_fz (d_var 0)) (da_cons (d_fz (d_var 1)) da_nil)))))
    (ds_one (ds_ret (d_tup (da_cons (d_fz (d_op or_fdiv o2_fdiv (d_var 0) (d_var 2))) (da_cons (d_fz (d_op or_fdiv o2_fdiv (d_var 1) (d_var 2))) da_nil)))))))
end
abbrev s_is_part : Stmt := topS 3
abbrev n_is_part : List Str := ["value", "number"]
theorem sc_is_part : FnScope n_is_part ["value"] (defScope s_is_part) := ⟨rfl, rfl, rfl, by decide +kernel, rfl, by decide +kernel, by decide +kernel⟩
def f_is_part (n : Nat) : FS :=
    (fSeq (fIfS (fOr (fNot (fTru (fIsi "tuple" (fVar 0)))) (fB (f2 opNe (fN opLen (fCons (fVar 0) fNil)) (fC (.int 2)))))
    (fRet (fC (.bool false)))
    fNext)
    (fSeq (fIfS (fNot (fTru (fN opAll (fCons (fLc [1] (.nm 1) (fIt (fVar 0)) fYes (fFz (fAndV (fIsi "int" (fVar 1)) (fNotV (fIsi "bool" (fVar 1)))))) fNil))))
    (fRet (fC (.bool false)))
    fNext)
    (fRet (fAndV (f2 opGe (f2 opIx (fVar 0) (fC (.int 1))) (fC (.int 1))) (f2 opEq (fCall 2 (fn_divisor n) (fCons (fFz (f2 opIx (fVar 0) (fC (.int 0)))) (fCons (fFz (f2 opIx (fVar 0) (fC (.int 1)))) fNil))) (fC (.int 1)))))))
def fn_is_part (n : Nat) : Fn := fnOf 2 (f_is_part n)
section
variable {P : Program} {w : World} {K : PySem.W.Frag} {mg : Str → Option Value} {base : Heap}
theorem ok_is_part (n : Nat) (z_all : mg "all" = none) (z_bool : mg "bool" = none) (z_int : mg "int" = none) (z_isinstance : mg "isinstance" = none) (z_len : mg "len" = none) (z_tuple : mg "tuple" = none) (k_divisor : Cal P w K mg base "divisor" 1 2 (fn_divisor n)) {f : Addr} {fd : FuncData} (F : Fun K "is_part" "is_part" s_is_part f fd) : FnOk P w K mg base CX0 2 f fd ["value"] (spF XO0 K 1 (fn_is_part n)) := by
  refine fn_ok F sc_is_part rfl rfl fun cdv A outer s H E hr => ?_
  have nd := sc_is_part.nd
  exact (ds_cons (ds_if (DW.dt (dw_or (dt_not (dt_tru (d_isi (by decide) (d_var 0) (by rfl) z_isinstance (by rfl) z_tuple (by decide +kernel)))) (dw_or1 (dt_cmp (op_neD (hu64 hr)) o2_ne (d_callB call_len on_len (by rfl) z_len (by decide +kernel) (da_cons (d_var 0) da_nil)) d_int (nomark _)))))
    (ds_one (ds_ret d_bl))
    ds_nil)
    (ds_cons (ds_if (dt_not (dt_tru (d_callB (cr_all rfl) on_all (by rfl) z_all (by decide +kernel) (da_cons (d_lc rfl nd (di_seq (d_var 0)) (own := [("number", 1)]) (blkOk_by (by kernel_rfl)) (by decide) (fun _ _ _ _ _ => (dg_nm nd rfl (by first | exact .inl rfl | exact .inr rfl))) (fun _ _ _ _ _ => dts_nil) (fun _ _ _ _ _ => (d_fz (d_and (d_isi (by decide) (d_var 1) (by rfl) z_isinstance (by rfl) z_int (by decide +kernel)) (d_one (d_not (d_isi (by decide) (d_var 1) (by rfl) z_isinstance (by rfl) z_bool (by decide +kernel)))))))) da_nil))))
    (ds_one (ds_ret d_bl))
    ds_nil)
    (ds_one (ds_ret (d_and (d_cmp op_ge o2_cmp (d_ix ix_seq o2_ix (d_var 0) d_int (fun _ _ => rfl)) d_int (nomark _)) (d_one (d_cmp (op_eqD (hu64 hr)) o2_eq (d_callC k_divisor (hr.mono (by first | decide | (simp only [Nat.add_eq]; omega))) (by rfl) (da_cons (d_fz (d_ix ix_seq o2_ix (d_var 0) d_int (fun _ _ => rfl))) (da_cons (d_fz (d_ix ix_seq o2_ix (d_var 0) d_int (fun _ _ => rfl))) da_nil))) d_int (nomark _))))))))
end
abbrev s_plus : Stmt := topS 4
abbrev n_plus : List Str := ["one", "other"]
theorem sc_plus : FnScope n_plus ["one", "other"] (defScope s_plus) := ⟨rfl, rfl, rfl, by decide +kernel, rfl, by decide +kernel, by decide +kernel⟩
def f_plus (n : Nat) : FS :=
    (fRet (fCall 2 (fn_part n) (fCons (fFz (f2 opAdd (f2 opMulI (f2 opIx (fVar 0) (fC (.int 0))) (f2 opIx (fVar 1) (fC (.int 1)))) (f2 opMulI (f2 opIx (fVar 1) (fC (.int 0))) (f2 opIx (fVar 0) (fC (.int 1)))))) (fCons (fFz (f2 opMulI (f2 opIx (fVar 0) (fC (.int 1))) (f2 opIx (fVar 1) (fC (.int 1))))) fNil))))
def fn_plus (n : Nat) : Fn := fnOf 2 (f_plus n)
section
variable {P : Program} {w : World} {K : PySem.W.Frag} {mg : Str → Option Value} {base : Heap}
theorem ok_plus (n : Nat) (k_part : Cal P w K mg base "part" 2 2 (fn_part n)) {f : Addr} {fd : FuncData} (F : Fun K "plus" "plus" s_plus f fd) : FnOk P w K mg base CX0 3 f fd ["one", "other"] (spF XO0 K 2 (fn_plus n)) := by
  refine fn_ok F sc_plus rfl rfl fun cdv A outer s H E hr => ?_
  have nd := sc_plus.nd
  exact (ds_one (ds_ret (d_callC k_part (hr.mono (by first | decide | (simp only [Nat.add_eq]; omega))) (by rfl) (da_cons (d_fz (d_op or_add o2_add (d_op or_mulI o2_mulI (d_ix ix_seq o2_ix (d_var 0) d_int (fun _ _ => rfl)) (d_ix ix_seq o2_ix (d_var 1) d_int (fun _ _ => rfl))) (d_op or_mulI o2_mulI (d_ix ix_seq o2_ix (d_var 1) d_int (fun _ _ => rfl)) (d_ix ix_seq o2_ix (d_var 0) d_int (fun _ _ => rfl))))) (da_cons (d_fz (d_op or_mulI o2_mulI (d_ix ix_seq o2_ix (d_var 0) d_int (fun _ _ => rfl)) (d_ix ix_seq o2_ix (d_var 1) d_int (fun _ _ => rfl)))) da_nil)))))
end
abbrev s_minus : Stmt := topS 5
abbrev n_minus : List Str := ["one", "other"]
theorem sc_minus : FnScope n_minus ["one", "other"] (defScope s_minus) := ⟨rfl, rfl, rfl, by decide +kernel, rfl, by decide +kernel, by decide +kernel⟩
def f_minus (n : Nat) : FS :=
    (fRet (fCall 2 (fn_part n) (fCons (fFz (f2 opSub (f2 opMulI (f2 opIx (fVar 0) (fC (.int 0))) (f2 opIx (fVar 1) (fC (.int 1)))) (f2 opMulI (f2 opIx (fVar 1) (fC (.int 0))) (f2 opIx (fVar 0) (fC (.int 1)))))) (fCons (fFz (f2 opMulI (f2 opIx (fVar 0) (fC (.int 1))) (f2 opIx (fVar 1) (fC (.int 1))))) fNil))))
def fn_minus (n : Nat) : Fn := fnOf 2 (f_minus n)
section
variable {P : Program} {w : World} {K : PySem.W.Frag} {mg : Str → Option Value} {base : Heap}
theorem ok_minus (n : Nat) (k_part : Cal P w K mg base "part" 2 2 (fn_part n)) {f : Addr} {fd : FuncData} (F : Fun K "minus" "minus" s_minus f fd) : FnOk P w K mg base CX0 3 f fd ["one", "other"] (spF XO0 K 2 (fn_minus n)) := by
  refine fn_ok F sc_minus rfl rfl fun cdv A outer s H E hr => ?_
  have nd := sc_minus.nd
  exact (ds_one (ds_ret (d_callC k_part (hr.mono (by first | decide | (simp only [Nat.add_eq]; omega))) (by rfl) (da_cons (d_fz (d_op or_sub o2_sub (d_op or_mulI o2_mulI (d_ix ix_seq o2_ix (d_var 0) d_int (fun _ _ => rfl)) (d_ix ix_seq o2_ix (d_var 1) d_int (fun _ _ => rfl))) (d_op or_mulI o2_mulI (d_ix ix_seq o2_ix (d_var 1) d_int (fun _ _ => rfl)) (d_ix ix_seq o2_ix (d_var 0) d_int (fun _ _ => rfl))))) (da_cons (d_fz (d_op or_mulI o2_mulI (d_ix ix_seq o2_ix (d_var 0) d_int (fun _ _ => rfl)) (d_ix ix_seq o2_ix (d_var 1) d_int (fun _ _ => rfl)))) da_nil)))))
end
abbrev s_times : Stmt := topS 6
abbrev n_times : List Str := ["one", "other"]
theorem sc_times : FnScope n_times ["one", "other"] (defScope s_times) := ⟨rfl, rfl, rfl, by decide +kernel, rfl, by decide +kernel, by decide +kernel⟩
def f_times (n : Nat) : FS :=
    (fRet (fCall 2 (fn_part n) (fCons (fFz (f2 opMulI (f2 opIx (fVar 0) (fC (.int 0))) (f2 opIx (fVar 1) (fC (.int 0))))) (fCons (fFz (f2 opMulI (f2 opIx (fVar 0) (fC (.int 1))) (f2 opIx (fVar 1) (fC (.int 1))))) fNil))))
def fn_times (n : Nat) : Fn := fnOf 2 (f_times n)
section
variable {P : Program} {w : World} {K : PySem.W.Frag} {mg : Str → Option Value} {base : Heap}
theorem ok_times (n : Nat) (k_part : Cal P w K mg base "part" 2 2 (fn_part n)) {f : Addr} {fd : FuncData} (F : Fun K "times" "times" s_times f fd) : FnOk P w K mg base CX0 3 f fd ["one", "other"] (spF XO0 K 2 (fn_times n)) := by
  refine fn_ok F sc_times rfl rfl fun cdv A outer s H E hr => ?_
  have nd := sc_times.nd
  exact (ds_one (ds_ret (d_callC k_part (hr.mono (by first | decide | (simp only [Nat.add_eq]; omega))) (by rfl) (da_cons (d_fz (d_op or_mulI o2_mulI (d_ix ix_seq o2_ix (d_var 0) d_int (fun _ _ => rfl)) (d_ix ix_seq o2_ix (d_var 1) d_int (fun _ _ => rfl)))) (da_cons (d_fz (d_op or_mulI o2_mulI (d_ix ix_seq o2_ix (d_var 0) d_int (fun _ _ => rfl)) (d_ix ix_seq o2_ix (d_var 1) d_int (fun _ _ => rfl)))) da_nil)))))
end
abbrev s_over : Stmt := topS 7
abbrev n_over : List Str := ["one", "other"]
theorem sc_over : FnScope n_over ["one", "other"] (defScope s_over) := ⟨rfl, rfl, rfl, by decide +kernel, rfl, by decide +kernel, by decide +kernel⟩
def f_over (n : Nat) : FS :=
    (fRet (fCall 2 (fn_part n) (fCons (fFz (f2 opMulI (f2 opIx (fVar 0) (fC (.int 0))) (f2 opIx (fVar 1) (fC (.int 1))))) (fCons (fFz (f2 opMulI (f2 opIx (fVar 0) (fC (.int 1))) (f2 opIx (fVar 1) (fC (.int 0))))) fNil))))
def fn_over (n : Nat) : Fn := fnOf 2 (f_over n)
section
variable {P : Program} {w : World} {K : PySem.W.Frag} {mg : Str → Option Value} {base : Heap}
theorem ok_over (n : Nat) (k_part : Cal P w K mg base "part" 2 2 (fn_part n)) {f : Addr} {fd : FuncData} (F : Fun K "over" "over" s_over f fd) : FnOk P w K mg base CX0 3 f fd ["one", "other"] (spF XO0 K 2 (fn_over n)) := by
  refine fn_ok F sc_over rfl rfl fun cdv A outer s H E hr => ?_
  have nd := sc_over.nd
  exact (ds_one (ds_ret (d_callC k_part (hr.mono (by first | decide | (simp only [Nat.add_eq]; omega))) (by rfl) (da_cons (d_fz (d_op or_mulI o2_mulI (d_ix ix_seq o2_ix (d_var 0) d_int (fun _ _ => rfl)) (d_ix ix_seq o2_ix (d_var 1) d_int (fun _ _ => rfl)))) (da_cons (d_fz (d_op or_mulI o2_mulI (d_ix ix_seq o2_ix (d_var 0) d_int (fun _ _ => rfl)) (d_ix ix_seq o2_ix (d_var 1) d_int (fun _ _ => rfl)))) da_nil)))))
end
abbrev s_is_less : Stmt := topS 8
abbrev n_is_less : List Str := ["one", "other"]
theorem sc_is_less : FnScope n_is_less ["one", "other"] (defScope s_is_less) := ⟨rfl, rfl, rfl, by decide +kernel, rfl, by decide +kernel, by decide +kernel⟩
def f_is_less (n : Nat) : FS :=
    (fRet (f2 opLt (f2 opMulI (f2 opIx (fVar 0) (fC (.int 0))) (f2 opIx (fVar 1) (fC (.int 1)))) (f2 opMulI (f2 opIx (fVar 1) (fC (.int 0))) (f2 opIx (fVar 0) (fC (.int 1))))))
def fn_is_less (n : Nat) : Fn := fnOf 2 (f_is_less n)
section
variable {P : Program} {w : World} {K : PySem.W.Frag} {mg : Str → Option Value} {base : Heap}
theorem ok_is_less (n : Nat) {f : Addr} {fd : FuncData} (F : Fun K "is_less" "is_less" s_is_less f fd) : FnOk P w K mg base CX0 1 f fd ["one", "other"] (spF XO0 K 2 (fn_is_less n)) := by
  refine fn_ok F sc_is_less rfl rfl fun cdv A outer s H E hr => ?_
  have nd := sc_is_less.nd
  exact (ds_one (ds_ret (d_cmp op_lt o2_cmp (d_op or_mulI o2_mulI (d_ix ix_seq o2_ix (d_var 0) d_int (fun _ _ => rfl)) (d_ix ix_seq o2_ix (d_var 1) d_int (fun _ _ => rfl))) (d_op or_mulI o2_mulI (d_ix ix_seq o2_ix (d_var 1) d_int (fun _ _ => rfl)) (d_ix ix_seq o2_ix (d_var 0) d_int (fun _ _ => rfl))) (nomark _))))
end
abbrev s_total : Stmt := topS 9
abbrev n_total : List Str := ["row", "found", "one"]
theorem sc_total : FnScope n_total ["row"] (defScope s_total) := ⟨rfl, rfl, rfl, by decide +kernel, rfl, by decide +kernel, by decide +kernel⟩
def f_total (n : Nat) : FS :=
    (fSeq (fSet 1 (fFz (fTup (fCons (fC (.int 0)) (fCons (fC (.int 1)) fNil)))))
    (fSeq (fFor (.nm 2) (fIt (fVar 0))
    (fSet 1 (fFz (fCall 2 (fn_plus n) (fCons (fFz (fVar 1)) (fCons (fFz (fVar 2)) fNil))))))
    (fRetV 1)))
def fn_total (n : Nat) : Fn := fnOf 3 (f_total n)
section
variable {P : Program} {w : World} {K : PySem.W.Frag} {mg : Str → Option Value} {base : Heap}
theorem ok_total (n : Nat) (k_plus : Cal P w K mg base "plus" 3 2 (fn_plus n)) {f : Addr} {fd : FuncData} (F : Fun K "total" "total" s_total f fd) : FnOk P w K mg base CX0 4 f fd ["row"] (spF XO0 K 1 (fn_total n)) := by
  refine fn_ok F sc_total rfl rfl fun cdv A outer s H E hr => ?_
  have nd := sc_total.nd
  exact (ds_cons (ds_set nd rfl (by first | exact .inl rfl | exact .inr rfl) (d_fz (d_tup (da_cons d_int (da_cons d_int da_nil)))))
    (ds_cons (ds_for PassesOwn.never rfl (di_seq (d_var 0)) (dg_nm nd rfl (by first | exact .inl rfl | exact .inr rfl))
    (ds_one (ds_set nd rfl (by first | exact .inl rfl | exact .inr rfl) (d_fz (d_callC k_plus (hr.mono (by first | decide | (simp only [Nat.add_eq]; omega))) (by rfl) (da_cons (d_fz (d_var 1)) (da_cons (d_fz (d_var 2)) da_nil)))))))
    (ds_one (ds_retV 1))))
end
abbrev s_least_of : Stmt := topS 10
abbrev n_least_of : List Str := ["row", "best", "one"]
theorem sc_least_of : FnScope n_least_of ["row"] (defScope s_least_of) := ⟨rfl, rfl, rfl, by decide +kernel, rfl, by decide +kernel, by decide +kernel⟩
def f_least_of (n : Nat) : FS :=
    (fSeq (fSet 1 (fC .none))
    (fSeq (fFor (.nm 2) (fIt (fVar 0))
    (fIfS (fOr (fB (f2 (isN false) (fVar 1) (fC .none))) (fTru (fCall 2 (fn_is_less n) (fCons (fFz (fVar 2)) (fCons (fFz (fVar 1)) fNil)))))
    (fSet 1 (fFz (fVar 2)))
    fNext))
    (fRetV 1)))
def fn_least_of (n : Nat) : Fn := fnOf 3 (f_least_of n)
section
variable {P : Program} {w : World} {K : PySem.W.Frag} {mg : Str → Option Value} {base : Heap}
theorem ok_least_of (n : Nat) (k_is_less : Cal P w K mg base "is_less" 1 2 (fn_is_less n)) {f : Addr} {fd : FuncData} (F : Fun K "least_of" "least_of" s_least_of f fd) : FnOk P w K mg base CX0 2 f fd ["row"] (spF XO0 K 1 (fn_least_of n)) := by
  refine fn_ok F sc_least_of rfl rfl fun cdv A outer s H E hr => ?_
  have nd := sc_least_of.nd
  exact (ds_cons (ds_set nd rfl (by first | exact .inl rfl | exact .inr rfl) d_non)
    (ds_cons (ds_for PassesOwn.never rfl (di_seq (d_var 0)) (dg_nm nd rfl (by first | exact .inl rfl | exact .inr rfl))
    (ds_one (ds_if (DW.dt (dw_or (dt_cmp op_isN o2_isN (d_var 1) d_non (nomark _)) (dw_or1 (dt_tru (d_callC k_is_less (hr.mono (by first | decide | (simp only [Nat.add_eq]; omega))) (by rfl) (da_cons (d_fz (d_var 2)) (da_cons (d_fz (d_var 1)) da_nil)))))))
    (ds_one (ds_set nd rfl (by first | exact .inl rfl | exact .inr rfl) (d_fz (d_var 2))))
    ds_nil)))
    (ds_one (ds_retV 1))))
end
abbrev s_whole_below : Stmt := topS 11
abbrev n_whole_below : List Str := ["one"]
theorem sc_whole_below : FnScope n_whole_below ["one"] (defScope s_whole_below) := ⟨rfl, rfl, rfl, by decide +kernel, rfl, by decide +kernel, by decide +kernel⟩
def f_whole_below (n : Nat) : FS :=
    (fRet (f2 opFdiv (f2 opIx (fVar 0) (fC (.int 0))) (f2 opIx (fVar 0) (fC (.int 1)))))
def fn_whole_below (n : Nat) : Fn := fnOf 1 (f_whole_below n)
section
variable {P : Program} {w : World} {K : PySem.W.Frag} {mg : Str → Option Value} {base : Heap}
theorem ok_whole_below (n : Nat) {f : Addr} {fd : FuncData} (F : Fun K "whole_below" "whole_below" s_whole_below f fd) : FnOk P w K mg base CX0 1 f fd ["one"] (spF XO0 K 1 (fn_whole_below n)) := by
  refine fn_ok F sc_whole_below rfl rfl fun cdv A outer s H E hr => ?_
  have nd := sc_whole_below.nd
  exact (ds_one (ds_ret (d_op or_fdiv o2_fdiv (d_ix ix_seq o2_ix (d_var 0) d_int (fun _ _ => rfl)) (d_ix ix_seq o2_ix (d_var 0) d_int (fun _ _ => rfl)))))
end
abbrev s_whole_above : Stmt := topS 12
abbrev n_whole_above : List Str := ["one"]
theorem sc_whole_above : FnScope n_whole_above ["one"] (defScope s_whole_above) := ⟨rfl, rfl, rfl, by decide +kernel, rfl, by decide +kernel, by decide +kernel⟩
def f_whole_above (n : Nat) : FS :=
    (fRet (f2 opSub (fC (.int 0)) (f2 opFdiv (f2 opSub (fC (.int 0)) (f2 opIx (fVar 0) (fC (.int 0)))) (f2 opIx (fVar 0) (fC (.int 1))))))
def fn_whole_above (n : Nat) : Fn := fnOf 1 (f_whole_above n)
section
variable {P : Program} {w : World} {K : PySem.W.Frag} {mg : Str → Option Value} {base : Heap}
theorem ok_whole_above (n : Nat) {f : Addr} {fd : FuncData} (F : Fun K "whole_above" "whole_above" s_whole_above f fd) : FnOk P w K mg base CX0 1 f fd ["one"] (spF XO0 K 1 (fn_whole_above n)) := by
  refine fn_ok F sc_whole_above rfl rfl fun cdv A outer s H E hr => ?_
  have nd := sc_whole_above.nd
  exact (ds_one (ds_ret (d_op or_sub o2_sub d_int (d_op or_fdiv o2_fdiv (d_op or_sub o2_sub d_int (d_ix ix_seq o2_ix (d_var 0) d_int (fun _ _ => rfl))) (d_ix ix_seq o2_ix (d_var 0) d_int (fun _ _ => rfl))))))
end
abbrev s_is_whole_part : Stmt := topS 13
abbrev n_is_whole_part : List Str := ["one"]
theorem sc_is_whole_part : FnScope n_is_whole_part ["one"] (defScope s_is_whole_part) := ⟨rfl, rfl, rfl, by decide +kernel, rfl, by decide +kernel, by decide +kernel⟩
def f_is_whole_part (n : Nat) : FS :=
    (fRet (f2 opEq (f2 opIx (fVar 0) (fC (.int 1))) (fC (.int 1))))
def fn_is_whole_part (n : Nat) : Fn := fnOf 1 (f_is_whole_part n)
section
variable {P : Program} {w : World} {K : PySem.W.Frag} {mg : Str → Option Value} {base : Heap}
theorem ok_is_whole_part (n : Nat) {f : Addr} {fd : FuncData} (F : Fun K "is_whole_part" "is_whole_part" s_is_whole_part f fd) : FnOk P w K mg base CX0 1 f fd ["one"] (spF XO0 K 1 (fn_is_whole_part n)) := by
  refine fn_ok F sc_is_whole_part rfl rfl fun cdv A outer s H E hr => ?_
  have nd := sc_is_whole_part.nd
  exact (ds_one (ds_ret (d_cmp (op_eqD (hu64 hr)) o2_eq (d_ix ix_seq o2_ix (d_var 0) d_int (fun _ _ => rfl)) d_int (nomark _))))
end
abbrev s_are_parts : Stmt := topS 14
abbrev n_are_parts : List Str := ["value", "many", "one"]
theorem sc_are_parts : FnScope n_are_parts ["value", "many"] (defScope s_are_parts) := ⟨rfl, rfl, rfl, by decide +kernel, rfl, by decide +kernel, by decide +kernel⟩
def f_are_parts (n : Nat) : FS :=
    (fRet (fAndV (fIsi "tuple" (fVar 0)) (fAndV (f2 opEq (fN opLen (fCons (fVar 0) fNil)) (fVar 1)) (fN opAll (fCons (fLc [2] (.nm 2) (fIt (fVar 0)) fYes (fFz (fCall 1 (fn_is_part n) (fCons (fFz (fVar 2)) fNil)))) fNil)))))
def fn_are_parts (n : Nat) : Fn := fnOf 3 (f_are_parts n)
section
variable {P : Program} {w : World} {K : PySem.W.Frag} {mg : Str → Option Value} {base : Heap}
theorem ok_are_parts (n : Nat) (z_all : mg "all" = none) (z_isinstance : mg "isinstance" = none) (z_len : mg "len" = none) (z_tuple : mg "tuple" = none) (k_is_part : Cal P w K mg base "is_part" 2 1 (fn_is_part n)) {f : Addr} {fd : FuncData} (F : Fun K "are_parts" "are_parts" s_are_parts f fd) : FnOk P w K mg base CX0 3 f fd ["value", "many"] (spF XO0 K 2 (fn_are_parts n)) := by
  refine fn_ok F sc_are_parts rfl rfl fun cdv A outer s H E hr => ?_
  have nd := sc_are_parts.nd
  exact (ds_one (ds_ret (d_and (d_isi (by decide) (d_var 0) (by rfl) z_isinstance (by rfl) z_tuple (by decide +kernel)) (d_and (d_cmp (op_eqD (hu64 hr)) o2_eq (d_callB call_len on_len (by rfl) z_len (by decide +kernel) (da_cons (d_var 0) da_nil)) (d_var 1) (nomark _)) (d_one (d_callB (cr_all rfl) on_all (by rfl) z_all (by decide +kernel) (da_cons (d_lc rfl nd (di_seq (d_var 0)) (own := [("one", 2)]) (blkOk_by (by kernel_rfl)) (by decide) (fun _ _ _ _ _ => (dg_nm nd rfl (by first | exact .inl rfl | exact .inr rfl))) (fun _ _ _ _ _ => dts_nil) (fun _ _ _ _ _ => (d_fz (d_callC k_is_part (hr.mono (by first | decide | (simp only [Nat.add_eq]; omega))) (by rfl) (da_cons (d_fz (d_var 2)) da_nil))))) da_nil)))))))
end
abbrev s_scaled : Stmt := topS 15
abbrev n_scaled : List Str := ["row", "common", "one", "found", "shared", "number"]
theorem sc_scaled : FnScope n_scaled ["row"] (defScope s_scaled) := ⟨rfl, rfl, rfl, by decide +kernel, rfl, by decide +kernel, by decide +kernel⟩
def f_scaled (n : Nat) : FS :=
    (fSeq (fSet 1 (fC (.int 1)))
    (fSeq (fFor (.nm 2) (fIt (fVar 0))
    (fSet 1 (fFz (f2 opFdiv (f2 opMulI (fVar 1) (f2 opIx (fVar 2) (fC (.int 1)))) (fCall 2 (fn_divisor n) (fCons (fFz (fVar 1)) (fCons (fFz (f2 opIx (fVar 2) (fC (.int 1)))) fNil)))))))
    (fSeq (fSet 3 (fFz (fLc [2] (.nm 2) (fIt (fVar 0)) fYes (fFz (f2 opMulI (f2 opIx (fVar 2) (fC (.int 0))) (f2 opFdiv (fVar 1) (f2 opIx (fVar 2) (fC (.int 1)))))))))
    (fSeq (fSet 4 (fC (.int 0)))
    (fSeq (fFor (.nm 5) (fIt (fVar 3))
    (fSet 4 (fFz (fCall 2 (fn_divisor n) (fCons (fFz (fVar 4)) (fCons (fFz (fVar 5)) fNil))))))
    (fRet (fIf (fB (f2 opEq (fVar 4) (fC (.int 0)))) (fN opTuple (fCons (fVar 3) fNil)) (fN opTuple (fCons (fLc [5] (.nm 5) (fIt (fVar 3)) fYes (fFz (f2 opFdiv (fVar 5) (fVar 4)))) fNil)))))))))
def fn_scaled (n : Nat) : Fn := fnOf 6 (f_scaled n)
section
variable {P : Program} {w : World} {K : PySem.W.Frag} {mg : Str → Option Value} {base : Heap}
theorem ok_scaled (n : Nat) (z_tuple : mg "tuple" = none) (k_divisor : Cal P w K mg base "divisor" 1 2 (fn_divisor n)) {f : Addr} {fd : FuncData} (F : Fun K "scaled" "scaled" s_scaled f fd) : FnOk P w K mg base CX0 2 f fd ["row"] (spF XO0 K 1 (fn_scaled n)) := by
  refine fn_ok F sc_scaled rfl rfl fun cdv A outer s H E hr => ?_
  have nd := sc_scaled.nd
  exact (ds_cons (ds_set nd rfl (by first | exact .inl rfl | exact .inr rfl) d_int)
    (ds_cons (ds_for PassesOwn.never rfl (di_seq (d_var 0)) (dg_nm nd rfl (by first | exact .inl rfl | exact .inr rfl))
    (ds_one (ds_set nd rfl (by first | exact .inl rfl | exact .inr rfl) (d_fz (d_op or_fdiv o2_fdiv (d_op or_mulI o2_mulI (d_var 1) (d_ix ix_seq o2_ix (d_var 2) d_int (fun _ _ => rfl))) (d_callC k_divisor (hr.mono (by first | decide | (simp only [Nat.add_eq]; omega))) (by rfl) (da_cons (d_fz (d_var 1)) (da_cons (d_fz (d_ix ix_seq o2_ix (d_var 2) d_int (fun _ _ => rfl))) da_nil))))))))
    (ds_cons (ds_setLcF rfl nd rfl rfl (sw_true rfl rfl rfl (by decide +kernel)) (di_seq (d_var 0)) (own := [("one", 2)]) (blkOk_by (by kernel_rfl)) (by decide) (fun _ _ _ _ _ => (dg_nm nd rfl (by first | exact .inl rfl | exact .inr rfl))) (fun _ _ _ _ _ => dts_nil) (fun _ _ _ _ _ => (d_fz (d_op or_mulI o2_mulI (d_ix ix_seq o2_ix (d_var 2) d_int (fun _ _ => rfl)) (d_op or_fdiv o2_fdiv (d_var 1) (d_ix ix_seq o2_ix (d_var 2) d_int (fun _ _ => rfl)))))))
    (ds_cons (ds_set nd rfl (by first | exact .inl rfl | exact .inr rfl) d_int)
    (ds_cons (ds_for PassesOwn.never rfl (di_seq (d_var 3)) (dg_nm nd rfl (by first | exact .inl rfl | exact .inr rfl))
    (ds_one (ds_set nd rfl (by first | exact .inl rfl | exact .inr rfl) (d_fz (d_callC k_divisor (hr.mono (by first | decide | (simp only [Nat.add_eq]; omega))) (by rfl) (da_cons (d_fz (d_var 4)) (da_cons (d_fz (d_var 5)) da_nil)))))))
    (ds_one (ds_ret (d_if (dt_cmp (op_eqD (hu64 hr)) o2_eq (d_var 4) d_int (nomark _)) (d_callTy call_tuple_of on_tuple (by rfl) z_tuple (by decide +kernel) (da_cons (d_var 3) da_nil)) (d_callTy call_tuple_of on_tuple (by rfl) z_tuple (by decide +kernel) (da_cons (d_lc rfl nd (di_seq (d_var 3)) (own := [("number", 5)]) (blkOk_by (by kernel_rfl)) (by decide) (fun _ _ _ _ _ => (dg_nm nd rfl (by first | exact .inl rfl | exact .inr rfl))) (fun _ _ _ _ _ => dts_nil) (fun _ _ _ _ _ => (d_fz (d_op or_fdiv o2_fdiv (d_var 5) (d_var 4))))) da_nil))))))))))
end
abbrev s_dot : Stmt := topS 16
abbrev n_dot : List Str := ["row", "point", "k"]
theorem sc_dot : FnScope n_dot ["row", "point"] (defScope s_dot) := ⟨rfl, rfl, rfl, by decide +kernel, rfl, by decide +kernel, by decide +kernel⟩
def f_dot (n : Nat) : FS :=
    (fRet (fCall 1 (fn_total n) (fCons (fFz (fLc [2] (.nm 2) (fRng rng1 (fCons (fN opLen (fCons (fVar 0) fNil)) fNil)) fYes (fFz (fCall 2 (fn_times n) (fCons (fFz (f2 opIx (fVar 1) (fVar 2))) (fCons (fFz (fTup (fCons (fFz (f2 opIx (fVar 0) (fVar 2))) (fCons (fC (.int 1)) fNil)))) fNil)))))) fNil)))
def fn_dot (n : Nat) : Fn := fnOf 3 (f_dot n)
section
variable {P : Program} {w : World} {K : PySem.W.Frag} {mg : Str → Option Value} {base : Heap}
theorem ok_dot (n : Nat) (z_len : mg "len" = none) (z_range : mg "range" = none) (k_times : Cal P w K mg base "times" 3 2 (fn_times n)) (k_total : Cal P w K mg base "total" 4 1 (fn_total n)) {f : Addr} {fd : FuncData} (F : Fun K "dot" "dot" s_dot f fd) : FnOk P w K mg base CX0 5 f fd ["row", "point"] (spF XO0 K 2 (fn_dot n)) := by
  refine fn_ok F sc_dot rfl rfl fun cdv A outer s H E hr => ?_
  have nd := sc_dot.nd
  exact (ds_one (ds_ret (d_callC k_total (hr.mono (by first | decide | (simp only [Nat.add_eq]; omega))) (by rfl) (da_cons (d_fz (d_lc rfl nd (di_rng1 (by rfl) z_range (da_cons (d_callB call_len on_len (by rfl) z_len (by decide +kernel) (da_cons (d_var 0) da_nil)) da_nil)) (own := [("k", 2)]) (blkOk_by (by kernel_rfl)) (by decide) (fun _ _ _ _ _ => (dg_nm nd rfl (by first | exact .inl rfl | exact .inr rfl))) (fun _ _ _ _ _ => dts_nil) (fun _ _ _ _ _ => (d_fz (d_callC k_times (hr.mono (by first | decide | (simp only [Nat.add_eq]; omega))) (by rfl) (da_cons (d_fz (d_ix ix_seq o2_ix (d_var 1) (d_var 2) (fun _ _ => rfl))) (da_cons (d_fz (d_tup (da_cons (d_fz (d_ix ix_seq o2_ix (d_var 0) (d_var 2) (fun _ _ => rfl))) (da_cons d_int da_nil)))) da_nil))))))) da_nil))))
end
abbrev s_is_whole : Stmt := topS 22
abbrev n_is_whole : List Str := ["value", "low", "high"]
theorem sc_is_whole : FnScope n_is_whole ["value", "low", "high"] (defScope s_is_whole) := ⟨rfl, rfl, rfl, by decide +kernel, rfl, by decide +kernel, by decide +kernel⟩
def f_is_whole (n : Nat) : FS :=
    (fRet (fAndV (fIsi "int" (fVar 0)) (fAndV (fNotV (fIsi "bool" (fVar 0))) (f3 opLe opLe (fVar 1) (fVar 0) (fVar 2)))))
def fn_is_whole (n : Nat) : Fn := fnOf 3 (f_is_whole n)
section
variable {P : Program} {w : World} {K : PySem.W.Frag} {mg : Str → Option Value} {base : Heap}
theorem ok_is_whole (n : Nat) (z_bool : mg "bool" = none) (z_int : mg "int" = none) (z_isinstance : mg "isinstance" = none) {f : Addr} {fd : FuncData} (F : Fun K "is_whole" "is_whole" s_is_whole f fd) : FnOk P w K mg base CX0 1 f fd ["value", "low", "high"] (spF XO0 K 3 (fn_is_whole n)) := by
  refine fn_ok F sc_is_whole rfl rfl fun cdv A outer s H E hr => ?_
  have nd := sc_is_whole.nd
  exact (ds_one (ds_ret (d_and (d_isi (by decide) (d_var 0) (by rfl) z_isinstance (by rfl) z_int (by decide +kernel)) (d_and (d_not (d_isi (by decide) (d_var 0) (by rfl) z_isinstance (by rfl) z_bool (by decide +kernel))) (d_one (d_chain op_le o2_cmp op_le o2_cmp (d_var 1) (d_var 0) (d_var 2)))))))
end
abbrev s_are_numbers : Stmt := topS 23
abbrev n_are_numbers : List Str := ["value", "many", "most", "number"]
theorem sc_are_numbers : FnScope n_are_numbers ["value", "many", "most"] (defScope s_are_numbers) := ⟨rfl, rfl, rfl, by decide +kernel, rfl, by decide +kernel, by decide +kernel⟩
def f_are_numbers (n : Nat) : FS :=
    (fSeq (fIfS (fOr (fNot (fTru (fIsi "tuple" (fVar 0)))) (fB (f2 opNe (fN opLen (fCons (fVar 0) fNil)) (fVar 1))))
    (fRet (fC (.bool false)))
    fNext)
    (fRet (fN opAll (fCons (fLc [3] (.nm 3) (fIt (fVar 0)) fYes (fFz (fCall 3 (fn_is_whole n) (fCons (fFz (fVar 3)) (fCons (fFz (f2 opSub (fC (.int 0)) (fVar 2))) (fCons (fFz (fVar 2)) fNil)))))) fNil))))
def fn_are_numbers (n : Nat) : Fn := fnOf 4 (f_are_numbers n)
section
variable {P : Program} {w : World} {K : PySem.W.Frag} {mg : Str → Option Value} {base : Heap}
theorem ok_are_numbers (n : Nat) (z_all : mg "all" = none) (z_isinstance : mg "isinstance" = none) (z_len : mg "len" = none) (z_tuple : mg "tuple" = none) (k_is_whole : Cal P w K mg base "is_whole" 1 3 (fn_is_whole n)) {f : Addr} {fd : FuncData} (F : Fun K "are_numbers" "are_numbers" s_are_numbers f fd) : FnOk P w K mg base CX0 2 f fd ["value", "many", "most"] (spF XO0 K 3 (fn_are_numbers n)) := by
  refine fn_ok F sc_are_numbers rfl rfl fun cdv A outer s H E hr => ?_
  have nd := sc_are_numbers.nd
  exact (ds_cons (ds_if (DW.dt (dw_or (dt_not (dt_tru (d_isi (by decide) (d_var 0) (by rfl) z_isinstance (by rfl) z_tuple (by decide +kernel)))) (dw_or1 (dt_cmp (op_neD (hu64 hr)) o2_ne (d_callB call_len on_len (by rfl) z_len (by decide +kernel) (da_cons (d_var 0) da_nil)) (d_var 1) (nomark _)))))
    (ds_one (ds_ret d_bl))
    ds_nil)
    (ds_one (ds_ret (d_callB (cr_all rfl) on_all (by rfl) z_all (by decide +kernel) (da_cons (d_lc rfl nd (di_seq (d_var 0)) (own := [("number", 3)]) (blkOk_by (by kernel_rfl)) (by decide) (fun _ _ _ _ _ => (dg_nm nd rfl (by first | exact .inl rfl | exact .inr rfl))) (fun _ _ _ _ _ => dts_nil) (fun _ _ _ _ _ => (d_fz (d_callC k_is_whole (hr.mono (by first | decide | (simp only [Nat.add_eq]; omega))) (by rfl) (da_cons (d_fz (d_var 3)) (da_cons (d_fz (d_op or_sub o2_sub d_int (d_var 2))) (da_cons (d_fz (d_var 2)) da_nil))))))) da_nil)))))
end
abbrev s_is_row : Stmt := topS 24
abbrev n_is_row : List Str := ["value", "many"]
theorem sc_is_row : FnScope n_is_row ["value", "many"] (defScope s_is_row) := ⟨rfl, rfl, rfl, by decide +kernel, rfl, by decide +kernel, by decide +kernel⟩
def f_is_row (n : Nat) : FS :=
    (fSeq (fIfS (fOr (fNot (fTru (fIsi "tuple" (fVar 0)))) (fOr (fB (f2 opNe (fN opLen (fCons (fVar 0) fNil)) (fC (.int 3)))) (fB (f2 opNotIn (f2 opIx (fVar 0) (fC (.int 1))) (fC D_KINDS)))))
    (fRet (fC (.bool false)))
    fNext)
    (fRet (fAndV (fCall 3 (fn_are_numbers n) (fCons (fFz (f2 opIx (fVar 0) (fC (.int 0)))) (fCons (fFz (fVar 1)) (fCons (fFz (fC (.int 1000000))) fNil)))) (fCall 3 (fn_is_whole n) (fCons (fFz (f2 opIx (fVar 0) (fC (.int 2)))) (fCons (fFz (f2 opSub (fC (.int 0)) (fC (.int 1000000)))) (fCons (fFz (fC (.int 1000000))) fNil)))))))
def fn_is_row (n : Nat) : Fn := fnOf 2 (f_is_row n)
section
variable {P : Program} {w : World} {K : PySem.W.Frag} {mg : Str → Option Value} {base : Heap}
theorem ok_is_row (n : Nat) (z_isinstance : mg "isinstance" = none) (z_len : mg "len" = none) (z_tuple : mg "tuple" = none) (c_MOST_NUMBER : ∃ t, mg "MOST_NUMBER" = some (.int 1000000 t)) (c_KINDS : ∃ (a : Addr) (v : V) (u : Value), mg "KINDS" = some u ∧ RelV v u ∧ ∀ H : Hp, Rp K H v D_KINDS) (k_are_numbers : Cal P w K mg base "are_numbers" 2 3 (fn_are_numbers n)) (k_is_whole : Cal P w K mg base "is_whole" 1 3 (fn_is_whole n)) {f : Addr} {fd : FuncData} (F : Fun K "is_row" "is_row" s_is_row f fd) : FnOk P w K mg base CX0 3 f fd ["value", "many"] (spF XO0 K 2 (fn_is_row n)) := by
  refine fn_ok F sc_is_row rfl rfl fun cdv A outer s H E hr => ?_
  have nd := sc_is_row.nd
  exact (ds_cons (ds_if (DW.dt (dw_or (dt_not (dt_tru (d_isi (by decide) (d_var 0) (by rfl) z_isinstance (by rfl) z_tuple (by decide +kernel)))) (dw_or (dt_cmp (op_neD (hu64 hr)) o2_ne (d_callB call_len on_len (by rfl) z_len (by decide +kernel) (da_cons (d_var 0) da_nil)) d_int (nomark _)) (dw_or1 (dt_cmp (or_notIn (hu65 hr)) o2_notIn (d_ix ix_seq o2_ix (d_var 0) d_int (fun _ _ => rfl)) (d_gval rfl c_KINDS) (by rfl))))))
    (ds_one (ds_ret d_bl))
    ds_nil)
    (ds_one (ds_ret (d_and (d_callC k_are_numbers (hr.mono (by first | decide | (simp only [Nat.add_eq]; omega))) (by rfl) (da_cons (d_fz (d_ix ix_seq o2_ix (d_var 0) d_int (fun _ _ => rfl))) (da_cons (d_fz (d_var 1)) (da_cons (d_fz (d_gint rfl c_MOST_NUMBER)) da_nil)))) (d_one (d_callC k_is_whole (hr.mono (by first | decide | (simp only [Nat.add_eq]; omega))) (by rfl) (da_cons (d_fz (d_ix ix_seq o2_ix (d_var 0) d_int (fun _ _ => rfl))) (da_cons (d_fz (d_op or_sub o2_sub d_int (d_gint rfl c_MOST_NUMBER))) (da_cons (d_fz (d_gint rfl c_MOST_NUMBER)) da_nil)))))))))
end
abbrev s_is_system : Stmt := topS 25
abbrev n_is_system : List Str := ["value", "row"]
theorem sc_is_system : FnScope n_is_system ["value"] (defScope s_is_system) := ⟨rfl, rfl, rfl, by decide +kernel, rfl, by decide +kernel, by decide +kernel⟩
def f_is_system (n : Nat) : FS :=
    (fSeq (fIfS (fOr (fNot (fTru (fIsi "tuple" (fVar 0)))) (fOr (fB (f2 opNe (fN opLen (fCons (fVar 0) fNil)) (fC (.int 3)))) (fB (f2 opNe (f2 opIx (fVar 0) (fC (.int 0))) (fC (.str "rows"))))))
    (fRet (fC (.bool false)))
    fNext)
    (fSeq (fIfS (fOr (fNot (fTru (fCall 3 (fn_is_whole n) (fCons (fFz (f2 opIx (fVar 0) (fC (.int 1)))) (fCons (fC (.int 1)) (fCons (fFz (fC (.int 8))) fNil)))))) (fOr (fNot (fTru (fIsi "tuple" (f2 opIx (fVar 0) (fC (.int 2)))))) (fB (f2 opGt (fN opLen (fCons (f2 opIx (fVar 0) (fC (.int 2))) fNil)) (fC (.int 24))))))
    (fRet (fC (.bool false)))
    fNext)
    (fRet (fN opAll (fCons (fLc [1] (.nm 1) (fIt (f2 opIx (fVar 0) (fC (.int 2)))) fYes (fFz (fCall 2 (fn_is_row n) (fCons (fFz (fVar 1)) (fCons (fFz (f2 opIx (fVar 0) (fC (.int 1)))) fNil))))) fNil)))))
def fn_is_system (n : Nat) : Fn := fnOf 2 (f_is_system n)
section
variable {P : Program} {w : World} {K : PySem.W.Frag} {mg : Str → Option Value} {base : Heap}
theorem ok_is_system (n : Nat) (z_all : mg "all" = none) (z_isinstance : mg "isinstance" = none) (z_len : mg "len" = none) (z_tuple : mg "tuple" = none) (c_MOST_ROWS : ∃ t, mg "MOST_ROWS" = some (.int 24 t)) (c_MOST_UNKNOWNS : ∃ t, mg "MOST_UNKNOWNS" = some (.int 8 t)) (k_is_row : Cal P w K mg base "is_row" 3 2 (fn_is_row n)) (k_is_whole : Cal P w K mg base "is_whole" 1 3 (fn_is_whole n)) {f : Addr} {fd : FuncData} (F : Fun K "is_system" "is_system" s_is_system f fd) : FnOk P w K mg base CX0 4 f fd ["value"] (spF XO0 K 1 (fn_is_system n)) := by
  refine fn_ok F sc_is_system rfl rfl fun cdv A outer s H E hr => ?_
  have nd := sc_is_system.nd
  exact (ds_cons (ds_if (DW.dt (dw_or (dt_not (dt_tru (d_isi (by decide) (d_var 0) (by rfl) z_isinstance (by rfl) z_tuple (by decide +kernel)))) (dw_or (dt_cmp (op_neD (hu64 hr)) o2_ne (d_callB call_len on_len (by rfl) z_len (by decide +kernel) (da_cons (d_var 0) da_nil)) d_int (nomark _)) (dw_or1 (dt_cmp (op_neD (hu64 hr)) o2_ne (d_ix ix_seq o2_ix (d_var 0) d_int (fun _ _ => rfl)) d_str (nomark _))))))
    (ds_one (ds_ret d_bl))
    ds_nil)
    (ds_cons (ds_if (DW.dt (dw_or (dt_not (dt_tru (d_callC k_is_whole (hr.mono (by first | decide | (simp only [Nat.add_eq]; omega))) (by rfl) (da_cons (d_fz (d_ix ix_seq o2_ix (d_var 0) d_int (fun _ _ => rfl))) (da_cons d_int (da_cons (d_fz (d_gint rfl c_MOST_UNKNOWNS)) da_nil)))))) (dw_or (dt_not (dt_tru (d_isi (by decide) (d_ix ix_seq o2_ix (d_var 0) d_int (fun _ _ => rfl)) (by rfl) z_isinstance (by rfl) z_tuple (by decide +kernel)))) (dw_or1 (dt_cmp op_gt o2_cmp (d_callB call_len on_len (by rfl) z_len (by decide +kernel) (da_cons (d_ix ix_seq o2_ix (d_var 0) d_int (fun _ _ => rfl)) da_nil)) (d_gint rfl c_MOST_ROWS) (nomark _))))))
    (ds_one (ds_ret d_bl))
    ds_nil)
    (ds_one (ds_ret (d_callB (cr_all rfl) on_all (by rfl) z_all (by decide +kernel) (da_cons (d_lc rfl nd (di_seq (d_ix ix_seq o2_ix (d_var 0) d_int (fun _ _ => rfl))) (own := [("row", 1)]) (blkOk_by (by kernel_rfl)) (by decide) (fun _ _ _ _ _ => (dg_nm nd rfl (by first | exact .inl rfl | exact .inr rfl))) (fun _ _ _ _ _ => dts_nil) (fun _ _ _ _ _ => (d_fz (d_callC k_is_row (hr.mono (by first | decide | (simp only [Nat.add_eq]; omega))) (by rfl) (da_cons (d_fz (d_var 1)) (da_cons (d_fz (d_ix ix_seq o2_ix (d_var 0) d_int (fun _ _ => rfl))) da_nil)))))) da_nil))))))
end
abbrev s_keeps : Stmt := topS 26
abbrev n_keeps : List Str := ["row", "point", "told"]
theorem sc_keeps : FnScope n_keeps ["row", "point"] (defScope s_keeps) := ⟨rfl, rfl, rfl, by decide +kernel, rfl, by decide +kernel, by decide +kernel⟩
def f_keeps (n : Nat) : FS :=
    (fSeq (fSet 2 (fFz (fCall 2 (fn_dot n) (fCons (fFz (f2 opIx (fVar 0) (fC (.int 0)))) (fCons (fFz (fVar 1)) fNil)))))
    (fSeq (fIfS (fB (f2 opEq (f2 opIx (fVar 0) (fC (.int 1))) (fC (.str "just"))))
    (fRet (f2 opEq (fVar 2) (fTup (fCons (fFz (f2 opIx (fVar 0) (fC (.int 2)))) (fCons (fC (.int 1)) fNil)))))
    fNext)
    (fRet (fOrV (fCall 2 (fn_is_less n) (fCons (fFz (fVar 2)) (fCons (fFz (fTup (fCons (fFz (f2 opIx (fVar 0) (fC (.int 2)))) (fCons (fC (.int 1)) fNil)))) fNil))) (fAndV (f2 opEq (f2 opIx (fVar 0) (fC (.int 1))) (fC (.str "most"))) (f2 opEq (fVar 2) (fTup (fCons (fFz (f2 opIx (fVar 0) (fC (.int 2)))) (fCons (fC (.int 1)) fNil)))))))))
def fn_keeps (n : Nat) : Fn := fnOf 3 (f_keeps n)
section
variable {P : Program} {w : World} {K : PySem.W.Frag} {mg : Str → Option Value} {base : Heap}
theorem ok_keeps (n : Nat) (k_dot : Cal P w K mg base "dot" 5 2 (fn_dot n)) (k_is_less : Cal P w K mg base "is_less" 1 2 (fn_is_less n)) {f : Addr} {fd : FuncData} (F : Fun K "keeps" "keeps" s_keeps f fd) : FnOk P w K mg base CX0 6 f fd ["row", "point"] (spF XO0 K 2 (fn_keeps n)) := by
  refine fn_ok F sc_keeps rfl rfl fun cdv A outer s H E hr => ?_
  have nd := sc_keeps.nd
  exact (ds_cons (ds_set nd rfl (by first | exact .inl rfl | exact .inr rfl) (d_fz (d_callC k_dot (hr.mono (by first | decide | (simp only [Nat.add_eq]; omega))) (by rfl) (da_cons (d_fz (d_ix ix_seq o2_ix (d_var 0) d_int (fun _ _ => rfl))) (da_cons (d_fz (d_var 1)) da_nil)))))
    (ds_cons (ds_if (dt_cmp (op_eqD (hu64 hr)) o2_eq (d_ix ix_seq o2_ix (d_var 0) d_int (fun _ _ => rfl)) d_str (nomark _))
    (ds_one (ds_ret (d_cmp (op_eqD (hu64 hr)) o2_eq (d_var 2) (d_tup (da_cons (d_fz (d_ix ix_seq o2_ix (d_var 0) d_int (fun _ _ => rfl))) (da_cons d_int da_nil))) (nomark _))))
    ds_nil)
    (ds_one (ds_ret (d_or (d_callC k_is_less (hr.mono (by first | decide | (simp only [Nat.add_eq]; omega))) (by rfl) (da_cons (d_fz (d_var 2)) (da_cons (d_fz (d_tup (da_cons (d_fz (d_ix ix_seq o2_ix (d_var 0) d_int (fun _ _ => rfl))) (da_cons d_int da_nil)))) da_nil))) (d_one (d_and (d_cmp (op_eqD (hu64 hr)) o2_eq (d_ix ix_seq o2_ix (d_var 0) d_int (fun _ _ => rfl)) d_str (nomark _)) (d_one (d_cmp (op_eqD (hu64 hr)) o2_eq (d_var 2) (d_tup (da_cons (d_fz (d_ix ix_seq o2_ix (d_var 0) d_int (fun _ _ => rfl))) (da_cons d_int da_nil))) (nomark _))))))))))
end
abbrev s_keeps_all : Stmt := topS 27
abbrev n_keeps_all : List Str := ["system", "point", "row"]
theorem sc_keeps_all : FnScope n_keeps_all ["system", "point"] (defScope s_keeps_all) := ⟨rfl, rfl, rfl, by decide +kernel, rfl, by decide +kernel, by decide +kernel⟩
def f_keeps_all (n : Nat) : FS :=
    (fRet (fN opAll (fCons (fLc [2] (.nm 2) (fIt (f2 opIx (fVar 0) (fC (.int 2)))) fYes (fFz (fCall 2 (fn_keeps n) (fCons (fFz (fVar 2)) (fCons (fFz (fVar 1)) fNil))))) fNil)))
def fn_keeps_all (n : Nat) : Fn := fnOf 3 (f_keeps_all n)
section
variable {P : Program} {w : World} {K : PySem.W.Frag} {mg : Str → Option Value} {base : Heap}
theorem ok_keeps_all (n : Nat) (z_all : mg "all" = none) (k_keeps : Cal P w K mg base "keeps" 6 2 (fn_keeps n)) {f : Addr} {fd : FuncData} (F : Fun K "keeps_all" "keeps_all" s_keeps_all f fd) : FnOk P w K mg base CX0 7 f fd ["system", "point"] (spF XO0 K 2 (fn_keeps_all n)) := by
  refine fn_ok F sc_keeps_all rfl rfl fun cdv A outer s H E hr => ?_
  have nd := sc_keeps_all.nd
  exact (ds_one (ds_ret (d_callB (cr_all rfl) on_all (by rfl) z_all (by decide +kernel) (da_cons (d_lc rfl nd (di_seq (d_ix ix_seq o2_ix (d_var 0) d_int (fun _ _ => rfl))) (own := [("row", 2)]) (blkOk_by (by kernel_rfl)) (by decide) (fun _ _ _ _ _ => (dg_nm nd rfl (by first | exact .inl rfl | exact .inr rfl))) (fun _ _ _ _ _ => dts_nil) (fun _ _ _ _ _ => (d_fz (d_callC k_keeps (hr.mono (by first | decide | (simp only [Nat.add_eq]; omega))) (by rfl) (da_cons (d_fz (d_var 2)) (da_cons (d_fz (d_var 1)) da_nil)))))) da_nil))))
end
abbrev s_is_point : Stmt := topS 28
abbrev n_is_point : List Str := ["system", "value"]
theorem sc_is_point : FnScope n_is_point ["system", "value"] (defScope s_is_point) := ⟨rfl, rfl, rfl, by decide +kernel, rfl, by decide +kernel, by decide +kernel⟩
def f_is_point (n : Nat) : FS :=
    (fRet (fAndV (fCall 2 (fn_are_parts n) (fCons (fFz (fVar 1)) (fCons (fFz (f2 opIx (fVar 0) (fC (.int 1)))) fNil))) (fCall 2 (fn_keeps_all n) (fCons (fFz (fVar 0)) (fCons (fFz (fVar 1)) fNil)))))
def fn_is_point (n : Nat) : Fn := fnOf 2 (f_is_point n)
section
variable {P : Program} {w : World} {K : PySem.W.Frag} {mg : Str → Option Value} {base : Heap}
theorem ok_is_point (n : Nat) (k_are_parts : Cal P w K mg base "are_parts" 3 2 (fn_are_parts n)) (k_keeps_all : Cal P w K mg base "keeps_all" 7 2 (fn_keeps_all n)) {f : Addr} {fd : FuncData} (F : Fun K "is_point" "is_point" s_is_point f fd) : FnOk P w K mg base CX0 8 f fd ["system", "value"] (spF XO0 K 2 (fn_is_point n)) := by
  refine fn_ok F sc_is_point rfl rfl fun cdv A outer s H E hr => ?_
  have nd := sc_is_point.nd
  exact (ds_one (ds_ret (d_and (d_callC k_are_parts (hr.mono (by first | decide | (simp only [Nat.add_eq]; omega))) (by rfl) (da_cons (d_fz (d_var 1)) (da_cons (d_fz (d_ix ix_seq o2_ix (d_var 0) d_int (fun _ _ => rfl))) da_nil))) (d_one (d_callC k_keeps_all (hr.mono (by first | decide | (simp only [Nat.add_eq]; omega))) (by rfl) (da_cons (d_fz (d_var 0)) (da_cons (d_fz (d_var 1)) da_nil)))))))
end
abbrev s_are_weights : Stmt := topS 29
abbrev n_are_weights : List Str := ["system", "value", "k"]
theorem sc_are_weights : FnScope n_are_weights ["system", "value"] (defScope s_are_weights) := ⟨rfl, rfl, rfl, by decide +kernel, rfl, by decide +kernel, by decide +kernel⟩
def f_are_weights (n : Nat) : FS :=
    (fSeq (fIfS (fNot (fTru (fCall 2 (fn_are_parts n) (fCons (fFz (fVar 1)) (fCons (fFz (fN opLen (fCons (f2 opIx (fVar 0) (fC (.int 2))) fNil))) fNil)))))
    (fRet (fC (.bool false)))
    fNext)
    (fRet (fN opAll (fCons (fLc [2] (.nm 2) (fRng rng1 (fCons (fN opLen (fCons (fVar 1) fNil)) fNil)) fYes (fFz (fOrV (f2 opEq (f2 opIx (f2 opIx (f2 opIx (fVar 0) (fC (.int 2))) (fVar 2)) (fC (.int 1))) (fC (.str "just"))) (f2 opGe (f2 opIx (f2 opIx (fVar 1) (fVar 2)) (fC (.int 0))) (fC (.int 0)))))) fNil))))
def fn_are_weights (n : Nat) : Fn := fnOf 3 (f_are_weights n)
section
variable {P : Program} {w : World} {K : PySem.W.Frag} {mg : Str → Option Value} {base : Heap}
theorem ok_are_weights (n : Nat) (z_all : mg "all" = none) (z_len : mg "len" = none) (z_range : mg "range" = none) (k_are_parts : Cal P w K mg base "are_parts" 3 2 (fn_are_parts n)) {f : Addr} {fd : FuncData} (F : Fun K "are_weights" "are_weights" s_are_weights f fd) : FnOk P w K mg base CX0 4 f fd ["system", "value"] (spF XO0 K 2 (fn_are_weights n)) := by
  refine fn_ok F sc_are_weights rfl rfl fun cdv A outer s H E hr => ?_
  have nd := sc_are_weights.nd
  exact (ds_cons (ds_if (dt_not (dt_tru (d_callC k_are_parts (hr.mono (by first | decide | (simp only [Nat.add_eq]; omega))) (by rfl) (da_cons (d_fz (d_var 1)) (da_cons (d_fz (d_callB call_len on_len (by rfl) z_len (by decide +kernel) (da_cons (d_ix ix_seq o2_ix (d_var 0) d_int (fun _ _ => rfl)) da_nil))) da_nil)))))
    (ds_one (ds_ret d_bl))
    ds_nil)
    (ds_one (ds_ret (d_callB (cr_all rfl) on_all (by rfl) z_all (by decide +kernel) (da_cons (d_lc rfl nd (di_rng1 (by rfl) z_range (da_cons (d_callB call_len on_len (by rfl) z_len (by decide +kernel) (da_cons (d_var 1) da_nil)) da_nil)) (own := [("k", 2)]) (blkOk_by (by kernel_rfl)) (by decide) (fun _ _ _ _ _ => (dg_nm nd rfl (by first | exact .inl rfl | exact .inr rfl))) (fun _ _ _ _ _ => dts_nil) (fun _ _ _ _ _ => (d_fz (d_or (d_cmp (op_eqD (hu64 hr)) o2_eq (d_ix ix_seq o2_ix (d_ix ix_seq o2_ix (d_ix ix_seq o2_ix (d_var 0) d_int (fun _ _ => rfl)) (d_var 2) (fun _ _ => rfl)) d_int (fun _ _ => rfl)) d_str (nomark _)) (d_one (d_cmp op_ge o2_cmp (d_ix ix_seq o2_ix (d_ix ix_seq o2_ix (d_var 1) (d_var 2) (fun _ _ => rfl)) d_int (fun _ _ => rfl)) d_int (nomark _))))))) da_nil)))))
end
abbrev s_weighed : Stmt := topS 30
abbrev n_weighed : List Str := ["system", "weights", "k", "found", "bound", "less", "row", "j"]
theorem sc_weighed : FnScope n_weighed ["system", "weights"] (defScope s_weighed) := ⟨rfl, rfl, rfl, by decide +kernel, rfl, by decide +kernel, by decide +kernel⟩
def f_weighed (n : Nat) : FS :=
    (fSeq (fSetT (.tp [3, 4, 5]) (fTup (fCons (fFz (f2 opRep (fLst (fCons (fFz (fTup (fCons (fC (.int 0)) (fCons (fC (.int 1)) fNil)))) fNil)) (f2 opIx (fVar 0) (fC (.int 1))))) (fCons (fFz (fTup (fCons (fC (.int 0)) (fCons (fC (.int 1)) fNil)))) (fCons (fC (.bool false)) fNil)))))
    (fSeq (fFor (.nm 2) (fRng rng1 (fCons (fN opLen (fCons (fVar 1) fNil)) fNil))
    (fSeq (fSet 6 (fFz (f2 opIx (f2 opIx (fVar 0) (fC (.int 2))) (fVar 2))))
    (fSeq (fSet 3 (fFz (fLc [7] (.nm 7) (fRng rng1 (fCons (f2 opIx (fVar 0) (fC (.int 1))) fNil)) fYes (fFz (fCall 2 (fn_plus n) (fCons (fFz (f2 opIx (fVar 3) (fVar 7))) (fCons (fFz (fCall 2 (fn_times n) (fCons (fFz (f2 opIx (fVar 1) (fVar 2))) (fCons (fFz (fTup (fCons (fFz (f2 opIx (f2 opIx (fVar 6) (fC (.int 0))) (fVar 7))) (fCons (fC (.int 1)) fNil)))) fNil)))) fNil)))))))
    (fSeq (fSet 4 (fFz (fCall 2 (fn_plus n) (fCons (fFz (fVar 4)) (fCons (fFz (fCall 2 (fn_times n) (fCons (fFz (f2 opIx (fVar 1) (fVar 2))) (fCons (fFz (fTup (fCons (fFz (f2 opIx (fVar 6) (fC (.int 2)))) (fCons (fC (.int 1)) fNil)))) fNil)))) fNil)))))
    (fSet 5 (fFz (fOrV (fVar 5) (fAndV (f2 opEq (f2 opIx (fVar 6) (fC (.int 1))) (fC (.str "less"))) (f2 opGt (f2 opIx (f2 opIx (fVar 1) (fVar 2)) (fC (.int 0))) (fC (.int 0)))))))))))
    (fRet (fTup (fCons (fFz (fN opTuple (fCons (fVar 3) fNil))) (fCons (fFz (fVar 4)) (fCons (fFz (fVar 5)) fNil)))))))
def fn_weighed (n : Nat) : Fn := fnOf 8 (f_weighed n)
section
variable {P : Program} {w : World} {K : PySem.W.Frag} {mg : Str → Option Value} {base : Heap}
theorem ok_weighed (n : Nat) (z_len : mg "len" = none) (z_range : mg "range" = none) (z_tuple : mg "tuple" = none) (k_plus : Cal P w K mg base "plus" 3 2 (fn_plus n)) (k_times : Cal P w K mg base "times" 3 2 (fn_times n)) {f : Addr} {fd : FuncData} (F : Fun K "weighed" "weighed" s_weighed f fd) : FnOk P w K mg base CX0 4 f fd ["system", "weights"] (spF XO0 K 2 (fn_weighed n)) := by
  refine fn_ok F sc_weighed rfl rfl fun cdv A outer s H E hr => ?_
  have nd := sc_weighed.nd
  exact (ds_cons (ds_setT (d_tup (da_cons (d_fz (d_op op_rep o2_rep (d_lst (da_cons (d_fz (d_tup (da_cons d_int (da_cons d_int da_nil)))) da_nil)) (d_ix ix_seq o2_ix (d_var 0) d_int (fun _ _ => rfl)))) (da_cons (d_fz (d_tup (da_cons d_int (da_cons d_int da_nil)))) (da_cons d_bl da_nil)))) (dg_tp rfl (pgs_cons (pg_name (i := 3) nd rfl (by first | exact .inl rfl | exact .inr rfl)) (pgs_cons (pg_name (i := 4) nd rfl (by first | exact .inl rfl | exact .inr rfl)) (pgs_cons (pg_name (i := 5) nd rfl (by first | exact .inl rfl | exact .inr rfl)) pgs_nil)))))
    (ds_cons (ds_for PassesOwn.never rfl (di_rng1 (by rfl) z_range (da_cons (d_callB call_len on_len (by rfl) z_len (by decide +kernel) (da_cons (d_var 1) da_nil)) da_nil)) (dg_nm nd rfl (by first | exact .inl rfl | exact .inr rfl))
    (ds_cons (ds_set nd rfl (by first | exact .inl rfl | exact .inr rfl) (d_fz (d_ix ix_seq o2_ix (d_ix ix_seq o2_ix (d_var 0) d_int (fun _ _ => rfl)) (d_var 2) (fun _ _ => rfl))))
    (ds_cons (ds_set nd rfl (by first | exact .inl rfl | exact .inr rfl) (d_fz (d_lc rfl nd (di_rng1 (by rfl) z_range (da_cons (d_ix ix_seq o2_ix (d_var 0) d_int (fun _ _ => rfl)) da_nil)) (own := [("j", 7)]) (blkOk_by (by kernel_rfl)) (by decide) (fun _ _ _ _ _ => (dg_nm nd rfl (by first | exact .inl rfl | exact .inr rfl))) (fun _ _ _ _ _ => dts_nil) (fun _ _ _ _ _ => (d_fz (d_callC k_plus (hr.mono (by first | decide | (simp only [Nat.add_eq]; omega))) (by rfl) (da_cons (d_fz (d_ix ix_seq o2_ix (d_var 3) (d_var 7) (fun _ _ => rfl))) (da_cons (d_fz (d_callC k_times (hr.mono (by first | decide | (simp only [Nat.add_eq]; omega))) (by rfl) (da_cons (d_fz (d_ix ix_seq o2_ix (d_var 1) (d_var 2) (fun _ _ => rfl))) (da_cons (d_fz (d_tup (da_cons (d_fz (d_ix ix_seq o2_ix (d_ix ix_seq o2_ix (d_var 6) d_int (fun _ _ => rfl)) (d_var 7) (fun _ _ => rfl))) (da_cons d_int da_nil)))) da_nil)))) da_nil))))))))
    (ds_cons (ds_set nd rfl (by first | exact .inl rfl | exact .inr rfl) (d_fz (d_callC k_plus (hr.mono (by first | decide | (simp only [Nat.add_eq]; omega))) (by rfl) (da_cons (d_fz (d_var 4)) (da_cons (d_fz (d_callC k_times (hr.mono (by first | decide | (simp only [Nat.add_eq]; omega))) (by rfl) (da_cons (d_fz (d_ix ix_seq o2_ix (d_var 1) (d_var 2) (fun _ _ => rfl))) (da_cons (d_fz (d_tup (da_cons (d_fz (d_ix ix_seq o2_ix (d_var 6) d_int (fun _ _ => rfl))) (da_cons d_int da_nil)))) da_nil)))) da_nil)))))
    (ds_one (ds_set nd rfl (by first | exact .inl rfl | exact .inr rfl) (d_fz (d_or (d_var 5) (d_one (d_and (d_cmp (op_eqD (hu64 hr)) o2_eq (d_ix ix_seq o2_ix (d_var 6) d_int (fun _ _ => rfl)) d_str (nomark _)) (d_one (d_cmp op_gt o2_cmp (d_ix ix_seq o2_ix (d_ix ix_seq o2_ix (d_var 1) (d_var 2) (fun _ _ => rfl)) d_int (fun _ _ => rfl)) d_int (nomark _)))))))))))))
    (ds_one (ds_ret (d_tup (da_cons (d_fz (d_callTy call_tuple_of on_tuple (by rfl) z_tuple (by decide +kernel) (da_cons (d_var 3) da_nil))) (da_cons (d_fz (d_var 4)) (da_cons (d_fz (d_var 5)) da_nil))))))))
end
abbrev s_is_barred : Stmt := topS 31
abbrev n_is_barred : List Str := ["system", "value", "found", "bound", "less", "one"]
theorem sc_is_barred : FnScope n_is_barred ["system", "value"] (defScope s_is_barred) := ⟨rfl, rfl, rfl, by decide +kernel, rfl, by decide +kernel, by decide +kernel⟩
def f_is_barred (n : Nat) : FS :=
    (fSeq (fIfS (fNot (fTru (fCall 2 (fn_are_weights n) (fCons (fFz (fVar 0)) (fCons (fFz (fVar 1)) fNil)))))
    (fRet (fC (.bool false)))
    fNext)
    (fSeq (fSetT (.tp [2, 3, 4]) (fCall 2 (fn_weighed n) (fCons (fFz (fVar 0)) (fCons (fFz (fVar 1)) fNil))))
    (fSeq (fIfS (fNot (fTru (fN opAll (fCons (fLc [5] (.nm 5) (fIt (fVar 2)) fYes (fFz (f2 opEq (f2 opIx (fVar 5) (fC (.int 0))) (fC (.int 0))))) fNil))))
    (fRet (fC (.bool false)))
    fNext)
    (fRet (fOrV (f2 opLt (f2 opIx (fVar 3) (fC (.int 0))) (fC (.int 0))) (fAndV (f2 opEq (f2 opIx (fVar 3) (fC (.int 0))) (fC (.int 0))) (fVar 4)))))))
def fn_is_barred (n : Nat) : Fn := fnOf 6 (f_is_barred n)
section
variable {P : Program} {w : World} {K : PySem.W.Frag} {mg : Str → Option Value} {base : Heap}
theorem ok_is_barred (n : Nat) (z_all : mg "all" = none) (k_are_weights : Cal P w K mg base "are_weights" 4 2 (fn_are_weights n)) (k_weighed : Cal P w K mg base "weighed" 4 2 (fn_weighed n)) {f : Addr} {fd : FuncData} (F : Fun K "is_barred" "is_barred" s_is_barred f fd) : FnOk P w K mg base CX0 5 f fd ["system", "value"] (spF XO0 K 2 (fn_is_barred n)) := by
  refine fn_ok F sc_is_barred rfl rfl fun cdv A outer s H E hr => ?_
  have nd := sc_is_barred.nd
  exact (ds_cons (ds_if (dt_not (dt_tru (d_callC k_are_weights (hr.mono (by first | decide | (simp only [Nat.add_eq]; omega))) (by rfl) (da_cons (d_fz (d_var 0)) (da_cons (d_fz (d_var 1)) da_nil)))))
    (ds_one (ds_ret d_bl))
    ds_nil)
    (ds_cons (ds_setT (d_callC k_weighed (hr.mono (by first | decide | (simp only [Nat.add_eq]; omega))) (by rfl) (da_cons (d_fz (d_var 0)) (da_cons (d_fz (d_var 1)) da_nil))) (dg_tp rfl (pgs_cons (pg_name (i := 2) nd rfl (by first | exact .inl rfl | exact .inr rfl)) (pgs_cons (pg_name (i := 3) nd rfl (by first | exact .inl rfl | exact .inr rfl)) (pgs_cons (pg_name (i := 4) nd rfl (by first | exact .inl rfl | exact .inr rfl)) pgs_nil)))))
    (ds_cons (ds_if (dt_not (dt_tru (d_callB (cr_all rfl) on_all (by rfl) z_all (by decide +kernel) (da_cons (d_lc rfl nd (di_seq (d_var 2)) (own := [("one", 5)]) (blkOk_by (by kernel_rfl)) (by decide) (fun _ _ _ _ _ => (dg_nm nd rfl (by first | exact .inl rfl | exact .inr rfl))) (fun _ _ _ _ _ => dts_nil) (fun _ _ _ _ _ => (d_fz (d_cmp (op_eqD (hu64 hr)) o2_eq (d_ix ix_seq o2_ix (d_var 5) d_int (fun _ _ => rfl)) d_int (nomark _))))) da_nil))))
    (ds_one (ds_ret d_bl))
    ds_nil)
    (ds_one (ds_ret (d_or (d_cmp op_lt o2_cmp (d_ix ix_seq o2_ix (d_var 3) d_int (fun _ _ => rfl)) d_int (nomark _)) (d_one (d_and (d_cmp (op_eqD (hu64 hr)) o2_eq (d_ix ix_seq o2_ix (d_var 3) d_int (fun _ _ => rfl)) d_int (nomark _)) (d_one (d_var 4))))))))))
end
abbrev s_shows_row : Stmt := topS 32
abbrev n_shows_row : List Str := ["system", "row", "value", "found", "bound", "less", "number"]
theorem sc_shows_row : FnScope n_shows_row ["system", "row", "value"] (defScope s_shows_row) := ⟨rfl, rfl, rfl, by decide +kernel, rfl, by decide +kernel, by decide +kernel⟩
def f_shows_row (n : Nat) : FS :=
    (fSeq (fIfS (fOr (fNot (fTru (fCall 2 (fn_are_weights n) (fCons (fFz (fVar 0)) (fCons (fFz (fVar 2)) fNil))))) (fB (f2 opEq (f2 opIx (fVar 1) (fC (.int 1))) (fC (.str "just")))))
    (fRet (fC (.bool false)))
    fNext)
    (fSeq (fSetT (.tp [3, 4, 5]) (fCall 2 (fn_weighed n) (fCons (fFz (fVar 0)) (fCons (fFz (fVar 2)) fNil))))
    (fSeq (fIfS (fB (f2 opNe (fVar 3) (fN opTuple (fCons (fLc [6] (.nm 6) (fIt (f2 opIx (fVar 1) (fC (.int 0)))) fYes (fFz (fTup (fCons (fFz (fVar 6)) (fCons (fC (.int 1)) fNil))))) fNil))))
    (fRet (fC (.bool false)))
    fNext)
    (fRet (fOrV (fCall 2 (fn_is_less n) (fCons (fFz (fVar 4)) (fCons (fFz (fTup (fCons (fFz (f2 opIx (fVar 1) (fC (.int 2)))) (fCons (fC (.int 1)) fNil)))) fNil))) (fAndV (f2 opEq (fVar 4) (fTup (fCons (fFz (f2 opIx (fVar 1) (fC (.int 2)))) (fCons (fC (.int 1)) fNil)))) (fOrV (f2 opEq (f2 opIx (fVar 1) (fC (.int 1))) (fC (.str "most"))) (fVar 5))))))))
def fn_shows_row (n : Nat) : Fn := fnOf 7 (f_shows_row n)
section
variable {P : Program} {w : World} {K : PySem.W.Frag} {mg : Str → Option Value} {base : Heap}
theorem ok_shows_row (n : Nat) (z_tuple : mg "tuple" = none) (k_are_weights : Cal P w K mg base "are_weights" 4 2 (fn_are_weights n)) (k_is_less : Cal P w K mg base "is_less" 1 2 (fn_is_less n)) (k_weighed : Cal P w K mg base "weighed" 4 2 (fn_weighed n)) {f : Addr} {fd : FuncData} (F : Fun K "shows_row" "shows_row" s_shows_row f fd) : FnOk P w K mg base CX0 5 f fd ["system", "row", "value"] (spF XO0 K 3 (fn_shows_row n)) := by
  refine fn_ok F sc_shows_row rfl rfl fun cdv A outer s H E hr => ?_
  have nd := sc_shows_row.nd
  exact (ds_cons (ds_if (DW.dt (dw_or (dt_not (dt_tru (d_callC k_are_weights (hr.mono (by first | decide | (simp only [Nat.add_eq]; omega))) (by rfl) (da_cons (d_fz (d_var 0)) (da_cons (d_fz (d_var 2)) da_nil))))) (dw_or1 (dt_cmp (op_eqD (hu64 hr)) o2_eq (d_ix ix_seq o2_ix (d_var 1) d_int (fun _ _ => rfl)) d_str (nomark _)))))
    (ds_one (ds_ret d_bl))
    ds_nil)
    (ds_cons (ds_setT (d_callC k_weighed (hr.mono (by first | decide | (simp only [Nat.add_eq]; omega))) (by rfl) (da_cons (d_fz (d_var 0)) (da_cons (d_fz (d_var 2)) da_nil))) (dg_tp rfl (pgs_cons (pg_name (i := 3) nd rfl (by first | exact .inl rfl | exact .inr rfl)) (pgs_cons (pg_name (i := 4) nd rfl (by first | exact .inl rfl | exact .inr rfl)) (pgs_cons (pg_name (i := 5) nd rfl (by first | exact .inl rfl | exact .inr rfl)) pgs_nil)))))
    (ds_cons (ds_if (dt_cmp (op_neD (hu64 hr)) o2_ne (d_var 3) (d_callTy call_tuple_of on_tuple (by rfl) z_tuple (by decide +kernel) (da_cons (d_lc rfl nd (di_seq (d_ix ix_seq o2_ix (d_var 1) d_int (fun _ _ => rfl))) (own := [("number", 6)]) (blkOk_by (by kernel_rfl)) (by decide) (fun _ _ _ _ _ => (dg_nm nd rfl (by first | exact .inl rfl | exact .inr rfl))) (fun _ _ _ _ _ => dts_nil) (fun _ _ _ _ _ => (d_fz (d_tup (da_cons (d_fz (d_var 6)) (da_cons d_int da_nil)))))) da_nil)) (nomark _))
    (ds_one (ds_ret d_bl))
    ds_nil)
    (ds_one (ds_ret (d_or (d_callC k_is_less (hr.mono (by first | decide | (simp only [Nat.add_eq]; omega))) (by rfl) (da_cons (d_fz (d_var 4)) (da_cons (d_fz (d_tup (da_cons (d_fz (d_ix ix_seq o2_ix (d_var 1) d_int (fun _ _ => rfl))) (da_cons d_int da_nil)))) da_nil))) (d_one (d_and (d_cmp (op_eqD (hu64 hr)) o2_eq (d_var 4) (d_tup (da_cons (d_fz (d_ix ix_seq o2_ix (d_var 1) d_int (fun _ _ => rfl))) (da_cons d_int da_nil))) (nomark _)) (d_one (d_or (d_cmp (op_eqD (hu64 hr)) o2_eq (d_ix ix_seq o2_ix (d_var 1) d_int (fun _ _ => rfl)) d_str (nomark _)) (d_one (d_var 5))))))))))))
end
abbrev s_slack : Stmt := topS 33
abbrev n_slack : List Str := ["row", "point", "told"]
theorem sc_slack : FnScope n_slack ["row", "point"] (defScope s_slack) := ⟨rfl, rfl, rfl, by decide +kernel, rfl, by decide +kernel, by decide +kernel⟩
def f_slack (n : Nat) : FS :=
    (fSeq (fSet 2 (fFz (fCall 2 (fn_dot n) (fCons (fFz (f2 opIx (fVar 0) (fC (.int 0)))) (fCons (fFz (fVar 1)) fNil)))))
    (fRet (fCall 2 (fn_plus n) (fCons (fFz (fTup (fCons (fFz (f2 opIx (fVar 0) (fC (.int 2)))) (fCons (fC (.int 1)) fNil)))) (fCons (fFz (fTup (fCons (fFz (f2 opSub (fC (.int 0)) (f2 opIx (fVar 2) (fC (.int 0))))) (fCons (fFz (f2 opIx (fVar 2) (fC (.int 1)))) fNil)))) fNil)))))
def fn_slack (n : Nat) : Fn := fnOf 3 (f_slack n)
section
variable {P : Program} {w : World} {K : PySem.W.Frag} {mg : Str → Option Value} {base : Heap}
theorem ok_slack (n : Nat) (k_dot : Cal P w K mg base "dot" 5 2 (fn_dot n)) (k_plus : Cal P w K mg base "plus" 3 2 (fn_plus n)) {f : Addr} {fd : FuncData} (F : Fun K "slack" "slack" s_slack f fd) : FnOk P w K mg base CX0 6 f fd ["row", "point"] (spF XO0 K 2 (fn_slack n)) := by
  refine fn_ok F sc_slack rfl rfl fun cdv A outer s H E hr => ?_
  have nd := sc_slack.nd
  exact (ds_cons (ds_set nd rfl (by first | exact .inl rfl | exact .inr rfl) (d_fz (d_callC k_dot (hr.mono (by first | decide | (simp only [Nat.add_eq]; omega))) (by rfl) (da_cons (d_fz (d_ix ix_seq o2_ix (d_var 0) d_int (fun _ _ => rfl))) (da_cons (d_fz (d_var 1)) da_nil)))))
    (ds_one (ds_ret (d_callC k_plus (hr.mono (by first | decide | (simp only [Nat.add_eq]; omega))) (by rfl) (da_cons (d_fz (d_tup (da_cons (d_fz (d_ix ix_seq o2_ix (d_var 0) d_int (fun _ _ => rfl))) (da_cons d_int da_nil)))) (da_cons (d_fz (d_tup (da_cons (d_fz (d_op or_sub o2_sub d_int (d_ix ix_seq o2_ix (d_var 2) d_int (fun _ _ => rfl)))) (da_cons (d_fz (d_ix ix_seq o2_ix (d_var 2) d_int (fun _ _ => rfl))) da_nil)))) da_nil))))))
end
abbrev s_tight : Stmt := topS 34
abbrev n_tight : List Str := ["system", "point", "k"]
theorem sc_tight : FnScope n_tight ["system", "point"] (defScope s_tight) := ⟨rfl, rfl, rfl, by decide +kernel, rfl, by decide +kernel, by decide +kernel⟩
def f_tight (n : Nat) : FS :=
    (fRet (fLc [2] (.nm 2) (fRng rng1 (fCons (fN opLen (fCons (f2 opIx (fVar 0) (fC (.int 2))) fNil)) fNil)) (fB (f2 opEq (f2 opIx (fCall 2 (fn_slack n) (fCons (fFz (f2 opIx (f2 opIx (fVar 0) (fC (.int 2))) (fVar 2))) (fCons (fFz (fVar 1)) fNil))) (fC (.int 0))) (fC (.int 0)))) (fFz (fVar 2))))
def fn_tight (n : Nat) : Fn := fnOf 3 (f_tight n)
section
variable {P : Program} {w : World} {K : PySem.W.Frag} {mg : Str → Option Value} {base : Heap}
theorem ok_tight (n : Nat) (z_len : mg "len" = none) (z_range : mg "range" = none) (k_slack : Cal P w K mg base "slack" 6 2 (fn_slack n)) {f : Addr} {fd : FuncData} (F : Fun K "tight" "tight" s_tight f fd) : FnOk P w K mg base CX0 7 f fd ["system", "point"] (spF XO0 K 2 (fn_tight n)) := by
  refine fn_ok F sc_tight rfl rfl fun cdv A outer s H E hr => ?_
  have nd := sc_tight.nd
  exact (ds_one (ds_ret (d_lc rfl nd (di_rng1 (by rfl) z_range (da_cons (d_callB call_len on_len (by rfl) z_len (by decide +kernel) (da_cons (d_ix ix_seq o2_ix (d_var 0) d_int (fun _ _ => rfl)) da_nil)) da_nil)) (own := [("k", 2)]) (blkOk_by (by kernel_rfl)) (by decide) (fun _ _ _ _ _ => (dg_nm nd rfl (by first | exact .inl rfl | exact .inr rfl))) (fun _ _ _ _ _ => (dts_one (dt_cmp (op_eqD (hu64 hr)) o2_eq (d_ix ix_seq o2_ix (d_callC k_slack (hr.mono (by first | decide | (simp only [Nat.add_eq]; omega))) (by rfl) (da_cons (d_fz (d_ix ix_seq o2_ix (d_ix ix_seq o2_ix (d_var 0) d_int (fun _ _ => rfl)) (d_var 2) (fun _ _ => rfl))) (da_cons (d_fz (d_var 1)) da_nil))) d_int (fun _ _ => rfl)) d_int (nomark _)))) (fun _ _ _ _ _ => (d_fz (d_var 2))))))
end
abbrev s_with_row : Stmt := topS 35
abbrev n_with_row : List Str := ["system", "row"]
theorem sc_with_row : FnScope n_with_row ["system", "row"] (defScope s_with_row) := ⟨rfl, rfl, rfl, by decide +kernel, rfl, by decide +kernel, by decide +kernel⟩
def f_with_row (n : Nat) : FS :=
    (fRet (fTup (fCons (fFz (f2 opIx (fVar 0) (fC (.int 0)))) (fCons (fFz (f2 opIx (fVar 0) (fC (.int 1)))) (fCons (fFz (f2 opAdd (f2 opIx (fVar 0) (fC (.int 2))) (fTup (fCons (fFz (fVar 1)) fNil)))) fNil)))))
def fn_with_row (n : Nat) : Fn := fnOf 2 (f_with_row n)
section
variable {P : Program} {w : World} {K : PySem.W.Frag} {mg : Str → Option Value} {base : Heap}
theorem ok_with_row (n : Nat) {f : Addr} {fd : FuncData} (F : Fun K "with_row" "with_row" s_with_row f fd) : FnOk P w K mg base CX0 1 f fd ["system", "row"] (spF XO0 K 2 (fn_with_row n)) := by
  refine fn_ok F sc_with_row rfl rfl fun cdv A outer s H E hr => ?_
  have nd := sc_with_row.nd
  exact (ds_one (ds_ret (d_tup (da_cons (d_fz (d_ix ix_seq o2_ix (d_var 0) d_int (fun _ _ => rfl))) (da_cons (d_fz (d_ix ix_seq o2_ix (d_var 0) d_int (fun _ _ => rfl))) (da_cons (d_fz (d_op or_add o2_add (d_ix ix_seq o2_ix (d_var 0) d_int (fun _ _ => rfl)) (d_tup (da_cons (d_fz (d_var 1)) da_nil)))) da_nil))))))
end
abbrev s_without : Stmt := topS 36
abbrev n_without : List Str := ["system", "k"]
theorem sc_without : FnScope n_without ["system", "k"] (defScope s_without) := ⟨rfl, rfl, rfl, by decide +kernel, rfl, by decide +kernel, by decide +kernel⟩
def f_without (n : Nat) : FS :=
    (fRet (fTup (fCons (fFz (f2 opIx (fVar 0) (fC (.int 0)))) (fCons (fFz (f2 opIx (fVar 0) (fC (.int 1)))) (fCons (fFz (f2 opAdd (fSl (f2 opIx (fVar 0) (fC (.int 2))) fNo (fPart (fVar 1))) (fSl (f2 opIx (fVar 0) (fC (.int 2))) (fPart (f2 opAdd (fVar 1) (fC (.int 1)))) fNo))) fNil)))))
def fn_without (n : Nat) : Fn := fnOf 2 (f_without n)
section
variable {P : Program} {w : World} {K : PySem.W.Frag} {mg : Str → Option Value} {base : Heap}
theorem ok_without (n : Nat) {f : Addr} {fd : FuncData} (F : Fun K "without" "without" s_without f fd) : FnOk P w K mg base CX0 1 f fd ["system", "k"] (spF XO0 K 2 (fn_without n)) := by
  refine fn_ok F sc_without rfl rfl fun cdv A outer s H E hr => ?_
  have nd := sc_without.nd
  exact (ds_one (ds_ret (d_tup (da_cons (d_fz (d_ix ix_seq o2_ix (d_var 0) d_int (fun _ _ => rfl))) (da_cons (d_fz (d_ix ix_seq o2_ix (d_var 0) d_int (fun _ _ => rfl))) (da_cons (d_fz (d_op or_add o2_add (d_slice (d_ix ix_seq o2_ix (d_var 0) d_int (fun _ _ => rfl)) do_none (do_some (d_var 1))) (d_slice (d_ix ix_seq o2_ix (d_var 0) d_int (fun _ _ => rfl)) (do_some (d_op or_add o2_add (d_var 1) d_int)) do_none))) da_nil))))))
end
abbrev s_loosened : Stmt := topS 37
abbrev n_loosened : List Str := ["system", "rows", "row"]
theorem sc_loosened : FnScope n_loosened ["system"] (defScope s_loosened) := ⟨rfl, rfl, rfl, by decide +kernel, rfl, by decide +kernel, by decide +kernel⟩
def f_loosened (n : Nat) : FS :=
    (fSeq (fSet 1 (fFz (fN opTuple (fCons (fLc [2] (.nm 2) (fIt (f2 opIx (fVar 0) (fC (.int 2)))) fYes (fFz (fTup (fCons (fFz (f2 opIx (fVar 2) (fC (.int 0)))) (fCons (fFz (fIf (fB (f2 opEq (f2 opIx (fVar 2) (fC (.int 1))) (fC (.str "less")))) (fC (.str "most")) (f2 opIx (fVar 2) (fC (.int 1))))) (fCons (fFz (f2 opIx (fVar 2) (fC (.int 2)))) fNil)))))) fNil))))
    (fRet (fTup (fCons (fFz (f2 opIx (fVar 0) (fC (.int 0)))) (fCons (fFz (f2 opIx (fVar 0) (fC (.int 1)))) (fCons (fFz (fVar 1)) fNil))))))
def fn_loosened (n : Nat) : Fn := fnOf 3 (f_loosened n)
section
variable {P : Program} {w : World} {K : PySem.W.Frag} {mg : Str → Option Value} {base : Heap}
theorem ok_loosened (n : Nat) (z_tuple : mg "tuple" = none) {f : Addr} {fd : FuncData} (F : Fun K "loosened" "loosened" s_loosened f fd) : FnOk P w K mg base CX0 1 f fd ["system"] (spF XO0 K 1 (fn_loosened n)) := by
  refine fn_ok F sc_loosened rfl rfl fun cdv A outer s H E hr => ?_
  have nd := sc_loosened.nd
  exact (ds_cons (ds_set nd rfl (by first | exact .inl rfl | exact .inr rfl) (d_fz (d_callTy call_tuple_of on_tuple (by rfl) z_tuple (by decide +kernel) (da_cons (d_lc rfl nd (di_seq (d_ix ix_seq o2_ix (d_var 0) d_int (fun _ _ => rfl))) (own := [("row", 2)]) (blkOk_by (by kernel_rfl)) (by decide) (fun _ _ _ _ _ => (dg_nm nd rfl (by first | exact .inl rfl | exact .inr rfl))) (fun _ _ _ _ _ => dts_nil) (fun _ _ _ _ _ => (d_fz (d_tup (da_cons (d_fz (d_ix ix_seq o2_ix (d_var 2) d_int (fun _ _ => rfl))) (da_cons (d_fz (d_if (dt_cmp (op_eqD (hu64 hr)) o2_eq (d_ix ix_seq o2_ix (d_var 2) d_int (fun _ _ => rfl)) d_str (nomark _)) d_str (d_ix ix_seq o2_ix (d_var 2) d_int (fun _ _ => rfl)))) (da_cons (d_fz (d_ix ix_seq o2_ix (d_var 2) d_int (fun _ _ => rfl))) da_nil))))))) da_nil))))
    (ds_one (ds_ret (d_tup (da_cons (d_fz (d_ix ix_seq o2_ix (d_var 0) d_int (fun _ _ => rfl))) (da_cons (d_fz (d_ix ix_seq o2_ix (d_var 0) d_int (fun _ _ => rfl))) (da_cons (d_fz (d_var 1)) da_nil)))))))
end
abbrev s_turned : Stmt := topS 38
abbrev n_turned : List Str := ["row", "told", "number"]
theorem sc_turned : FnScope n_turned ["row"] (defScope s_turned) := ⟨rfl, rfl, rfl, by decide +kernel, rfl, by decide +kernel, by decide +kernel⟩
def f_turned (n : Nat) : FS :=
    (fSeq (fSet 1 (fFz (fN opTuple (fCons (fLc [2] (.nm 2) (fIt (f2 opIx (fVar 0) (fC (.int 0)))) fYes (fFz (f2 opSub (fC (.int 0)) (fVar 2)))) fNil))))
    (fRet (fTup (fCons (fFz (fVar 1)) (fCons (fFz (fIf (fB (f2 opEq (f2 opIx (fVar 0) (fC (.int 1))) (fC (.str "most")))) (fC (.str "less")) (fC (.str "most")))) (fCons (fFz (f2 opSub (fC (.int 0)) (f2 opIx (fVar 0) (fC (.int 2))))) fNil))))))
def fn_turned (n : Nat) : Fn := fnOf 3 (f_turned n)
section
variable {P : Program} {w : World} {K : PySem.W.Frag} {mg : Str → Option Value} {base : Heap}
theorem ok_turned (n : Nat) (z_tuple : mg "tuple" = none) {f : Addr} {fd : FuncData} (F : Fun K "turned" "turned" s_turned f fd) : FnOk P w K mg base CX0 1 f fd ["row"] (spF XO0 K 1 (fn_turned n)) := by
  refine fn_ok F sc_turned rfl rfl fun cdv A outer s H E hr => ?_
  have nd := sc_turned.nd
  exact (ds_cons (ds_set nd rfl (by first | exact .inl rfl | exact .inr rfl) (d_fz (d_callTy call_tuple_of on_tuple (by rfl) z_tuple (by decide +kernel) (da_cons (d_lc rfl nd (di_seq (d_ix ix_seq o2_ix (d_var 0) d_int (fun _ _ => rfl))) (own := [("number", 2)]) (blkOk_by (by kernel_rfl)) (by decide) (fun _ _ _ _ _ => (dg_nm nd rfl (by first | exact .inl rfl | exact .inr rfl))) (fun _ _ _ _ _ => dts_nil) (fun _ _ _ _ _ => (d_fz (d_op or_sub o2_sub d_int (d_var 2))))) da_nil))))
    (ds_one (ds_ret (d_tup (da_cons (d_fz (d_var 1)) (da_cons (d_fz (d_if (dt_cmp (op_eqD (hu64 hr)) o2_eq (d_ix ix_seq o2_ix (d_var 0) d_int (fun _ _ => rfl)) d_str (nomark _)) d_str d_str)) (da_cons (d_fz (d_op or_sub o2_sub d_int (d_ix ix_seq o2_ix (d_var 0) d_int (fun _ _ => rfl)))) da_nil)))))))
end
abbrev s_law_state : Stmt := topS 40
abbrev n_law_state : List Str := ["script", "cells", "cell"]
theorem sc_law_state : FnScope n_law_state ["script"] (defScope s_law_state) := ⟨rfl, rfl, rfl, by decide +kernel, rfl, by decide +kernel, by decide +kernel⟩
section
variable {P : Program} {w : World} {K : PySem.W.Frag} {mg : Str → Option Value} {base : Heap}
theorem ok_law_state (z_abs : mg "abs" = none) (z_len : mg "len" = none) {f : Addr} {fd : FuncData} (F : Fun K "_law_state" "_law_state" s_law_state f fd) : FnOk P w K mg base CX0 1 f fd ["script"] (spState K) := by
  refine F.ok sc_law_state (fun vs H Q E h => by obtain ⟨a, ns, rfl, _⟩ := h; rfl) (fun cdv A outer s H vs Q E hr h => ?_)
  have nd := sc_law_state.nd
  obtain ⟨a, ns, rfl, hS, hl, q⟩ := h
  refine ⟨_, (pss_cons (ps_setLc (i := 1) (own := [("cell", 2)]) (g := gName 2) (tt := tYes) rfl nd rfl rfl (sw_true rfl rfl rfl (by decide +kernel)) (pi_list (pe_slice sl_list (pv 0) po_none (po_some pe_int))) (blkOk_by (by kernel_rfl)) (fun _ _ _ _ _ => pg_name (i := 2) nd rfl (by first | exact .inl rfl | exact .inr rfl)) (fun _ _ _ _ _ => pts_nil) (fun _ _ _ _ _ => pe_callB call_abs (by rfl) z_abs (by decide +kernel) (pa_cons (pv 2) pa_nil)))
    (pss_cons (ps_if (pt_cmpR op_eq (pe_callB call_len (by rfl) z_len (by decide +kernel) (pa_cons (pv 1) pa_nil)) pe_int (nomark _)) (pss_one (ps_set (i := 1) nd rfl (by first | exact .inl rfl | exact .inr rfl) (pe_lst (pa_cons pe_int pa_nil)))) pss_nil)
    (pss_one (ps_ret (pe_lst (pa_cons pe_int (pa_cons (pv 1) pa_nil))))))), ?_⟩
  refine ⟨.ref a, rfl, 63, rfl, a, _, rfl, hS, fun c nc => ?_⟩
  rw [cut63 ns hl]
  have s1 : Same H (upd H c (.lst (ns.map V.int))) := same_upd nc
  refine ⟨c, rfl, ⟨_, .inl (.inl upd_same)⟩, fun D nD => ?_⟩
  have ncD : c ≠ D := fun e => by subst e; rw [upd_same] at nD; cases nD
  have nD0 : H D = none := s1.free nD
  refine lc_list (K := K) (a := c) (xs := ns.map V.int) (fun i H' => Same H H' ∧ H' c = some (.lst (ns.map V.int)) ∧ H' D = some (.lst (((ns.map absI).take i).map V.int))) ⟨s1.trans (same_upd nD), by rw [upd_ne ncD, upd_same], by rw [upd_same]; rfl⟩ (fun i H' _ p => .inl (.inl p.2.1)) (fun i x H' hx p => ?_) (fun H' p => ?_)
  · obtain ⟨sm, h1, h2⟩ := p
    rw [List.getElem?_map] at hx
    cases e : ns[i]? with
    | none => rw [e] at hx; cases hx
    | some z =>
      rw [e] at hx
      cases hx
      refine ⟨rfl, .int z, rfl, z, rfl, _, h2, ?_, ?_, ?_, ?_⟩
      · rw [sizeLine_eq]; simp; omega
      · intro b o e2
        rw [upd_ne (ne_of_none e2 nD0)]; exact sm b o e2
      · rw [upd_ne ncD]; exact h1
      · rw [upd_same, List.take_add_one, List.getElem?_map, e]
        simp [absI]
  · obtain ⟨sm, h1, h2⟩ := p
    have e : (ns.map absI).take (ns.map V.int).length = ns.map absI := List.take_of_length_le (by simp)
    rw [e] at h2
    refine ⟨.ref D, rfl, .ref D, (ns.map absI).length, rfl, .inl ⟨_, .inl (.inl h2), by simp⟩, rfl, _, rfl, ite2 (fun e2 => ?_) (fun e2 => ?_)⟩
    · refine ⟨by show 1 ≤ sizeLine; rw [sizeLine_eq]; decide, fun u nu => ?_⟩
      refine ⟨.ref u, rfl, by show 2 ≤ sizeLine; rw [sizeLine_eq]; decide, fun p np => ?_⟩
      have s3 : Same H (upd H' u (.lst [.int 0])) := sm.trans (same_upd nu)
      have nup : u ≠ p := fun e => by subst e; rw [upd_same] at np; cases np
      exact q p u _ [0] (s3.trans (same_upd np)) (s3.free np) (sm.free nu) (Ne.symm nup) upd_same (by rw [upd_ne nup, upd_same]; rfl) (by simp) (by simp)
    · refine ⟨.ref D, rfl, by show 2 ≤ sizeLine; rw [sizeLine_eq]; decide, fun p np => ?_⟩
      have nDp : D ≠ p := fun e => by subst e; rw [h2] at np; cases np
      refine q p D _ (ns.map absI) (sm.trans (same_upd np)) (sm.free np) nD0 (Ne.symm nDp) upd_same (by rw [upd_ne nDp]; exact h2) (fun e3 => e2 (decide_eq_true (by simp [e3]))) (by simpa using hl)
end

abbrev s_law_take : Stmt := topS 41
abbrev n_law_take : List Str := ["state", "most", "cells", "at", "cell", "mixed"]
theorem sc_law_take : FnScope n_law_take ["state", "most"] (defScope s_law_take) := ⟨rfl, rfl, rfl, by decide +kernel, rfl, by decide +kernel, by decide +kernel⟩
section
variable {P : Program} {w : World} {K : PySem.W.Frag} {mg : Str → Option Value} {base : Heap}
theorem ok_law_take (n : Nat) (z_int : mg "int" = none) (z_len : mg "len" = none) {f : Addr} {fd : FuncData} (F : Fun K "_law_take" "_law_take" s_law_take f fd) : FnOk P w K mg base CX0 1 f fd ["state", "most"] (spF XO0 K 2 (fn_law_take n)) := by
  refine F.ok sc_law_take (fun vs H Q E h => h.1) (fun cdv A outer s H vs Q E hr h => ?_)
  have nd := sc_law_take.nd
  obtain ⟨a, c, Hf, S, most, rfl, wk, po⟩ := take_cases h
  obtain ⟨ac, ha, hc, hz⟩ := id wk.st
  refine ⟨_, (pss_cons (ps_if (pt_cmpR op_lt (pv 1) pe_int (nomark _)) (pss_one (ps_ret pe_int)) pss_nil)
    (pss_cons (ps_set (i := 2) nd rfl (by first | exact .inl rfl | exact .inr rfl) (pe_ix ix_list (pv 0) pe_int (fun _ _ => rfl)))
    (pss_cons (ps_set (i := 3) nd rfl (by first | exact .inl rfl | exact .inr rfl) (pe_op op_modN (pe_callTy call_int1 (by rfl) z_int (by decide +kernel) (pa_cons (pe_ix ix_list (pv 0) pe_int (fun _ _ => rfl)) pa_nil)) (pe_callB call_len (by rfl) z_len (by decide +kernel) (pa_cons (pv 2) pa_nil))))
    (pss_cons (ps_set (i := 4) nd rfl (by first | exact .inl rfl | exact .inr rfl) (pe_ix ix_list (pv 2) (pv 3) (fun _ _ => rfl)))
    (pss_cons (ps_if (pt_cmpR op_ge (pv 4) pe_int (nomark _)) (pss_cons (ps_asg (pe_op op_fdivN (pv 4) (pv 1)) (pg_sub (pv 2) (pv 3) set_list)) (pss_one (ps_ret (pe_op op_modN (pe_callTy call_int1 (by rfl) z_int (by decide +kernel) (pa_cons (pv 4) pa_nil)) (pv 1))))) pss_nil)
    (pss_cons (ps_asg (pe_op op_add (pe_ix ix_list (pv 0) pe_int (fun _ _ => rfl)) pe_int) (pg_sub (pv 0) pe_int set_list))
    (pss_cons (ps_set (i := 5) nd rfl (by first | exact .inl rfl | exact .inr rfl) (pe_op op_modN (pe_callTy call_int1 (by rfl) z_int (by decide +kernel) (pa_cons (pe_op op_add (pe_op op_mul (pv 4) pe_int) (pe_op op_mul (pe_ix ix_list (pv 0) pe_int (fun _ _ => rfl)) pe_int)) pa_nil)) pe_int))
    (pss_cons (ps_set (i := 5) nd rfl (by first | exact .inl rfl | exact .inr rfl) (pe_op op_modN (pe_callTy call_int1 (by rfl) z_int (by decide +kernel) (pa_cons (pe_op op_add (pe_op op_mul (pv 5) pe_int) (pe_op op_mul (pe_ix ix_list (pv 0) pe_int (fun _ _ => rfl)) pe_int)) pa_nil)) pe_int))
    (pss_one (ps_ret (pe_op op_modN (pe_callTy call_int1 (by rfl) z_int (by decide +kernel) (pa_cons (pe_op op_fdivN (pv 5) pe_int) pa_nil)) (pv 1)))))))))))), ?_⟩
  unfold takeF at po
  refine ⟨_, rfl, most, 2, rfl, rfl, _, rfl, ite2 (fun e => ?_) (fun e => ?_)⟩
  · rw [if_pos (of_decide_eq_true e)] at po
    exact po (.int 0) Hf H Gr.refl wk (.int 0)
  · rw [if_neg (fun z => e (decide_eq_true z))] at po
    have hm2 : 2 ≤ most := by
      have z : ¬ most < 2 := fun z => e (decide_eq_true z)
      omega
    split at po
    · rename_i hm
      split at po
      · rename_i cell j e1 e2
        split at po
        · exact po.elim
        · rename_i hl
          have sa : SqL K H a [.int S.pos, .ref c] := .inl (.inl ha)
          have sc : SqL K H c (S.cells.map V.int) := .inl (.inl hc)
          refine ⟨.ref a, rfl, a, _, 1, _, rfl, rfl, sa, atI_nat (j := 1) rfl, .ref a, rfl, a, _, 0, _, rfl, rfl, sa, atI_nat (j := 0) rfl, .inl ⟨S.pos, rfl, .ref c, rfl, .ref c, S.cells.length, rfl, .inl ⟨_, sc, by rw [List.length_map]⟩, S.pos, S.cells.length, rfl, rfl, by omega, .ref c, rfl, .int _, rfl, c, _, _, _, rfl, rfl, sc, map_int_get e1, ?_⟩⟩
          refine ⟨.int cell, rfl, cell, 1000000000000000000, rfl, rfl, _, rfl, ite2 (fun e3 => ?_) (fun e3 => ?_)⟩
          · rw [if_pos (of_decide_eq_true e3)] at po
            refine ⟨.int cell, rfl, .int most, rfl, cell, most, rfl, rfl, ⟨by omega, hm⟩, .ref c, rfl, .int _, rfl, c, _, _, j, rfl, rfl, hc, by rw [List.length_map]; exact e2, ?_⟩
            refine ⟨.int cell, rfl, .inl ⟨cell, rfl, .int most, rfl, cell, most, rfl, rfl, by omega, ?_⟩⟩
            have gw := st_write (S' := ⟨S.pos, S.cells.set j (cell.fdiv most)⟩) (H' := upd H c (.lst ((S.cells.map V.int).set j (.int (cell.fdiv most))))) wk (by rw [upd_ne ac]; exact ha) (by rw [upd_same, List.map_set]) (by simp) (fun b _ h2 => upd_ne h2)
            exact po _ _ _ gw.1 gw.2 (.int _)
          · rw [if_neg (fun z => e3 (decide_eq_true z))] at po
            refine ⟨.ref a, rfl, a, _, 0, _, rfl, rfl, sa, atI_nat (j := 0) rfl, S.pos, 1, rfl, rfl, .ref a, rfl, a, _, 0, 0, rfl, rfl, ha, rfl, ?_⟩
            have ha2 : SqL K (upd H a (.lst [.int (S.pos + 1), .ref c])) a [.int (S.pos + 1), .ref c] := .inl (.inl upd_same)
            refine ⟨.int cell, rfl, cell, 48271, rfl, rfl, .inr ⟨by decide, by decide⟩, .ref a, rfl, a, _, 0, _, rfl, rfl, ha2, atI_nat (j := 0) rfl, S.pos + 1, 69621, rfl, rfl, .inr ⟨by decide, by decide⟩, _, _, rfl, rfl, .inl ⟨_, rfl, _, 2147483647, rfl, rfl, (show (2147483647 : Int) ≠ 0 by decide), ?_⟩⟩
            refine ⟨_, rfl, _, 16807, rfl, rfl, .inr ⟨by decide, by decide⟩, .ref a, rfl, a, _, 0, _, rfl, rfl, ha2, atI_nat (j := 0) rfl, S.pos + 1, 7919, rfl, rfl, .inr ⟨by decide, by decide⟩, _, _, rfl, rfl, .inl ⟨_, rfl, _, 1000000007, rfl, rfl, (show (1000000007 : Int) ≠ 0 by decide), ?_⟩⟩
            refine ⟨_, rfl, _, 7, rfl, rfl, ⟨by decide, by decide⟩, .inl ⟨_, rfl, .int most, rfl, _, most, rfl, rfl, by omega, ?_⟩⟩
            have gw := st_write (S' := ⟨S.pos + 1, S.cells⟩) (H' := upd H a (.lst [.int (S.pos + 1), .ref c])) wk upd_same (by rw [upd_ne (Ne.symm ac)]; exact hc) rfl (fun b h1 _ => upd_ne h1)
            exact po _ _ _ gw.1 gw.2 (.int _)
      · exact po.elim
    · exact po.elim
end

abbrev s_law_pick : Stmt := topS 42
abbrev n_law_pick : List Str := ["state", "row"]
theorem sc_law_pick : FnScope n_law_pick ["state", "row"] (defScope s_law_pick) := ⟨rfl, rfl, rfl, by decide +kernel, rfl, by decide +kernel, by decide +kernel⟩
def f_law_pick (n : Nat) : FS :=
    (fRet (f2 opIx (fVar 1) (fCall 2 (fn_law_take n) (fCons (fFz (fVar 0)) (fCons (fFz (fN opLen (fCons (fVar 1) fNil))) fNil)))))
def fn_law_pick (n : Nat) : Fn := fnOf 2 (f_law_pick n)
section
variable {P : Program} {w : World} {K : PySem.W.Frag} {mg : Str → Option Value} {base : Heap}
theorem ok_law_pick (n : Nat) (z_len : mg "len" = none) (k_law_take : Cal P w K mg base "_law_take" 1 2 (fn_law_take n)) {f : Addr} {fd : FuncData} (F : Fun K "_law_pick" "_law_pick" s_law_pick f fd) : FnOk P w K mg base CX0 2 f fd ["state", "row"] (spF XO0 K 2 (fn_law_pick n)) := by
  refine fn_ok F sc_law_pick rfl rfl fun cdv A outer s H E hr => ?_
  have nd := sc_law_pick.nd
  exact (ds_one (ds_ret (d_ix ix_seq o2_ix (d_var 1) (d_callC k_law_take (hr.mono (by first | decide | (simp only [Nat.add_eq]; omega))) (by rfl) (da_cons (d_fz (d_var 0)) (da_cons (d_fz (d_callB call_len on_len (by rfl) z_len (by decide +kernel) (da_cons (d_var 1) da_nil))) da_nil))) (fun _ _ => rfl))))
end
abbrev s_law_fr : Stmt := topS 43
abbrev n_law_fr : List Str := ["above", "below", "turn", "one", "other"]
theorem sc_law_fr : FnScope n_law_fr ["above", "below"] (defScope s_law_fr) := ⟨rfl, rfl, rfl, by decide +kernel, rfl, by decide +kernel, by decide +kernel⟩
def f_law_fr (n : Nat) : FS :=
    (fSeq (fIfS (fB (f2 opLt (fVar 1) (fC (.int 0))))
    (fPar 0 1 (fCons (fFz (f2 opSub (fC (.int 0)) (fVar 0))) (fCons (fFz (f2 opSub (fC (.int 0)) (fVar 1))) fNil)))
    fNext)
    (fSeq (fPar 3 4 (fCons (fFz (fN opAbs (fCons (fVar 0) fNil))) (fCons (fFz (fVar 1)) fNil)))
    (fSeq (fFor (.nm 2) (fRng rng1 (fCons (fC (.int 4000)) fNil))
    (fSeq (fIfS (fB (f2 opEq (fVar 4) (fC (.int 0))))
    fBrk
    fNext)
    (fPar 3 4 (fCons (fFz (fVar 4)) (fCons (fFz (f2 opMod (fN opInt (fCons (fVar 3) fNil)) (fVar 4))) fNil)))))
    (fRet (fTup (fCons (fFz (f2 opFdiv (fVar 0) (fVar 3))) (fCons (fFz (f2 opFdiv (fVar 1) (fVar 3))) fNil)))))))
def fn_law_fr (n : Nat) : Fn := fnOf 5 (f_law_fr n)
section
variable {P : Program} {w : World} {K : PySem.W.Frag} {mg : Str → Option Value} {base : Heap}
theorem ok_law_fr (n : Nat) (z_abs : mg "abs" = none) (z_int : mg "int" = none) (z_range : mg "range" = none) {f : Addr} {fd : FuncData} (F : Fun K "_law_fr" "_law_fr" s_law_fr f fd) : FnOk P w K mg base CX0 1 f fd ["above", "below"] (spF XO0 K 2 (fn_law_fr n)) := by
  refine fn_ok F sc_law_fr rfl rfl fun cdv A outer s H E hr => ?_
  have nd := sc_law_fr.nd
  exact (ds_cons (ds_if (dt_cmp op_lt o2_cmp (d_var 1) d_int (nomark _))
    (ds_one (ds_par rfl nd rfl rfl (by decide) rfl rfl (da_cons (d_fz (d_op or_sub o2_sub d_int (d_var 0))) (da_cons (d_fz (d_op or_sub o2_sub d_int (d_var 1))) da_nil)) (by rfl)))
    ds_nil)
    (ds_cons (ds_par rfl nd rfl rfl (by decide) rfl rfl (da_cons (d_fz (d_callB call_abs on_abs (by rfl) z_abs (by decide +kernel) (da_cons (d_var 0) da_nil))) (da_cons (d_fz (d_var 1)) da_nil)) (by rfl))
    (ds_cons (ds_for PassesOwn.never rfl (di_rng1 (by rfl) z_range (da_cons d_int da_nil)) (dg_nm nd rfl (by first | exact .inl rfl | exact .inr rfl))
    (ds_cons (ds_if (dt_cmp (op_eqD (hu64 hr)) o2_eq (d_var 4) d_int (nomark _))
    (ds_one ds_break)
    ds_nil)
    (ds_one (ds_par rfl nd rfl rfl (by decide) rfl rfl (da_cons (d_fz (d_var 4)) (da_cons (d_fz (d_op op_modN o2_mod (d_callTy call_int1 on_int (by rfl) z_int (by decide +kernel) (da_cons (d_var 3) da_nil)) (d_var 4))) da_nil)) (by rfl)))))
    (ds_one (ds_ret (d_tup (da_cons (d_fz (d_op or_fdiv o2_fdiv (d_var 0) (d_var 3))) (da_cons (d_fz (d_op or_fdiv o2_fdiv (d_var 1) (d_var 3))) da_nil))))))))
end
abbrev s_law_is_fr : Stmt := topS 44
abbrev n_law_is_fr : List Str := ["value", "n"]
theorem sc_law_is_fr : FnScope n_law_is_fr ["value"] (defScope s_law_is_fr) := ⟨rfl, rfl, rfl, by decide +kernel, rfl, by decide +kernel, by decide +kernel⟩
def f_law_is_fr (n : Nat) : FS :=
    (fSeq (fIfS (fOr (fNot (fTru (fIsi "tuple" (fVar 0)))) (fOr (fB (f2 opNe (fN opLen (fCons (fVar 0) fNil)) (fC (.int 2)))) (fB (f2 opGt (fN opLen (fCons (fLc [1] (.nm 1) (fIt (fVar 0)) (fOr (fNot (fTru (fIsi "int" (fVar 1)))) (fTru (fIsi "bool" (fVar 1)))) (fFz (fVar 1))) fNil)) (fC (.int 0))))))
    (fRet (fC (.bool false)))
    fNext)
    (fRet (fAndV (f2 opGe (f2 opIx (fVar 0) (fC (.int 1))) (fC (.int 1))) (f2 opEq (fCall 2 (fn_law_fr n) (fCons (fFz (f2 opIx (fVar 0) (fC (.int 0)))) (fCons (fFz (f2 opIx (fVar 0) (fC (.int 1)))) fNil))) (fVar 0)))))
def fn_law_is_fr (n : Nat) : Fn := fnOf 2 (f_law_is_fr n)
section
variable {P : Program} {w : World} {K : PySem.W.Frag} {mg : Str → Option Value} {base : Heap}
theorem ok_law_is_fr (n : Nat) (z_bool : mg "bool" = none) (z_int : mg "int" = none) (z_isinstance : mg "isinstance" = none) (z_len : mg "len" = none) (z_tuple : mg "tuple" = none) (k_law_fr : Cal P w K mg base "_law_fr" 1 2 (fn_law_fr n)) {f : Addr} {fd : FuncData} (F : Fun K "_law_is_fr" "_law_is_fr" s_law_is_fr f fd) : FnOk P w K mg base CX0 2 f fd ["value"] (spF XO0 K 1 (fn_law_is_fr n)) := by
  refine fn_ok F sc_law_is_fr rfl rfl fun cdv A outer s H E hr => ?_
  have nd := sc_law_is_fr.nd
  exact (ds_cons (ds_if (DW.dt (dw_or (dt_not (dt_tru (d_isi (by decide) (d_var 0) (by rfl) z_isinstance (by rfl) z_tuple (by decide +kernel)))) (dw_or (dt_cmp (op_neD (hu64 hr)) o2_ne (d_callB call_len on_len (by rfl) z_len (by decide +kernel) (da_cons (d_var 0) da_nil)) d_int (nomark _)) (dw_or1 (dt_cmp op_gt o2_cmp (d_callB call_len on_len (by rfl) z_len (by decide +kernel) (da_cons (d_lc rfl nd (di_seq (d_var 0)) (own := [("n", 1)]) (blkOk_by (by kernel_rfl)) (by decide) (fun _ _ _ _ _ => (dg_nm nd rfl (by first | exact .inl rfl | exact .inr rfl))) (fun _ _ _ _ _ => (dts_one (DW.dt (dw_or (dt_not (dt_tru (d_isi (by decide) (d_var 1) (by rfl) z_isinstance (by rfl) z_int (by decide +kernel)))) (dw_or1 (dt_tru (d_isi (by decide) (d_var 1) (by rfl) z_isinstance (by rfl) z_bool (by decide +kernel)))))))) (fun _ _ _ _ _ => (d_fz (d_var 1)))) da_nil)) d_int (nomark _))))))
    (ds_one (ds_ret d_bl))
    ds_nil)
    (ds_one (ds_ret (d_and (d_cmp op_ge o2_cmp (d_ix ix_seq o2_ix (d_var 0) d_int (fun _ _ => rfl)) d_int (nomark _)) (d_one (d_cmp (op_eqD (hu64 hr)) o2_eq (d_callC k_law_fr (hr.mono (by first | decide | (simp only [Nat.add_eq]; omega))) (by rfl) (da_cons (d_fz (d_ix ix_seq o2_ix (d_var 0) d_int (fun _ _ => rfl))) (da_cons (d_fz (d_ix ix_seq o2_ix (d_var 0) d_int (fun _ _ => rfl))) da_nil))) (d_var 0) (nomark _)))))))
end
abbrev s_law_are_frs : Stmt := topS 45
abbrev n_law_are_frs : List Str := ["value", "many", "each"]
theorem sc_law_are_frs : FnScope n_law_are_frs ["value", "many"] (defScope s_law_are_frs) := ⟨rfl, rfl, rfl, by decide +kernel, rfl, by decide +kernel, by decide +kernel⟩
def f_law_are_frs (n : Nat) : FS :=
    (fRet (fAndV (fIsi "tuple" (fVar 0)) (fAndV (f2 opEq (fN opLen (fCons (fVar 0) fNil)) (fVar 1)) (f2 opEq (fN opLen (fCons (fLc [2] (.nm 2) (fIt (fVar 0)) (fNot (fTru (fCall 1 (fn_law_is_fr n) (fCons (fFz (fVar 2)) fNil)))) (fFz (fVar 2))) fNil)) (fC (.int 0))))))
def fn_law_are_frs (n : Nat) : Fn := fnOf 3 (f_law_are_frs n)
section
variable {P : Program} {w : World} {K : PySem.W.Frag} {mg : Str → Option Value} {base : Heap}
theorem ok_law_are_frs (n : Nat) (z_isinstance : mg "isinstance" = none) (z_len : mg "len" = none) (z_tuple : mg "tuple" = none) (k_law_is_fr : Cal P w K mg base "_law_is_fr" 2 1 (fn_law_is_fr n)) {f : Addr} {fd : FuncData} (F : Fun K "_law_are_frs" "_law_are_frs" s_law_are_frs f fd) : FnOk P w K mg base CX0 3 f fd ["value", "many"] (spF XO0 K 2 (fn_law_are_frs n)) := by
  refine fn_ok F sc_law_are_frs rfl rfl fun cdv A outer s H E hr => ?_
  have nd := sc_law_are_frs.nd
  exact (ds_one (ds_ret (d_and (d_isi (by decide) (d_var 0) (by rfl) z_isinstance (by rfl) z_tuple (by decide +kernel)) (d_and (d_cmp (op_eqD (hu64 hr)) o2_eq (d_callB call_len on_len (by rfl) z_len (by decide +kernel) (da_cons (d_var 0) da_nil)) (d_var 1) (nomark _)) (d_one (d_cmp (op_eqD (hu64 hr)) o2_eq (d_callB call_len on_len (by rfl) z_len (by decide +kernel) (da_cons (d_lc rfl nd (di_seq (d_var 0)) (own := [("each", 2)]) (blkOk_by (by kernel_rfl)) (by decide) (fun _ _ _ _ _ => (dg_nm nd rfl (by first | exact .inl rfl | exact .inr rfl))) (fun _ _ _ _ _ => (dts_one (dt_not (dt_tru (d_callC k_law_is_fr (hr.mono (by first | decide | (simp only [Nat.add_eq]; omega))) (by rfl) (da_cons (d_fz (d_var 2)) da_nil)))))) (fun _ _ _ _ _ => (d_fz (d_var 2)))) da_nil)) d_int (nomark _)))))))
end
abbrev s_law_add : Stmt := topS 46
abbrev n_law_add : List Str := ["one", "other"]
theorem sc_law_add : FnScope n_law_add ["one", "other"] (defScope s_law_add) := ⟨rfl, rfl, rfl, by decide +kernel, rfl, by decide +kernel, by decide +kernel⟩
def f_law_add (n : Nat) : FS :=
    (fRet (fCall 2 (fn_law_fr n) (fCons (fFz (f2 opAdd (f2 opMulI (f2 opIx (fVar 0) (fC (.int 0))) (f2 opIx (fVar 1) (fC (.int 1)))) (f2 opMulI (f2 opIx (fVar 1) (fC (.int 0))) (f2 opIx (fVar 0) (fC (.int 1)))))) (fCons (fFz (f2 opMulI (f2 opIx (fVar 0) (fC (.int 1))) (f2 opIx (fVar 1) (fC (.int 1))))) fNil))))
def fn_law_add (n : Nat) : Fn := fnOf 2 (f_law_add n)
section
variable {P : Program} {w : World} {K : PySem.W.Frag} {mg : Str → Option Value} {base : Heap}
theorem ok_law_add (n : Nat) (k_law_fr : Cal P w K mg base "_law_fr" 1 2 (fn_law_fr n)) {f : Addr} {fd : FuncData} (F : Fun K "_law_add" "_law_add" s_law_add f fd) : FnOk P w K mg base CX0 2 f fd ["one", "other"] (spF XO0 K 2 (fn_law_add n)) := by
  refine fn_ok F sc_law_add rfl rfl fun cdv A outer s H E hr => ?_
  have nd := sc_law_add.nd
  exact (ds_one (ds_ret (d_callC k_law_fr (hr.mono (by first | decide | (simp only [Nat.add_eq]; omega))) (by rfl) (da_cons (d_fz (d_op or_add o2_add (d_op or_mulI o2_mulI (d_ix ix_seq o2_ix (d_var 0) d_int (fun _ _ => rfl)) (d_ix ix_seq o2_ix (d_var 1) d_int (fun _ _ => rfl))) (d_op or_mulI o2_mulI (d_ix ix_seq o2_ix (d_var 1) d_int (fun _ _ => rfl)) (d_ix ix_seq o2_ix (d_var 0) d_int (fun _ _ => rfl))))) (da_cons (d_fz (d_op or_mulI o2_mulI (d_ix ix_seq o2_ix (d_var 0) d_int (fun _ _ => rfl)) (d_ix ix_seq o2_ix (d_var 1) d_int (fun _ _ => rfl)))) da_nil)))))
end
abbrev s_law_mul : Stmt := topS 47
abbrev n_law_mul : List Str := ["one", "other"]
theorem sc_law_mul : FnScope n_law_mul ["one", "other"] (defScope s_law_mul) := ⟨rfl, rfl, rfl, by decide +kernel, rfl, by decide +kernel, by decide +kernel⟩
def f_law_mul (n : Nat) : FS :=
    (fRet (fCall 2 (fn_law_fr n) (fCons (fFz (f2 opMulI (f2 opIx (fVar 0) (fC (.int 0))) (f2 opIx (fVar 1) (fC (.int 0))))) (fCons (fFz (f2 opMulI (f2 opIx (fVar 0) (fC (.int 1))) (f2 opIx (fVar 1) (fC (.int 1))))) fNil))))
def fn_law_mul (n : Nat) : Fn := fnOf 2 (f_law_mul n)
section
variable {P : Program} {w : World} {K : PySem.W.Frag} {mg : Str → Option Value} {base : Heap}
theorem ok_law_mul (n : Nat) (k_law_fr : Cal P w K mg base "_law_fr" 1 2 (fn_law_fr n)) {f : Addr} {fd : FuncData} (F : Fun K "_law_mul" "_law_mul" s_law_mul f fd) : FnOk P w K mg base CX0 2 f fd ["one", "other"] (spF XO0 K 2 (fn_law_mul n)) := by
  refine fn_ok F sc_law_mul rfl rfl fun cdv A outer s H E hr => ?_
  have nd := sc_law_mul.nd
  exact (ds_one (ds_ret (d_callC k_law_fr (hr.mono (by first | decide | (simp only [Nat.add_eq]; omega))) (by rfl) (da_cons (d_fz (d_op or_mulI o2_mulI (d_ix ix_seq o2_ix (d_var 0) d_int (fun _ _ => rfl)) (d_ix ix_seq o2_ix (d_var 1) d_int (fun _ _ => rfl)))) (da_cons (d_fz (d_op or_mulI o2_mulI (d_ix ix_seq o2_ix (d_var 0) d_int (fun _ _ => rfl)) (d_ix ix_seq o2_ix (d_var 1) d_int (fun _ _ => rfl)))) da_nil)))))
end
abbrev s_law_sub : Stmt := topS 48
abbrev n_law_sub : List Str := ["one", "other"]
theorem sc_law_sub : FnScope n_law_sub ["one", "other"] (defScope s_law_sub) := ⟨rfl, rfl, rfl, by decide +kernel, rfl, by decide +kernel, by decide +kernel⟩
def f_law_sub (n : Nat) : FS :=
    (fRet (fCall 2 (fn_law_add n) (fCons (fFz (fVar 0)) (fCons (fFz (fTup (fCons (fFz (f2 opSub (fC (.int 0)) (f2 opIx (fVar 1) (fC (.int 0))))) (fCons (fFz (f2 opIx (fVar 1) (fC (.int 1)))) fNil)))) fNil))))
def fn_law_sub (n : Nat) : Fn := fnOf 2 (f_law_sub n)
section
variable {P : Program} {w : World} {K : PySem.W.Frag} {mg : Str → Option Value} {base : Heap}
theorem ok_law_sub (n : Nat) (k_law_add : Cal P w K mg base "_law_add" 2 2 (fn_law_add n)) {f : Addr} {fd : FuncData} (F : Fun K "_law_sub" "_law_sub" s_law_sub f fd) : FnOk P w K mg base CX0 3 f fd ["one", "other"] (spF XO0 K 2 (fn_law_sub n)) := by
  refine fn_ok F sc_law_sub rfl rfl fun cdv A outer s H E hr => ?_
  have nd := sc_law_sub.nd
  exact (ds_one (ds_ret (d_callC k_law_add (hr.mono (by first | decide | (simp only [Nat.add_eq]; omega))) (by rfl) (da_cons (d_fz (d_var 0)) (da_cons (d_fz (d_tup (da_cons (d_fz (d_op or_sub o2_sub d_int (d_ix ix_seq o2_ix (d_var 1) d_int (fun _ _ => rfl)))) (da_cons (d_fz (d_ix ix_seq o2_ix (d_var 1) d_int (fun _ _ => rfl))) da_nil)))) da_nil)))))
end
abbrev s_law_sign : Stmt := topS 49
abbrev n_law_sign : List Str := ["one", "other", "gap"]
theorem sc_law_sign : FnScope n_law_sign ["one", "other"] (defScope s_law_sign) := ⟨rfl, rfl, rfl, by decide +kernel, rfl, by decide +kernel, by decide +kernel⟩
def f_law_sign (n : Nat) : FS :=
    (fSeq (fSet 2 (fFz (f2 opSub (f2 opMulI (f2 opIx (fVar 0) (fC (.int 0))) (f2 opIx (fVar 1) (fC (.int 1)))) (f2 opMulI (f2 opIx (fVar 1) (fC (.int 0))) (f2 opIx (fVar 0) (fC (.int 1)))))))
    (fRet (fIf (fB (f2 opEq (fVar 2) (fC (.int 0)))) (fC (.int 0)) (fIf (fB (f2 opGt (fVar 2) (fC (.int 0)))) (fC (.int 1)) (f1 opNeg (fC (.int 1)))))))
def fn_law_sign (n : Nat) : Fn := fnOf 3 (f_law_sign n)
section
variable {P : Program} {w : World} {K : PySem.W.Frag} {mg : Str → Option Value} {base : Heap}
theorem ok_law_sign (n : Nat) {f : Addr} {fd : FuncData} (F : Fun K "_law_sign" "_law_sign" s_law_sign f fd) : FnOk P w K mg base CX0 1 f fd ["one", "other"] (spF XO0 K 2 (fn_law_sign n)) := by
  refine fn_ok F sc_law_sign rfl rfl fun cdv A outer s H E hr => ?_
  have nd := sc_law_sign.nd
  exact (ds_cons (ds_set nd rfl (by first | exact .inl rfl | exact .inr rfl) (d_fz (d_op or_sub o2_sub (d_op or_mulI o2_mulI (d_ix ix_seq o2_ix (d_var 0) d_int (fun _ _ => rfl)) (d_ix ix_seq o2_ix (d_var 1) d_int (fun _ _ => rfl))) (d_op or_mulI o2_mulI (d_ix ix_seq o2_ix (d_var 1) d_int (fun _ _ => rfl)) (d_ix ix_seq o2_ix (d_var 0) d_int (fun _ _ => rfl))))))
    (ds_one (ds_ret (d_if (dt_cmp (op_eqD (hu64 hr)) o2_eq (d_var 2) d_int (nomark _)) d_int (d_if (dt_cmp op_gt o2_cmp (d_var 2) d_int (nomark _)) d_int (d_un un_neg o1_neg d_int))))))
end
abbrev s_law_at : Stmt := topS 50
abbrev n_law_at : List Str := ["numbers", "point", "found", "k"]
theorem sc_law_at : FnScope n_law_at ["numbers", "point"] (defScope s_law_at) := ⟨rfl, rfl, rfl, by decide +kernel, rfl, by decide +kernel, by decide +kernel⟩
def f_law_at (n : Nat) : FS :=
    (fSeq (fSet 2 (fFz (fTup (fCons (fC (.int 0)) (fCons (fC (.int 1)) fNil)))))
    (fSeq (fFor (.nm 3) (fRng rng1 (fCons (fN opLen (fCons (fVar 0) fNil)) fNil))
    (fSet 2 (fFz (fCall 2 (fn_law_add n) (fCons (fFz (fVar 2)) (fCons (fFz (fTup (fCons (fFz (f2 opMulI (f2 opIx (fVar 0) (fVar 3)) (f2 opIx (f2 opIx (fVar 1) (fVar 3)) (fC (.int 0))))) (fCons (fFz (f2 opIx (f2 opIx (fVar 1) (fVar 3)) (fC (.int 1)))) fNil)))) fNil))))))
    (fRet (fCall 2 (fn_law_fr n) (fCons (fFz (f2 opIx (fVar 2) (fC (.int 0)))) (fCons (fFz (f2 opIx (fVar 2) (fC (.int 1)))) fNil))))))
def fn_law_at (n : Nat) : Fn := fnOf 4 (f_law_at n)
section
variable {P : Program} {w : World} {K : PySem.W.Frag} {mg : Str → Option Value} {base : Heap}
theorem ok_law_at (n : Nat) (z_len : mg "len" = none) (z_range : mg "range" = none) (k_law_add : Cal P w K mg base "_law_add" 2 2 (fn_law_add n)) (k_law_fr : Cal P w K mg base "_law_fr" 1 2 (fn_law_fr n)) {f : Addr} {fd : FuncData} (F : Fun K "_law_at" "_law_at" s_law_at f fd) : FnOk P w K mg base CX0 3 f fd ["numbers", "point"] (spF XO0 K 2 (fn_law_at n)) := by
  refine fn_ok F sc_law_at rfl rfl fun cdv A outer s H E hr => ?_
  have nd := sc_law_at.nd
  exact (ds_cons (ds_set nd rfl (by first | exact .inl rfl | exact .inr rfl) (d_fz (d_tup (da_cons d_int (da_cons d_int da_nil)))))
    (ds_cons (ds_for PassesOwn.never rfl (di_rng1 (by rfl) z_range (da_cons (d_callB call_len on_len (by rfl) z_len (by decide +kernel) (da_cons (d_var 0) da_nil)) da_nil)) (dg_nm nd rfl (by first | exact .inl rfl | exact .inr rfl))
    (ds_one (ds_set nd rfl (by first | exact .inl rfl | exact .inr rfl) (d_fz (d_callC k_law_add (hr.mono (by first | decide | (simp only [Nat.add_eq]; omega))) (by rfl) (da_cons (d_fz (d_var 2)) (da_cons (d_fz (d_tup (da_cons (d_fz (d_op or_mulI o2_mulI (d_ix ix_seq o2_ix (d_var 0) (d_var 3) (fun _ _ => rfl)) (d_ix ix_seq o2_ix (d_ix ix_seq o2_ix (d_var 1) (d_var 3) (fun _ _ => rfl)) d_int (fun _ _ => rfl)))) (da_cons (d_fz (d_ix ix_seq o2_ix (d_ix ix_seq o2_ix (d_var 1) (d_var 3) (fun _ _ => rfl)) d_int (fun _ _ => rfl))) da_nil)))) da_nil)))))))
    (ds_one (ds_ret (d_callC k_law_fr (hr.mono (by first | decide | (simp only [Nat.add_eq]; omega))) (by rfl) (da_cons (d_fz (d_ix ix_seq o2_ix (d_var 2) d_int (fun _ _ => rfl))) (da_cons (d_fz (d_ix ix_seq o2_ix (d_var 2) d_int (fun _ _ => rfl))) da_nil)))))))
end
abbrev s_law_system : Stmt := topS 51
abbrev n_law_system : List Str := ["state", "most", "rows", "closed", "many", "found", "turn", "top", "seed", "numbers", "kind", "near", "gap", "k"]
theorem sc_law_system : FnScope n_law_system ["state", "most", "rows", "closed"] (defScope s_law_system) := ⟨rfl, rfl, rfl, by decide +kernel, rfl, by decide +kernel, by decide +kernel⟩
def f_law_system (n : Nat) : FS :=
    (fSeq (fSet 4 (fFz (f2 opAdd (fC (.int 1)) (fCall 2 (fn_law_take n) (fCons (fFz (fVar 0)) (fCons (fFz (fVar 1)) fNil))))))
    (fSeq (fSetT (.tp [7, 8]) (fTup (fCons (fFz (fCall 2 (fn_law_pick n) (fCons (fFz (fVar 0)) (fCons (fFz (fLst (fCons (fC (.int 1)) (fCons (fC (.int 2)) (fCons (fC (.int 5)) fNil))))) fNil)))) (fCons (fFz (fLc [13] (.nm 13) (fRng rng1 (fCons (fC (.int 8)) fNil)) fYes (fFz (f2 opSub (fCall 2 (fn_law_take n) (fCons (fFz (fVar 0)) (fCons (fC (.int 9)) fNil))) (fC (.int 4)))))) fNil))))
    (fSeq (fSet 5 (fLst fNil))
    (fSeq (fFor (.nm 6) (fRng rng1 (fCons (fCall 2 (fn_law_take n) (fCons (fFz (fVar 0)) (fCons (fFz (f2 opAdd (fVar 2) (fC (.int 1)))) fNil))) fNil))
    (fSeq (fSet 9 (fFz (fN opTuple (fCons (fLc [13] (.nm 13) (fRng rng1 (fCons (fVar 4) fNil)) fYes (fFz (f2 opSub (fCall 2 (fn_law_take n) (fCons (fFz (fVar 0)) (fCons (fFz (f2 opAdd (f2 opMulI (fC (.int 2)) (fVar 7)) (fC (.int 1)))) fNil))) (fVar 7)))) fNil))))
    (fSeq (fSet 10 (fFz (fCall 2 (fn_law_pick n) (fCons (fFz (fVar 0)) (fCons (fFz (fIf (fTru (fVar 3)) (fLst (fCons (fC (.str "most")) (fCons (fC (.str "most")) (fCons (fC (.str "most")) (fCons (fC (.str "just")) fNil))))) (fLst (fCons (fC (.str "most")) (fCons (fC (.str "most")) (fCons (fC (.str "less")) (fCons (fC (.str "just")) fNil))))))) fNil)))))
    (fSeq (fSet 11 (fFz (fN opSum (fCons (fLc [13] (.nm 13) (fRng rng1 (fCons (fVar 4) fNil)) fYes (fFz (f2 opMulI (f2 opIx (fVar 9) (fVar 13)) (f2 opIx (fVar 8) (fVar 13))))) fNil))))
    (fSeq (fSet 12 (fFz (fIf (fAnd (fB (f2 opEq (fVar 10) (fC (.str "just")))) (fB (f2 opGt (fCall 2 (fn_law_take n) (fCons (fFz (fVar 0)) (fCons (fC (.int 4)) fNil))) (fC (.int 0))))) (fC (.int 0)) (fCall 2 (fn_law_pick n) (fCons (fFz (fVar 0)) (fCons (fFz (fLst (fCons (fC (.int 0)) (fCons (fC (.int 1)) (fCons (fC (.int 2)) (fCons (fC (.int 5)) (fCons (fFz (f1 opNeg (fC (.int 1)))) fNil))))))) fNil))))))
    (fM1 5 opApp (fFz (fTup (fCons (fFz (fVar 9)) (fCons (fFz (fVar 10)) (fCons (fFz (f2 opAdd (fVar 11) (fVar 12))) fNil)))))))))))
    (fRet (fTup (fCons (fC (.str "rows")) (fCons (fFz (fVar 4)) (fCons (fFz (fN opTuple (fCons (fVar 5) fNil))) fNil)))))))))
def fn_law_system (n : Nat) : Fn := fnOf 14 (f_law_system n)
section
variable {P : Program} {w : World} {K : PySem.W.Frag} {mg : Str → Option Value} {base : Heap}
theorem ok_law_system (n : Nat) (z_range : mg "range" = none) (z_sum : mg "sum" = none) (z_tuple : mg "tuple" = none) (k_law_pick : Cal P w K mg base "_law_pick" 2 2 (fn_law_pick n)) (k_law_take : Cal P w K mg base "_law_take" 1 2 (fn_law_take n)) {f : Addr} {fd : FuncData} (F : Fun K "_law_system" "_law_system" s_law_system f fd) : FnOk P w K mg base CX0 3 f fd ["state", "most", "rows", "closed"] (spF XO0 K 4 (fn_law_system n)) := by
  refine fn_ok F sc_law_system rfl rfl fun cdv A outer s H E hr => ?_
  have nd := sc_law_system.nd
  exact (ds_cons (ds_set nd rfl (by first | exact .inl rfl | exact .inr rfl) (d_fz (d_op or_add o2_add d_int (d_callC k_law_take (hr.mono (by first | decide | (simp only [Nat.add_eq]; omega))) (by rfl) (da_cons (d_fz (d_var 0)) (da_cons (d_fz (d_var 1)) da_nil))))))
    (ds_cons (ds_setT (d_tup (da_cons (d_fz (d_callC k_law_pick (hr.mono (by first | decide | (simp only [Nat.add_eq]; omega))) (by rfl) (da_cons (d_fz (d_var 0)) (da_cons (d_fz (d_lst (da_cons d_int (da_cons d_int (da_cons d_int da_nil))))) da_nil)))) (da_cons (d_fz (d_lc rfl nd (di_rng1 (by rfl) z_range (da_cons d_int da_nil)) (own := [("k", 13)]) (blkOk_by (by kernel_rfl)) (by decide) (fun _ _ _ _ _ => (dg_nm nd rfl (by first | exact .inl rfl | exact .inr rfl))) (fun _ _ _ _ _ => dts_nil) (fun _ _ _ _ _ => (d_fz (d_op or_sub o2_sub (d_callC k_law_take (hr.mono (by first | decide | (simp only [Nat.add_eq]; omega))) (by rfl) (da_cons (d_fz (d_var 0)) (da_cons d_int da_nil))) d_int))))) da_nil))) (dg_tp rfl (pgs_cons (pg_name (i := 7) nd rfl (by first | exact .inl rfl | exact .inr rfl)) (pgs_cons (pg_name (i := 8) nd rfl (by first | exact .inl rfl | exact .inr rfl)) pgs_nil))))
    (ds_cons (ds_set nd rfl (by first | exact .inl rfl | exact .inr rfl) (d_lst da_nil))
    (ds_cons (ds_for PassesOwn.never rfl (di_rng1 (by rfl) z_range (da_cons (d_callC k_law_take (hr.mono (by first | decide | (simp only [Nat.add_eq]; omega))) (by rfl) (da_cons (d_fz (d_var 0)) (da_cons (d_fz (d_op or_add o2_add (d_var 2) d_int)) da_nil))) da_nil)) (dg_nm nd rfl (by first | exact .inl rfl | exact .inr rfl))
    (ds_cons (ds_set nd rfl (by first | exact .inl rfl | exact .inr rfl) (d_fz (d_callTy call_tuple_of on_tuple (by rfl) z_tuple (by decide +kernel) (da_cons (d_lc rfl nd (di_rng1 (by rfl) z_range (da_cons (d_var 4) da_nil)) (own := [("k", 13)]) (blkOk_by (by kernel_rfl)) (by decide) (fun _ _ _ _ _ => (dg_nm nd rfl (by first | exact .inl rfl | exact .inr rfl))) (fun _ _ _ _ _ => dts_nil) (fun _ _ _ _ _ => (d_fz (d_op or_sub o2_sub (d_callC k_law_take (hr.mono (by first | decide | (simp only [Nat.add_eq]; omega))) (by rfl) (da_cons (d_fz (d_var 0)) (da_cons (d_fz (d_op or_add o2_add (d_op or_mulI o2_mulI d_int (d_var 7)) d_int)) da_nil))) (d_var 7))))) da_nil))))
    (ds_cons (ds_set nd rfl (by first | exact .inl rfl | exact .inr rfl) (d_fz (d_callC k_law_pick (hr.mono (by first | decide | (simp only [Nat.add_eq]; omega))) (by rfl) (da_cons (d_fz (d_var 0)) (da_cons (d_fz (d_if (dt_tru (d_var 3)) (d_lst (da_cons d_str (da_cons d_str (da_cons d_str (da_cons d_str da_nil))))) (d_lst (da_cons d_str (da_cons d_str (da_cons d_str (da_cons d_str da_nil))))))) da_nil)))))
    (ds_cons (ds_set nd rfl (by first | exact .inl rfl | exact .inr rfl) (d_fz (d_callB (or_sum rfl) on_sum (by rfl) z_sum (by decide +kernel) (da_cons (d_lc rfl nd (di_rng1 (by rfl) z_range (da_cons (d_var 4) da_nil)) (own := [("k", 13)]) (blkOk_by (by kernel_rfl)) (by decide) (fun _ _ _ _ _ => (dg_nm nd rfl (by first | exact .inl rfl | exact .inr rfl))) (fun _ _ _ _ _ => dts_nil) (fun _ _ _ _ _ => (d_fz (d_op or_mulI o2_mulI (d_ix ix_seq o2_ix (d_var 9) (d_var 13) (fun _ _ => rfl)) (d_ix ix_seq o2_ix (d_var 8) (d_var 13) (fun _ _ => rfl)))))) da_nil))))
    (ds_cons (ds_set nd rfl (by first | exact .inl rfl | exact .inr rfl) (d_fz (d_if (DW.dt (dw_and (dt_cmp (op_eqD (hu64 hr)) o2_eq (d_var 10) d_str (nomark _)) (dw_and1 (dt_cmp op_gt o2_cmp (d_callC k_law_take (hr.mono (by first | decide | (simp only [Nat.add_eq]; omega))) (by rfl) (da_cons (d_fz (d_var 0)) (da_cons d_int da_nil))) d_int (nomark _))))) d_int (d_callC k_law_pick (hr.mono (by first | decide | (simp only [Nat.add_eq]; omega))) (by rfl) (da_cons (d_fz (d_var 0)) (da_cons (d_fz (d_lst (da_cons d_int (da_cons d_int (da_cons d_int (da_cons d_int (da_cons (d_fz (d_un un_neg o1_neg d_int)) da_nil))))))) da_nil))))))
    (ds_one (ds_m1 PySem.F.slot_list_append PySem.F.type_list_append mt_append mo_app rfl (by first | exact .inl rfl | exact .inr (.inl rfl)) (d_fz (d_tup (da_cons (d_fz (d_var 9)) (da_cons (d_fz (d_var 10)) (da_cons (d_fz (d_op or_add o2_add (d_var 11) (d_var 12))) da_nil))))))))))))
    (ds_one (ds_ret (d_tup (da_cons d_str (da_cons (d_fz (d_var 4)) (da_cons (d_fz (d_callTy call_tuple_of on_tuple (by rfl) z_tuple (by decide +kernel) (da_cons (d_var 5) da_nil))) da_nil))))))))))
end
abbrev s_law_keeps : Stmt := topS 52
abbrev n_law_keeps : List Str := ["system", "point", "numbers", "kind", "bound", "sign"]
theorem sc_law_keeps : FnScope n_law_keeps ["system", "point"] (defScope s_law_keeps) := ⟨rfl, rfl, rfl, by decide +kernel, rfl, by decide +kernel, by decide +kernel⟩
def f_law_keeps (n : Nat) : FS :=
    (fSeq (fFor (.tp [2, 3, 4]) (fIt (f2 opIx (fVar 0) (fC (.int 2))))
    (fSeq (fSet 5 (fFz (fCall 2 (fn_law_sign n) (fCons (fFz (fCall 2 (fn_law_at n) (fCons (fFz (fVar 2)) (fCons (fFz (fVar 1)) fNil)))) (fCons (fFz (fTup (fCons (fFz (fVar 4)) (fCons (fC (.int 1)) fNil)))) fNil)))))
    (fIfS (fOr (fB (f2 opGt (fVar 5) (fC (.int 0)))) (fOr (fAnd (fB (f2 opEq (fVar 5) (fC (.int 0)))) (fB (f2 opEq (fVar 3) (fC (.str "less"))))) (fAnd (fB (f2 opLt (fVar 5) (fC (.int 0)))) (fB (f2 opEq (fVar 3) (fC (.str "just")))))))
    (fRet (fC (.bool false)))
    fNext)))
    (fRet (fC (.bool true))))
def fn_law_keeps (n : Nat) : Fn := fnOf 6 (f_law_keeps n)
section
variable {P : Program} {w : World} {K : PySem.W.Frag} {mg : Str → Option Value} {base : Heap}
theorem ok_law_keeps (n : Nat) (k_law_at : Cal P w K mg base "_law_at" 3 2 (fn_law_at n)) (k_law_sign : Cal P w K mg base "_law_sign" 1 2 (fn_law_sign n)) {f : Addr} {fd : FuncData} (F : Fun K "_law_keeps" "_law_keeps" s_law_keeps f fd) : FnOk P w K mg base CX0 4 f fd ["system", "point"] (spF XO0 K 2 (fn_law_keeps n)) := by
  refine fn_ok F sc_law_keeps rfl rfl fun cdv A outer s H E hr => ?_
  have nd := sc_law_keeps.nd
  exact (ds_cons (ds_for PassesOwn.never rfl (di_seq (d_ix ix_seq o2_ix (d_var 0) d_int (fun _ _ => rfl))) (dg_tp rfl (pgs_cons (pg_name (i := 2) nd rfl (by first | exact .inl rfl | exact .inr rfl)) (pgs_cons (pg_name (i := 3) nd rfl (by first | exact .inl rfl | exact .inr rfl)) (pgs_cons (pg_name (i := 4) nd rfl (by first | exact .inl rfl | exact .inr rfl)) pgs_nil))))
    (ds_cons (ds_set nd rfl (by first | exact .inl rfl | exact .inr rfl) (d_fz (d_callC k_law_sign (hr.mono (by first | decide | (simp only [Nat.add_eq]; omega))) (by rfl) (da_cons (d_fz (d_callC k_law_at (hr.mono (by first | decide | (simp only [Nat.add_eq]; omega))) (by rfl) (da_cons (d_fz (d_var 2)) (da_cons (d_fz (d_var 1)) da_nil)))) (da_cons (d_fz (d_tup (da_cons (d_fz (d_var 4)) (da_cons d_int da_nil)))) da_nil)))))
    (ds_one (ds_if (DW.dt (dw_or (dt_cmp op_gt o2_cmp (d_var 5) d_int (nomark _)) (dw_or (DW.dt (dw_and (dt_cmp (op_eqD (hu64 hr)) o2_eq (d_var 5) d_int (nomark _)) (dw_and1 (dt_cmp (op_eqD (hu64 hr)) o2_eq (d_var 3) d_str (nomark _))))) (dw_or1 (DW.dt (dw_and (dt_cmp op_lt o2_cmp (d_var 5) d_int (nomark _)) (dw_and1 (dt_cmp (op_eqD (hu64 hr)) o2_eq (d_var 3) d_str (nomark _)))))))))
    (ds_one (ds_ret d_bl))
    ds_nil))))
    (ds_one (ds_ret d_bl)))
end
abbrev s_law_weigh : Stmt := topS 53
abbrev n_law_weigh : List Str := ["system", "weights", "k", "found", "bound", "less", "numbers", "kind", "end", "j"]
theorem sc_law_weigh : FnScope n_law_weigh ["system", "weights"] (defScope s_law_weigh) := ⟨rfl, rfl, rfl, by decide +kernel, rfl, by decide +kernel, by decide +kernel⟩
def f_law_weigh (n : Nat) : FS :=
    (fSeq (fSetT (.tp [3, 4, 5]) (fTup (fCons (fFz (f2 opRep (fLst (fCons (fFz (fTup (fCons (fC (.int 0)) (fCons (fC (.int 1)) fNil)))) fNil)) (f2 opIx (fVar 0) (fC (.int 1))))) (fCons (fFz (fTup (fCons (fC (.int 0)) (fCons (fC (.int 1)) fNil)))) (fCons (fC (.bool false)) fNil)))))
    (fSeq (fFor (.nm 2) (fRng rng1 (fCons (fN opLen (fCons (f2 opIx (fVar 0) (fC (.int 2))) fNil)) fNil))
    (fSeq (fSetT (.tp [6, 7, 8]) (f2 opIx (f2 opIx (fVar 0) (fC (.int 2))) (fVar 2)))
    (fSeq (fSet 3 (fFz (fLc [9] (.nm 9) (fRng rng1 (fCons (f2 opIx (fVar 0) (fC (.int 1))) fNil)) fYes (fFz (fCall 2 (fn_law_add n) (fCons (fFz (f2 opIx (fVar 3) (fVar 9))) (fCons (fFz (fCall 2 (fn_law_mul n) (fCons (fFz (f2 opIx (fVar 1) (fVar 2))) (fCons (fFz (fTup (fCons (fFz (f2 opIx (fVar 6) (fVar 9))) (fCons (fC (.int 1)) fNil)))) fNil)))) fNil)))))))
    (fSeq (fSet 4 (fFz (fCall 2 (fn_law_add n) (fCons (fFz (fVar 4)) (fCons (fFz (fCall 2 (fn_law_mul n) (fCons (fFz (f2 opIx (fVar 1) (fVar 2))) (fCons (fFz (fTup (fCons (fFz (fVar 8)) (fCons (fC (.int 1)) fNil)))) fNil)))) fNil)))))
    (fSet 5 (fFz (fOrV (fVar 5) (fAndV (f2 opEq (fVar 7) (fC (.str "less"))) (f2 opGt (f2 opIx (f2 opIx (fVar 1) (fVar 2)) (fC (.int 0))) (fC (.int 0)))))))))))
    (fRet (fTup (fCons (fFz (fVar 3)) (fCons (fFz (fVar 4)) (fCons (fFz (fVar 5)) fNil)))))))
def fn_law_weigh (n : Nat) : Fn := fnOf 10 (f_law_weigh n)
section
variable {P : Program} {w : World} {K : PySem.W.Frag} {mg : Str → Option Value} {base : Heap}
theorem ok_law_weigh (n : Nat) (z_len : mg "len" = none) (z_range : mg "range" = none) (k_law_add : Cal P w K mg base "_law_add" 2 2 (fn_law_add n)) (k_law_mul : Cal P w K mg base "_law_mul" 2 2 (fn_law_mul n)) {f : Addr} {fd : FuncData} (F : Fun K "_law_weigh" "_law_weigh" s_law_weigh f fd) : FnOk P w K mg base CX0 3 f fd ["system", "weights"] (spF XO0 K 2 (fn_law_weigh n)) := by
  refine fn_ok F sc_law_weigh rfl rfl fun cdv A outer s H E hr => ?_
  have nd := sc_law_weigh.nd
  exact (ds_cons (ds_setT (d_tup (da_cons (d_fz (d_op op_rep o2_rep (d_lst (da_cons (d_fz (d_tup (da_cons d_int (da_cons d_int da_nil)))) da_nil)) (d_ix ix_seq o2_ix (d_var 0) d_int (fun _ _ => rfl)))) (da_cons (d_fz (d_tup (da_cons d_int (da_cons d_int da_nil)))) (da_cons d_bl da_nil)))) (dg_tp rfl (pgs_cons (pg_name (i := 3) nd rfl (by first | exact .inl rfl | exact .inr rfl)) (pgs_cons (pg_name (i := 4) nd rfl (by first | exact .inl rfl | exact .inr rfl)) (pgs_cons (pg_name (i := 5) nd rfl (by first | exact .inl rfl | exact .inr rfl)) pgs_nil)))))
    (ds_cons (ds_for PassesOwn.never rfl (di_rng1 (by rfl) z_range (da_cons (d_callB call_len on_len (by rfl) z_len (by decide +kernel) (da_cons (d_ix ix_seq o2_ix (d_var 0) d_int (fun _ _ => rfl)) da_nil)) da_nil)) (dg_nm nd rfl (by first | exact .inl rfl | exact .inr rfl))
    (ds_cons (ds_setT (d_ix ix_seq o2_ix (d_ix ix_seq o2_ix (d_var 0) d_int (fun _ _ => rfl)) (d_var 2) (fun _ _ => rfl)) (dg_tp rfl (pgs_cons (pg_name (i := 6) nd rfl (by first | exact .inl rfl | exact .inr rfl)) (pgs_cons (pg_name (i := 7) nd rfl (by first | exact .inl rfl | exact .inr rfl)) (pgs_cons (pg_name (i := 8) nd rfl (by first | exact .inl rfl | exact .inr rfl)) pgs_nil)))))
    (ds_cons (ds_set nd rfl (by first | exact .inl rfl | exact .inr rfl) (d_fz (d_lc rfl nd (di_rng1 (by rfl) z_range (da_cons (d_ix ix_seq o2_ix (d_var 0) d_int (fun _ _ => rfl)) da_nil)) (own := [("j", 9)]) (blkOk_by (by kernel_rfl)) (by decide) (fun _ _ _ _ _ => (dg_nm nd rfl (by first | exact .inl rfl | exact .inr rfl))) (fun _ _ _ _ _ => dts_nil) (fun _ _ _ _ _ => (d_fz (d_callC k_law_add (hr.mono (by first | decide | (simp only [Nat.add_eq]; omega))) (by rfl) (da_cons (d_fz (d_ix ix_seq o2_ix (d_var 3) (d_var 9) (fun _ _ => rfl))) (da_cons (d_fz (d_callC k_law_mul (hr.mono (by first | decide | (simp only [Nat.add_eq]; omega))) (by rfl) (da_cons (d_fz (d_ix ix_seq o2_ix (d_var 1) (d_var 2) (fun _ _ => rfl))) (da_cons (d_fz (d_tup (da_cons (d_fz (d_ix ix_seq o2_ix (d_var 6) (d_var 9) (fun _ _ => rfl))) (da_cons d_int da_nil)))) da_nil)))) da_nil))))))))
    (ds_cons (ds_set nd rfl (by first | exact .inl rfl | exact .inr rfl) (d_fz (d_callC k_law_add (hr.mono (by first | decide | (simp only [Nat.add_eq]; omega))) (by rfl) (da_cons (d_fz (d_var 4)) (da_cons (d_fz (d_callC k_law_mul (hr.mono (by first | decide | (simp only [Nat.add_eq]; omega))) (by rfl) (da_cons (d_fz (d_ix ix_seq o2_ix (d_var 1) (d_var 2) (fun _ _ => rfl))) (da_cons (d_fz (d_tup (da_cons (d_fz (d_var 8)) (da_cons d_int da_nil)))) da_nil)))) da_nil)))))
    (ds_one (ds_set nd rfl (by first | exact .inl rfl | exact .inr rfl) (d_fz (d_or (d_var 5) (d_one (d_and (d_cmp (op_eqD (hu64 hr)) o2_eq (d_var 7) d_str (nomark _)) (d_one (d_cmp op_gt o2_cmp (d_ix ix_seq o2_ix (d_ix ix_seq o2_ix (d_var 1) (d_var 2) (fun _ _ => rfl)) d_int (fun _ _ => rfl)) d_int (nomark _)))))))))))))
    (ds_one (ds_ret (d_tup (da_cons (d_fz (d_var 3)) (da_cons (d_fz (d_var 4)) (da_cons (d_fz (d_var 5)) da_nil))))))))
end
abbrev s_law_weights : Stmt := topS 54
abbrev n_law_weights : List Str := ["system", "value", "k"]
theorem sc_law_weights : FnScope n_law_weights ["system", "value"] (defScope s_law_weights) := ⟨rfl, rfl, rfl, by decide +kernel, rfl, by decide +kernel, by decide +kernel⟩
def f_law_weights (n : Nat) : FS :=
    (fSeq (fIfS (fNot (fTru (fCall 2 (fn_law_are_frs n) (fCons (fFz (fVar 1)) (fCons (fFz (fN opLen (fCons (f2 opIx (fVar 0) (fC (.int 2))) fNil))) fNil)))))
    (fRet (fC (.bool false)))
    fNext)
    (fRet (f2 opEq (fN opLen (fCons (fLc [2] (.nm 2) (fRng rng1 (fCons (fN opLen (fCons (fVar 1) fNil)) fNil)) (fAnd (fB (f2 opNe (f2 opIx (f2 opIx (f2 opIx (fVar 0) (fC (.int 2))) (fVar 2)) (fC (.int 1))) (fC (.str "just")))) (fB (f2 opLt (f2 opIx (f2 opIx (fVar 1) (fVar 2)) (fC (.int 0))) (fC (.int 0))))) (fFz (fVar 2))) fNil)) (fC (.int 0)))))
def fn_law_weights (n : Nat) : Fn := fnOf 3 (f_law_weights n)
section
variable {P : Program} {w : World} {K : PySem.W.Frag} {mg : Str → Option Value} {base : Heap}
theorem ok_law_weights (n : Nat) (z_len : mg "len" = none) (z_range : mg "range" = none) (k_law_are_frs : Cal P w K mg base "_law_are_frs" 3 2 (fn_law_are_frs n)) {f : Addr} {fd : FuncData} (F : Fun K "_law_weights" "_law_weights" s_law_weights f fd) : FnOk P w K mg base CX0 4 f fd ["system", "value"] (spF XO0 K 2 (fn_law_weights n)) := by
  refine fn_ok F sc_law_weights rfl rfl fun cdv A outer s H E hr => ?_
  have nd := sc_law_weights.nd
  exact (ds_cons (ds_if (dt_not (dt_tru (d_callC k_law_are_frs (hr.mono (by first | decide | (simp only [Nat.add_eq]; omega))) (by rfl) (da_cons (d_fz (d_var 1)) (da_cons (d_fz (d_callB call_len on_len (by rfl) z_len (by decide +kernel) (da_cons (d_ix ix_seq o2_ix (d_var 0) d_int (fun _ _ => rfl)) da_nil))) da_nil)))))
    (ds_one (ds_ret d_bl))
    ds_nil)
    (ds_one (ds_ret (d_cmp (op_eqD (hu64 hr)) o2_eq (d_callB call_len on_len (by rfl) z_len (by decide +kernel) (da_cons (d_lc rfl nd (di_rng1 (by rfl) z_range (da_cons (d_callB call_len on_len (by rfl) z_len (by decide +kernel) (da_cons (d_var 1) da_nil)) da_nil)) (own := [("k", 2)]) (blkOk_by (by kernel_rfl)) (by decide) (fun _ _ _ _ _ => (dg_nm nd rfl (by first | exact .inl rfl | exact .inr rfl))) (fun _ _ _ _ _ => (dts_one (DW.dt (dw_and (dt_cmp (op_neD (hu64 hr)) o2_ne (d_ix ix_seq o2_ix (d_ix ix_seq o2_ix (d_ix ix_seq o2_ix (d_var 0) d_int (fun _ _ => rfl)) (d_var 2) (fun _ _ => rfl)) d_int (fun _ _ => rfl)) d_str (nomark _)) (dw_and1 (dt_cmp op_lt o2_cmp (d_ix ix_seq o2_ix (d_ix ix_seq o2_ix (d_var 1) (d_var 2) (fun _ _ => rfl)) d_int (fun _ _ => rfl)) d_int (nomark _))))))) (fun _ _ _ _ _ => (d_fz (d_var 2)))) da_nil)) d_int (nomark _)))))
end
abbrev s_law_bars : Stmt := topS 55
abbrev n_law_bars : List Str := ["system", "value", "found", "bound", "less", "each"]
theorem sc_law_bars : FnScope n_law_bars ["system", "value"] (defScope s_law_bars) := ⟨rfl, rfl, rfl, by decide +kernel, rfl, by decide +kernel, by decide +kernel⟩
def f_law_bars (n : Nat) : FS :=
    (fSeq (fIfS (fNot (fTru (fCall 2 (fn_law_weights n) (fCons (fFz (fVar 0)) (fCons (fFz (fVar 1)) fNil)))))
    (fRet (fC (.bool false)))
    fNext)
    (fSeq (fSetT (.tp [2, 3, 4]) (fCall 2 (fn_law_weigh n) (fCons (fFz (fVar 0)) (fCons (fFz (fVar 1)) fNil))))
    (fRet (fAndV (f2 opEq (fN opLen (fCons (fLc [5] (.nm 5) (fIt (fVar 2)) (fB (f2 opNe (f2 opIx (fVar 5) (fC (.int 0))) (fC (.int 0)))) (fFz (fVar 5))) fNil)) (fC (.int 0))) (fOrV (f2 opLt (f2 opIx (fVar 3) (fC (.int 0))) (fC (.int 0))) (fAndV (f2 opEq (f2 opIx (fVar 3) (fC (.int 0))) (fC (.int 0))) (fVar 4)))))))
def fn_law_bars (n : Nat) : Fn := fnOf 6 (f_law_bars n)
section
variable {P : Program} {w : World} {K : PySem.W.Frag} {mg : Str → Option Value} {base : Heap}
theorem ok_law_bars (n : Nat) (z_len : mg "len" = none) (k_law_weigh : Cal P w K mg base "_law_weigh" 3 2 (fn_law_weigh n)) (k_law_weights : Cal P w K mg base "_law_weights" 4 2 (fn_law_weights n)) {f : Addr} {fd : FuncData} (F : Fun K "_law_bars" "_law_bars" s_law_bars f fd) : FnOk P w K mg base CX0 5 f fd ["system", "value"] (spF XO0 K 2 (fn_law_bars n)) := by
  refine fn_ok F sc_law_bars rfl rfl fun cdv A outer s H E hr => ?_
  have nd := sc_law_bars.nd
  exact (ds_cons (ds_if (dt_not (dt_tru (d_callC k_law_weights (hr.mono (by first | decide | (simp only [Nat.add_eq]; omega))) (by rfl) (da_cons (d_fz (d_var 0)) (da_cons (d_fz (d_var 1)) da_nil)))))
    (ds_one (ds_ret d_bl))
    ds_nil)
    (ds_cons (ds_setT (d_callC k_law_weigh (hr.mono (by first | decide | (simp only [Nat.add_eq]; omega))) (by rfl) (da_cons (d_fz (d_var 0)) (da_cons (d_fz (d_var 1)) da_nil))) (dg_tp rfl (pgs_cons (pg_name (i := 2) nd rfl (by first | exact .inl rfl | exact .inr rfl)) (pgs_cons (pg_name (i := 3) nd rfl (by first | exact .inl rfl | exact .inr rfl)) (pgs_cons (pg_name (i := 4) nd rfl (by first | exact .inl rfl | exact .inr rfl)) pgs_nil)))))
    (ds_one (ds_ret (d_and (d_cmp (op_eqD (hu64 hr)) o2_eq (d_callB call_len on_len (by rfl) z_len (by decide +kernel) (da_cons (d_lc rfl nd (di_seq (d_var 2)) (own := [("each", 5)]) (blkOk_by (by kernel_rfl)) (by decide) (fun _ _ _ _ _ => (dg_nm nd rfl (by first | exact .inl rfl | exact .inr rfl))) (fun _ _ _ _ _ => (dts_one (dt_cmp (op_neD (hu64 hr)) o2_ne (d_ix ix_seq o2_ix (d_var 5) d_int (fun _ _ => rfl)) d_int (nomark _)))) (fun _ _ _ _ _ => (d_fz (d_var 5)))) da_nil)) d_int (nomark _)) (d_one (d_or (d_cmp op_lt o2_cmp (d_ix ix_seq o2_ix (d_var 3) d_int (fun _ _ => rfl)) d_int (nomark _)) (d_one (d_and (d_cmp (op_eqD (hu64 hr)) o2_eq (d_ix ix_seq o2_ix (d_var 3) d_int (fun _ _ => rfl)) d_int (nomark _)) (d_one (d_var 4)))))))))))
end
abbrev s_law_drawn : Stmt := topS 56
abbrev n_law_drawn : List Str := ["state"]
theorem sc_law_drawn : FnScope n_law_drawn ["state"] (defScope s_law_drawn) := ⟨rfl, rfl, rfl, by decide +kernel, rfl, by decide +kernel, by decide +kernel⟩
def f_law_drawn (n : Nat) : FS :=
    (fRet (fCall 2 (fn_law_fr n) (fCons (fFz (f2 opSub (fCall 2 (fn_law_take n) (fCons (fFz (fVar 0)) (fCons (fC (.int 25)) fNil))) (fC (.int 12)))) (fCons (fFz (f2 opAdd (fC (.int 1)) (fCall 2 (fn_law_take n) (fCons (fFz (fVar 0)) (fCons (fC (.int 6)) fNil))))) fNil))))
def fn_law_drawn (n : Nat) : Fn := fnOf 1 (f_law_drawn n)
section
variable {P : Program} {w : World} {K : PySem.W.Frag} {mg : Str → Option Value} {base : Heap}
theorem ok_law_drawn (n : Nat) (k_law_fr : Cal P w K mg base "_law_fr" 1 2 (fn_law_fr n)) (k_law_take : Cal P w K mg base "_law_take" 1 2 (fn_law_take n)) {f : Addr} {fd : FuncData} (F : Fun K "_law_drawn" "_law_drawn" s_law_drawn f fd) : FnOk P w K mg base CX0 2 f fd ["state"] (spF XO0 K 1 (fn_law_drawn n)) := by
  refine fn_ok F sc_law_drawn rfl rfl fun cdv A outer s H E hr => ?_
  have nd := sc_law_drawn.nd
  exact (ds_one (ds_ret (d_callC k_law_fr (hr.mono (by first | decide | (simp only [Nat.add_eq]; omega))) (by rfl) (da_cons (d_fz (d_op or_sub o2_sub (d_callC k_law_take (hr.mono (by first | decide | (simp only [Nat.add_eq]; omega))) (by rfl) (da_cons (d_fz (d_var 0)) (da_cons d_int da_nil))) d_int)) (da_cons (d_fz (d_op or_add o2_add d_int (d_callC k_law_take (hr.mono (by first | decide | (simp only [Nat.add_eq]; omega))) (by rfl) (da_cons (d_fz (d_var 0)) (da_cons d_int da_nil))))) da_nil)))))
end
abbrev s_law_is_row : Stmt := topS 57
abbrev n_law_is_row : List Str := ["value", "many", "n"]
theorem sc_law_is_row : FnScope n_law_is_row ["value", "many"] (defScope s_law_is_row) := ⟨rfl, rfl, rfl, by decide +kernel, rfl, by decide +kernel, by decide +kernel⟩
def f_law_is_row (n : Nat) : FS :=
    (fSeq (fIfS (fOr (fNot (fTru (fIsi "tuple" (fVar 0)))) (fOr (fB (f2 opNe (fN opLen (fCons (fVar 0) fNil)) (fC (.int 3)))) (fOr (fB (f2 opNotIn (f2 opIx (fVar 0) (fC (.int 1))) (fLst (fCons (fC (.str "most")) (fCons (fC (.str "less")) (fCons (fC (.str "just")) fNil)))))) (fOr (fNot (fTru (fIsi "tuple" (f2 opIx (fVar 0) (fC (.int 0)))))) (fB (f2 opNe (fN opLen (fCons (f2 opIx (fVar 0) (fC (.int 0))) fNil)) (fVar 1)))))))
    (fRet (fC (.bool false)))
    fNext)
    (fRet (f2 opEq (fN opLen (fCons (fLc [2] (.nm 2) (fIt (f2 opAdd (f2 opIx (fVar 0) (fC (.int 0))) (fTup (fCons (fFz (f2 opIx (fVar 0) (fC (.int 2)))) fNil)))) (fOr (fNot (fTru (fIsi "int" (fVar 2)))) (fOr (fTru (fIsi "bool" (fVar 2))) (fOr (fB (f2 opLt (fVar 2) (f1 opNeg (fC (.int 1000000))))) (fB (f2 opGt (fVar 2) (fC (.int 1000000))))))) (fFz (fVar 2))) fNil)) (fC (.int 0)))))
def fn_law_is_row (n : Nat) : Fn := fnOf 3 (f_law_is_row n)
section
variable {P : Program} {w : World} {K : PySem.W.Frag} {mg : Str → Option Value} {base : Heap}
theorem ok_law_is_row (n : Nat) (z_bool : mg "bool" = none) (z_int : mg "int" = none) (z_isinstance : mg "isinstance" = none) (z_len : mg "len" = none) (z_tuple : mg "tuple" = none) {f : Addr} {fd : FuncData} (F : Fun K "_law_is_row" "_law_is_row" s_law_is_row f fd) : FnOk P w K mg base CX0 1 f fd ["value", "many"] (spF XO0 K 2 (fn_law_is_row n)) := by
  refine fn_ok F sc_law_is_row rfl rfl fun cdv A outer s H E hr => ?_
  have nd := sc_law_is_row.nd
  exact (ds_cons (ds_if (DW.dt (dw_or (dt_not (dt_tru (d_isi (by decide) (d_var 0) (by rfl) z_isinstance (by rfl) z_tuple (by decide +kernel)))) (dw_or (dt_cmp (op_neD (hu64 hr)) o2_ne (d_callB call_len on_len (by rfl) z_len (by decide +kernel) (da_cons (d_var 0) da_nil)) d_int (nomark _)) (dw_or (dt_cmp (or_notIn (hu65 hr)) o2_notIn (d_ix ix_seq o2_ix (d_var 0) d_int (fun _ _ => rfl)) (d_lst (da_cons d_str (da_cons d_str (da_cons d_str da_nil)))) (by rfl)) (dw_or (dt_not (dt_tru (d_isi (by decide) (d_ix ix_seq o2_ix (d_var 0) d_int (fun _ _ => rfl)) (by rfl) z_isinstance (by rfl) z_tuple (by decide +kernel)))) (dw_or1 (dt_cmp (op_neD (hu64 hr)) o2_ne (d_callB call_len on_len (by rfl) z_len (by decide +kernel) (da_cons (d_ix ix_seq o2_ix (d_var 0) d_int (fun _ _ => rfl)) da_nil)) (d_var 1) (nomark _))))))))
    (ds_one (ds_ret d_bl))
    ds_nil)
    (ds_one (ds_ret (d_cmp (op_eqD (hu64 hr)) o2_eq (d_callB call_len on_len (by rfl) z_len (by decide +kernel) (da_cons (d_lc rfl nd (di_seq (d_op or_add o2_add (d_ix ix_seq o2_ix (d_var 0) d_int (fun _ _ => rfl)) (d_tup (da_cons (d_fz (d_ix ix_seq o2_ix (d_var 0) d_int (fun _ _ => rfl))) da_nil)))) (own := [("n", 2)]) (blkOk_by (by kernel_rfl)) (by decide) (fun _ _ _ _ _ => (dg_nm nd rfl (by first | exact .inl rfl | exact .inr rfl))) (fun _ _ _ _ _ => (dts_one (DW.dt (dw_or (dt_not (dt_tru (d_isi (by decide) (d_var 2) (by rfl) z_isinstance (by rfl) z_int (by decide +kernel)))) (dw_or (dt_tru (d_isi (by decide) (d_var 2) (by rfl) z_isinstance (by rfl) z_bool (by decide +kernel))) (dw_or (dt_cmp op_lt o2_cmp (d_var 2) (d_un un_neg o1_neg d_int) (nomark _)) (dw_or1 (dt_cmp op_gt o2_cmp (d_var 2) d_int (nomark _))))))))) (fun _ _ _ _ _ => (d_fz (d_var 2)))) da_nil)) d_int (nomark _)))))
end
abbrev s_law_is_system : Stmt := topS 58
abbrev n_law_is_system : List Str := ["value", "row"]
theorem sc_law_is_system : FnScope n_law_is_system ["value"] (defScope s_law_is_system) := ⟨rfl, rfl, rfl, by decide +kernel, rfl, by decide +kernel, by decide +kernel⟩
def f_law_is_system (n : Nat) : FS :=
    (fSeq (fIfS (fOr (fNot (fTru (fIsi "tuple" (fVar 0)))) (fOr (fB (f2 opNe (fN opLen (fCons (fVar 0) fNil)) (fC (.int 3)))) (fOr (fB (f2 opNe (f2 opIx (fVar 0) (fC (.int 0))) (fC (.str "rows")))) (fOr (fNot (fTru (fIsi "int" (f2 opIx (fVar 0) (fC (.int 1)))))) (fTru (fIsi "bool" (f2 opIx (fVar 0) (fC (.int 1)))))))))
    (fRet (fC (.bool false)))
    fNext)
    (fSeq (fIfS (fOr (fB (f2 opLt (f2 opIx (fVar 0) (fC (.int 1))) (fC (.int 1)))) (fOr (fB (f2 opGt (f2 opIx (fVar 0) (fC (.int 1))) (fC (.int 8)))) (fOr (fNot (fTru (fIsi "tuple" (f2 opIx (fVar 0) (fC (.int 2)))))) (fB (f2 opGt (fN opLen (fCons (f2 opIx (fVar 0) (fC (.int 2))) fNil)) (fC (.int 24)))))))
    (fRet (fC (.bool false)))
    fNext)
    (fRet (f2 opEq (fN opLen (fCons (fLc [1] (.nm 1) (fIt (f2 opIx (fVar 0) (fC (.int 2)))) (fNot (fTru (fCall 2 (fn_law_is_row n) (fCons (fFz (fVar 1)) (fCons (fFz (f2 opIx (fVar 0) (fC (.int 1)))) fNil))))) (fFz (fVar 1))) fNil)) (fC (.int 0))))))
def fn_law_is_system (n : Nat) : Fn := fnOf 2 (f_law_is_system n)
section
variable {P : Program} {w : World} {K : PySem.W.Frag} {mg : Str → Option Value} {base : Heap}
theorem ok_law_is_system (n : Nat) (z_bool : mg "bool" = none) (z_int : mg "int" = none) (z_isinstance : mg "isinstance" = none) (z_len : mg "len" = none) (z_tuple : mg "tuple" = none) (k_law_is_row : Cal P w K mg base "_law_is_row" 1 2 (fn_law_is_row n)) {f : Addr} {fd : FuncData} (F : Fun K "_law_is_system" "_law_is_system" s_law_is_system f fd) : FnOk P w K mg base CX0 2 f fd ["value"] (spF XO0 K 1 (fn_law_is_system n)) := by
  refine fn_ok F sc_law_is_system rfl rfl fun cdv A outer s H E hr => ?_
  have nd := sc_law_is_system.nd
  exact (ds_cons (ds_if (DW.dt (dw_or (dt_not (dt_tru (d_isi (by decide) (d_var 0) (by rfl) z_isinstance (by rfl) z_tuple (by decide +kernel)))) (dw_or (dt_cmp (op_neD (hu64 hr)) o2_ne (d_callB call_len on_len (by rfl) z_len (by decide +kernel) (da_cons (d_var 0) da_nil)) d_int (nomark _)) (dw_or (dt_cmp (op_neD (hu64 hr)) o2_ne (d_ix ix_seq o2_ix (d_var 0) d_int (fun _ _ => rfl)) d_str (nomark _)) (dw_or (dt_not (dt_tru (d_isi (by decide) (d_ix ix_seq o2_ix (d_var 0) d_int (fun _ _ => rfl)) (by rfl) z_isinstance (by rfl) z_int (by decide +kernel)))) (dw_or1 (dt_tru (d_isi (by decide) (d_ix ix_seq o2_ix (d_var 0) d_int (fun _ _ => rfl)) (by rfl) z_isinstance (by rfl) z_bool (by decide +kernel)))))))))
    (ds_one (ds_ret d_bl))
    ds_nil)
    (ds_cons (ds_if (DW.dt (dw_or (dt_cmp op_lt o2_cmp (d_ix ix_seq o2_ix (d_var 0) d_int (fun _ _ => rfl)) d_int (nomark _)) (dw_or (dt_cmp op_gt o2_cmp (d_ix ix_seq o2_ix (d_var 0) d_int (fun _ _ => rfl)) d_int (nomark _)) (dw_or (dt_not (dt_tru (d_isi (by decide) (d_ix ix_seq o2_ix (d_var 0) d_int (fun _ _ => rfl)) (by rfl) z_isinstance (by rfl) z_tuple (by decide +kernel)))) (dw_or1 (dt_cmp op_gt o2_cmp (d_callB call_len on_len (by rfl) z_len (by decide +kernel) (da_cons (d_ix ix_seq o2_ix (d_var 0) d_int (fun _ _ => rfl)) da_nil)) d_int (nomark _)))))))
    (ds_one (ds_ret d_bl))
    ds_nil)
    (ds_one (ds_ret (d_cmp (op_eqD (hu64 hr)) o2_eq (d_callB call_len on_len (by rfl) z_len (by decide +kernel) (da_cons (d_lc rfl nd (di_seq (d_ix ix_seq o2_ix (d_var 0) d_int (fun _ _ => rfl))) (own := [("row", 1)]) (blkOk_by (by kernel_rfl)) (by decide) (fun _ _ _ _ _ => (dg_nm nd rfl (by first | exact .inl rfl | exact .inr rfl))) (fun _ _ _ _ _ => (dts_one (dt_not (dt_tru (d_callC k_law_is_row (hr.mono (by first | decide | (simp only [Nat.add_eq]; omega))) (by rfl) (da_cons (d_fz (d_var 1)) (da_cons (d_fz (d_ix ix_seq o2_ix (d_var 0) d_int (fun _ _ => rfl))) da_nil))))))) (fun _ _ _ _ _ => (d_fz (d_var 1)))) da_nil)) d_int (nomark _))))))
end
abbrev s_law_reckons : Stmt := topS 59
abbrev n_law_reckons : List Str := ["state", "row", "least", "each", "told", "lead", "value", "one", "other", "a", "b", "common", "k", "n"]
theorem sc_law_reckons : FnScope n_law_reckons ["state"] (defScope s_law_reckons) := ⟨rfl, rfl, rfl, by decide +kernel, rfl, by decide +kernel, by decide +kernel⟩
def f_law_reckons (n : Nat) : FS :=
    (fSeq (fPar 7 8 (fCons (fFz (fCall 1 (fn_law_drawn n) (fCons (fFz (fVar 0)) fNil))) (fCons (fFz (fCall 1 (fn_law_drawn n) (fCons (fFz (fVar 0)) fNil))) fNil)))
    (fSeq (fPar 9 10 (fCons (fFz (f2 opSub (fCall 2 (fn_law_take n) (fCons (fFz (fVar 0)) (fCons (fC (.int 41)) fNil))) (fC (.int 20)))) (fCons (fFz (fCall 2 (fn_law_pick n) (fCons (fFz (fVar 0)) (fCons (fFz (fLst (fCons (fC (.int 1)) (fCons (fFz (f1 opNeg (fC (.int 2)))) (fCons (fC (.int 3)) (fCons (fC (.int 6)) (fCons (fFz (f1 opNeg (fC (.int 7)))) fNil))))))) fNil)))) fNil)))
    (fSeq (fIfS (fOr (fB (f2 opNe (fCall 2 (fn_part n) (fCons (fFz (fVar 9)) (fCons (fFz (fVar 10)) fNil))) (fCall 2 (fn_law_fr n) (fCons (fFz (fVar 9)) (fCons (fFz (fVar 10)) fNil))))) (fOr (fB (f2 opNe (fCall 2 (fn_plus n) (fCons (fFz (fVar 7)) (fCons (fFz (fVar 8)) fNil))) (fCall 2 (fn_law_add n) (fCons (fFz (fVar 7)) (fCons (fFz (fVar 8)) fNil))))) (fOr (fB (f2 opNe (fCall 2 (fn_minus n) (fCons (fFz (fVar 7)) (fCons (fFz (fVar 8)) fNil))) (fCall 2 (fn_law_sub n) (fCons (fFz (fVar 7)) (fCons (fFz (fVar 8)) fNil))))) (fB (f2 opNe (fCall 2 (fn_times n) (fCons (fFz (fVar 7)) (fCons (fFz (fVar 8)) fNil))) (fCall 2 (fn_law_mul n) (fCons (fFz (fVar 7)) (fCons (fFz (fVar 8)) fNil))))))))
    (fRet (fC (.bool false)))
    fNext)
    (fSeq (fIfS (fAnd (fB (f2 opNe (f2 opIx (fVar 8) (fC (.int 0))) (fC (.int 0)))) (fB (f2 opNe (fCall 2 (fn_over n) (fCons (fFz (fVar 7)) (fCons (fFz (fVar 8)) fNil))) (fCall 2 (fn_law_fr n) (fCons (fFz (f2 opMulI (f2 opIx (fVar 7) (fC (.int 0))) (f2 opIx (fVar 8) (fC (.int 1))))) (fCons (fFz (f2 opMulI (f2 opIx (fVar 7) (fC (.int 1))) (f2 opIx (fVar 8) (fC (.int 0))))) fNil))))))
    (fRet (fC (.bool false)))
    fNext)
    (fSeq (fIfS (fOr (fB (f2 opNe (fCall 2 (fn_is_less n) (fCons (fFz (fVar 7)) (fCons (fFz (fVar 8)) fNil))) (f2 opLt (fCall 2 (fn_law_sign n) (fCons (fFz (fVar 7)) (fCons (fFz (fVar 8)) fNil))) (fC (.int 0))))) (fOr (fB (f2 opNe (fCall 1 (fn_is_whole_part n) (fCons (fFz (fVar 7)) fNil)) (f2 opEq (f2 opIx (fVar 7) (fC (.int 1))) (fC (.int 1))))) (fB (f2 opNe (fCall 1 (fn_whole_below n) (fCons (fFz (fVar 7)) fNil)) (f2 opFdiv (f2 opIx (fVar 7) (fC (.int 0))) (f2 opIx (fVar 7) (fC (.int 1))))))))
    (fRet (fC (.bool false)))
    fNext)
    (fSeq (fIfS (fOr (fB (f2 opNe (fCall 1 (fn_whole_above n) (fCons (fFz (fVar 7)) fNil)) (f2 opAdd (f2 opFdiv (f2 opIx (fVar 7) (fC (.int 0))) (f2 opIx (fVar 7) (fC (.int 1)))) (fIf (fB (f2 opGt (f2 opIx (fVar 7) (fC (.int 1))) (fC (.int 1)))) (fC (.int 1)) (fC (.int 0)))))) (fOr (fB (f2 opNe (fCall 1 (fn_total n) (fCons (fFz (fLst (fCons (fFz (fVar 7)) (fCons (fFz (fVar 8)) (fCons (fFz (fVar 7)) fNil))))) fNil)) (fCall 2 (fn_law_add n) (fCons (fFz (fCall 2 (fn_law_add n) (fCons (fFz (fVar 7)) (fCons (fFz (fVar 8)) fNil)))) (fCons (fFz (fVar 7)) fNil))))) (fB (f2 opNe (fCall 1 (fn_total n) (fCons (fFz (fLst fNil)) fNil)) (fTup (fCons (fC (.int 0)) (fCons (fC (.int 1)) fNil)))))))
    (fRet (fC (.bool false)))
    fNext)
    (fSeq (fSet 1 (fFz (fLc [12] (.nm 12) (fRng rng1 (fCons (fC (.int 4)) fNil)) fYes (fFz (fCall 1 (fn_law_drawn n) (fCons (fFz (fVar 0)) fNil))))))
    (fSeq (fSet 2 (fFz (f2 opIx (fVar 1) (fC (.int 0)))))
    (fSeq (fFor (.nm 3) (fIt (fVar 1))
    (fSet 2 (fFz (fIf (fB (f2 opLt (fCall 2 (fn_law_sign n) (fCons (fFz (fVar 3)) (fCons (fFz (fVar 2)) fNil))) (fC (.int 0)))) (fVar 3) (fVar 2)))))
    (fSeq (fSet 4 (fFz (fCall 1 (fn_scaled n) (fCons (fFz (fN opList (fCons (fVar 1) fNil))) fNil))))
    (fSeq (fSet 5 (fFz (fLc [12] (.nm 12) (fRng rng1 (fCons (fC (.int 4)) fNil)) (fB (f2 opNe (f2 opIx (f2 opIx (fVar 1) (fVar 12)) (fC (.int 0))) (fC (.int 0)))) (fFz (fVar 12)))))
    (fSeq (fIfS (fOr (fB (f2 opNe (fCall 1 (fn_least_of n) (fCons (fFz (fN opList (fCons (fVar 1) fNil))) fNil)) (fVar 2))) (fB (f2 (isN true) (fCall 1 (fn_least_of n) (fCons (fFz (fLst fNil)) fNil)) (fC .none))))
    (fRet (fC (.bool false)))
    fNext)
    (fSeq (fIfS (fB (f2 opGt (fN opLen (fCons (fVar 5) fNil)) (fC (.int 0))))
    (fSeq (fSet 11 (fFz (fLc [12] (.nm 12) (fRng rng2 (fCons (fC (.int 1)) (fCons (fC (.int 800)) fNil))) (fB (f2 opEq (fN opLen (fCons (fLc [13] (.nm 13) (fIt (fVar 4)) (fB (f2 opNe (f2 opMod (fN opInt (fCons (fN opAbs (fCons (fVar 13) fNil)) fNil)) (fVar 12)) (fC (.int 0)))) (fFz (fVar 13))) fNil)) (fC (.int 0)))) (fFz (fVar 12)))))
    (fSeq (fIfS (fOr (fB (f2 opNe (fVar 11) (fLst (fCons (fC (.int 1)) fNil)))) (fB (f2 opLe (f2 opMulI (f2 opIx (fVar 4) (f2 opIx (fVar 5) (fC (.int 0)))) (f2 opIx (f2 opIx (fVar 1) (f2 opIx (fVar 5) (fC (.int 0)))) (fC (.int 0)))) (fC (.int 0)))))
    (fRet (fC (.bool false)))
    fNext)
    (fIfS (fB (f2 opGt (fN opLen (fCons (fLc [12] (.nm 12) (fRng rng1 (fCons (fC (.int 4)) fNil)) (fB (f2 opNe (fCall 2 (fn_law_fr n) (fCons (fFz (f2 opMulI (f2 opIx (f2 opIx (fVar 1) (fVar 12)) (fC (.int 0))) (f2 opIx (fVar 4) (f2 opIx (fVar 5) (fC (.int 0)))))) (fCons (fFz (f2 opIx (f2 opIx (fVar 1) (fVar 12)) (fC (.int 1)))) fNil))) (fCall 2 (fn_law_fr n) (fCons (fFz (f2 opMulI (f2 opIx (fVar 4) (fVar 12)) (f2 opIx (f2 opIx (fVar 1) (f2 opIx (fVar 5) (fC (.int 0)))) (fC (.int 0))))) (fCons (fFz (f2 opIx (f2 opIx (fVar 1) (f2 opIx (fVar 5) (fC (.int 0)))) (fC (.int 1)))) fNil))))) (fFz (fVar 12))) fNil)) (fC (.int 0))))
    (fRet (fC (.bool false)))
    fNext)))
    (fIfS (fB (f2 opNe (fVar 4) (fTup (fCons (fC (.int 0)) (fCons (fC (.int 0)) (fCons (fC (.int 0)) (fCons (fC (.int 0)) fNil)))))))
    (fRet (fC (.bool false)))
    fNext))
    (fSeq (fFor (.nm 6) (fIt (fFz (fLst (fCons (fFz (fTup (fCons (fFz (fVar 9)) (fCons (fFz (fVar 10)) fNil)))) (fCons (fFz (fVar 7)) (fCons (fFz (fN opList (fCons (fVar 7) fNil))) (fCons (fFz (fTup (fCons (fFz (fVar 9)) (fCons (fC (.int 0)) fNil)))) (fCons (fFz (fTup (fCons (fFz (fVar 9)) fNil))) (fCons (fFz (fTup (fCons (fFz (f2 opIx (fVar 7) (fC (.int 0)))) (fCons (fFz (f2 opIx (fVar 7) (fC (.int 1)))) (fCons (fC (.int 1)) fNil))))) (fCons (fC .none) (fCons (fFz (fTup (fCons (fC (.bool true)) (fCons (fC (.int 2)) fNil)))) (fCons (fFz (fTup (fCons (fFz (f2 opIx (fVar 7) (fC (.int 0)))) (fCons (fC (.bool true)) fNil)))) (fCons (fFz (fTup (fCons (fFz (f2 opMulI (fC (.int 2)) (fVar 9))) (fCons (fC (.int 2)) fNil)))) fNil)))))))))))))
    (fIfS (fB (f2 opNe (fCall 1 (fn_is_part n) (fCons (fFz (fVar 6)) fNil)) (fCall 1 (fn_law_is_fr n) (fCons (fFz (fVar 6)) fNil))))
    (fRet (fC (.bool false)))
    fNext))
    (fSeq (fFor (.nm 6) (fIt (fFz (fLst (fCons (fFz (fN opTuple (fCons (fVar 1) fNil))) (fCons (fFz (fVar 1)) (fCons (fFz (fN opTuple (fCons (fSl (fVar 1) (fPart (fC (.int 1))) fNo) fNil))) (fCons (fFz (f2 opAdd (fN opTuple (fCons (fSl (fVar 1) fNo (fPart (fC (.int 3)))) fNil)) (fTup (fCons (fFz (fTup (fCons (fC (.int 2)) (fCons (fC (.int 4)) fNil)))) fNil)))) (fCons (fC .none) (fCons (fFz (f2 opAdd (fN opTuple (fCons (fSl (fVar 1) fNo (fPart (fC (.int 3)))) fNil)) (fTup (fCons (fC .none) fNil)))) fNil)))))))))
    (fIfS (fB (f2 opNe (fCall 2 (fn_are_parts n) (fCons (fFz (fVar 6)) (fCons (fC (.int 4)) fNil))) (fCall 2 (fn_law_are_frs n) (fCons (fFz (fVar 6)) (fCons (fC (.int 4)) fNil)))))
    (fRet (fC (.bool false)))
    fNext))
    (fRet (fAndV (f2 opEq (fCall 2 (fn_divisor n) (fCons (fFz (fVar 9)) (fCons (fC (.int 0)) fNil))) (fN opAbs (fCons (fVar 9) fNil))) (fAndV (f2 opEq (fCall 2 (fn_divisor n) (fCons (fC (.int 12)) (fCons (fFz (f1 opNeg (fC (.int 18)))) fNil))) (fC (.int 6))) (f2 opEq (fCall 2 (fn_dot n) (fCons (fFz (fTup (fCons (fC (.int 3)) (fCons (fFz (f1 opNeg (fC (.int 2)))) fNil)))) (fCons (fFz (fTup (fCons (fFz (fVar 7)) (fCons (fFz (fVar 8)) fNil)))) fNil))) (fCall 2 (fn_law_at n) (fCons (fFz (fTup (fCons (fC (.int 3)) (fCons (fFz (f1 opNeg (fC (.int 2)))) fNil)))) (fCons (fFz (fTup (fCons (fFz (fVar 7)) (fCons (fFz (fVar 8)) fNil)))) fNil))))))))))))))))))))))
def fn_law_reckons (n : Nat) : Fn := fnOf 14 (f_law_reckons n)
section
variable {P : Program} {w : World} {K : PySem.W.Frag} {mg : Str → Option Value} {base : Heap}
theorem ok_law_reckons (n : Nat) (z_abs : mg "abs" = none) (z_int : mg "int" = none) (z_len : mg "len" = none) (z_list : mg "list" = none) (z_range : mg "range" = none) (z_tuple : mg "tuple" = none) (k_law_add : Cal P w K mg base "_law_add" 2 2 (fn_law_add n)) (k_law_are_frs : Cal P w K mg base "_law_are_frs" 3 2 (fn_law_are_frs n)) (k_law_at : Cal P w K mg base "_law_at" 3 2 (fn_law_at n)) (k_law_drawn : Cal P w K mg base "_law_drawn" 2 1 (fn_law_drawn n)) (k_law_fr : Cal P w K mg base "_law_fr" 1 2 (fn_law_fr n)) (k_law_is_fr : Cal P w K mg base "_law_is_fr" 2 1 (fn_law_is_fr n)) (k_law_mul : Cal P w K mg base "_law_mul" 2 2 (fn_law_mul n)) (k_law_pick : Cal P w K mg base "_law_pick" 2 2 (fn_law_pick n)) (k_law_sign : Cal P w K mg base "_law_sign" 1 2 (fn_law_sign n)) (k_law_sub : Cal P w K mg base "_law_sub" 3 2 (fn_law_sub n)) (k_law_take : Cal P w K mg base "_law_take" 1 2 (fn_law_take n)) (k_are_parts : Cal P w K mg base "are_parts" 3 2 (fn_are_parts n)) (k_divisor : Cal P w K mg base "divisor" 1 2 (fn_divisor n)) (k_dot : Cal P w K mg base "dot" 5 2 (fn_dot n)) (k_is_less : Cal P w K mg base "is_less" 1 2 (fn_is_less n)) (k_is_part : Cal P w K mg base "is_part" 2 1 (fn_is_part n)) (k_is_whole_part : Cal P w K mg base "is_whole_part" 1 1 (fn_is_whole_part n)) (k_least_of : Cal P w K mg base "least_of" 2 1 (fn_least_of n)) (k_minus : Cal P w K mg base "minus" 3 2 (fn_minus n)) (k_over : Cal P w K mg base "over" 3 2 (fn_over n)) (k_part : Cal P w K mg base "part" 2 2 (fn_part n)) (k_plus : Cal P w K mg base "plus" 3 2 (fn_plus n)) (k_scaled : Cal P w K mg base "scaled" 2 1 (fn_scaled n)) (k_times : Cal P w K mg base "times" 3 2 (fn_times n)) (k_total : Cal P w K mg base "total" 4 1 (fn_total n)) (k_whole_above : Cal P w K mg base "whole_above" 1 1 (fn_whole_above n)) (k_whole_below : Cal P w K mg base "whole_below" 1 1 (fn_whole_below n)) {f : Addr} {fd : FuncData} (F : Fun K "_law_reckons" "_law_reckons" s_law_reckons f fd) : FnOk P w K mg base CX0 6 f fd ["state"] (spF XO0 K 1 (fn_law_reckons n)) := by
  refine fn_ok F sc_law_reckons rfl rfl fun cdv A outer s H E hr => ?_
  have nd := sc_law_reckons.nd
  exact (ds_cons (ds_par rfl nd rfl rfl (by decide) rfl rfl (da_cons (d_fz (d_callC k_law_drawn (hr.mono (by first | decide | (simp only [Nat.add_eq]; omega))) (by rfl) (da_cons (d_fz (d_var 0)) da_nil))) (da_cons (d_fz (d_callC k_law_drawn (hr.mono (by first | decide | (simp only [Nat.add_eq]; omega))) (by rfl) (da_cons (d_fz (d_var 0)) da_nil))) da_nil)) (by rfl))
    (ds_cons (ds_par rfl nd rfl rfl (by decide) rfl rfl (da_cons (d_fz (d_op or_sub o2_sub (d_callC k_law_take (hr.mono (by first | decide | (simp only [Nat.add_eq]; omega))) (by rfl) (da_cons (d_fz (d_var 0)) (da_cons d_int da_nil))) d_int)) (da_cons (d_fz (d_callC k_law_pick (hr.mono (by first | decide | (simp only [Nat.add_eq]; omega))) (by rfl) (da_cons (d_fz (d_var 0)) (da_cons (d_fz (d_lst (da_cons d_int (da_cons (d_fz (d_un un_neg o1_neg d_int)) (da_cons d_int (da_cons d_int (da_cons (d_fz (d_un un_neg o1_neg d_int)) da_nil))))))) da_nil)))) da_nil)) (by rfl))
    (ds_cons (ds_if (DW.dt (dw_or (dt_cmp (op_neD (hu64 hr)) o2_ne (d_callC k_part (hr.mono (by first | decide | (simp only [Nat.add_eq]; omega))) (by rfl) (da_cons (d_fz (d_var 9)) (da_cons (d_fz (d_var 10)) da_nil))) (d_callC k_law_fr (hr.mono (by first | decide | (simp only [Nat.add_eq]; omega))) (by rfl) (da_cons (d_fz (d_var 9)) (da_cons (d_fz (d_var 10)) da_nil))) (nomark _)) (dw_or (dt_cmp (op_neD (hu64 hr)) o2_ne (d_callC k_plus (hr.mono (by first | decide | (simp only [Nat.add_eq]; omega))) (by rfl) (da_cons (d_fz (d_var 7)) (da_cons (d_fz (d_var 8)) da_nil))) (d_callC k_law_add (hr.mono (by first | decide | (simp only [Nat.add_eq]; omega))) (by rfl) (da_cons (d_fz (d_var 7)) (da_cons (d_fz (d_var 8)) da_nil))) (nomark _)) (dw_or (dt_cmp (op_neD (hu64 hr)) o2_ne (d_callC k_minus (hr.mono (by first | decide | (simp only [Nat.add_eq]; omega))) (by rfl) (da_cons (d_fz (d_var 7)) (da_cons (d_fz (d_var 8)) da_nil))) (d_callC k_law_sub (hr.mono (by first | decide | (simp only [Nat.add_eq]; omega))) (by rfl) (da_cons (d_fz (d_var 7)) (da_cons (d_fz (d_var 8)) da_nil))) (nomark _)) (dw_or1 (dt_cmp (op_neD (hu64 hr)) o2_ne (d_callC k_times (hr.mono (by first | decide | (simp only [Nat.add_eq]; omega))) (by rfl) (da_cons (d_fz (d_var 7)) (da_cons (d_fz (d_var 8)) da_nil))) (d_callC k_law_mul (hr.mono (by first | decide | (simp only [Nat.add_eq]; omega))) (by rfl) (da_cons (d_fz (d_var 7)) (da_cons (d_fz (d_var 8)) da_nil))) (nomark _)))))))
    (ds_one (ds_ret d_bl))
    ds_nil)
    (ds_cons (ds_if (DW.dt (dw_and (dt_cmp (op_neD (hu64 hr)) o2_ne (d_ix ix_seq o2_ix (d_var 8) d_int (fun _ _ => rfl)) d_int (nomark _)) (dw_and1 (dt_cmp (op_neD (hu64 hr)) o2_ne (d_callC k_over (hr.mono (by first | decide | (simp only [Nat.add_eq]; omega))) (by rfl) (da_cons (d_fz (d_var 7)) (da_cons (d_fz (d_var 8)) da_nil))) (d_callC k_law_fr (hr.mono (by first | decide | (simp only [Nat.add_eq]; omega))) (by rfl) (da_cons (d_fz (d_op or_mulI o2_mulI (d_ix ix_seq o2_ix (d_var 7) d_int (fun _ _ => rfl)) (d_ix ix_seq o2_ix (d_var 8) d_int (fun _ _ => rfl)))) (da_cons (d_fz (d_op or_mulI o2_mulI (d_ix ix_seq o2_ix (d_var 7) d_int (fun _ _ => rfl)) (d_ix ix_seq o2_ix (d_var 8) d_int (fun _ _ => rfl)))) da_nil))) (nomark _)))))
    (ds_one (ds_ret d_bl))
    ds_nil)
    (ds_cons (ds_if (DW.dt (dw_or (dt_cmp (op_neD (hu64 hr)) o2_ne (d_callC k_is_less (hr.mono (by first | decide | (simp only [Nat.add_eq]; omega))) (by rfl) (da_cons (d_fz (d_var 7)) (da_cons (d_fz (d_var 8)) da_nil))) (d_cmp op_lt o2_cmp (d_callC k_law_sign (hr.mono (by first | decide | (simp only [Nat.add_eq]; omega))) (by rfl) (da_cons (d_fz (d_var 7)) (da_cons (d_fz (d_var 8)) da_nil))) d_int (nomark _)) (nomark _)) (dw_or (dt_cmp (op_neD (hu64 hr)) o2_ne (d_callC k_is_whole_part (hr.mono (by first | decide | (simp only [Nat.add_eq]; omega))) (by rfl) (da_cons (d_fz (d_var 7)) da_nil)) (d_cmp (op_eqD (hu64 hr)) o2_eq (d_ix ix_seq o2_ix (d_var 7) d_int (fun _ _ => rfl)) d_int (nomark _)) (nomark _)) (dw_or1 (dt_cmp (op_neD (hu64 hr)) o2_ne (d_callC k_whole_below (hr.mono (by first | decide | (simp only [Nat.add_eq]; omega))) (by rfl) (da_cons (d_fz (d_var 7)) da_nil)) (d_op or_fdiv o2_fdiv (d_ix ix_seq o2_ix (d_var 7) d_int (fun _ _ => rfl)) (d_ix ix_seq o2_ix (d_var 7) d_int (fun _ _ => rfl))) (nomark _))))))
    (ds_one (ds_ret d_bl))
    ds_nil)
    (ds_cons (ds_if (DW.dt (dw_or (dt_cmp (op_neD (hu64 hr)) o2_ne (d_callC k_whole_above (hr.mono (by first | decide | (simp only [Nat.add_eq]; omega))) (by rfl) (da_cons (d_fz (d_var 7)) da_nil)) (d_op or_add o2_add (d_op or_fdiv o2_fdiv (d_ix ix_seq o2_ix (d_var 7) d_int (fun _ _ => rfl)) (d_ix ix_seq o2_ix (d_var 7) d_int (fun _ _ => rfl))) (d_if (dt_cmp op_gt o2_cmp (d_ix ix_seq o2_ix (d_var 7) d_int (fun _ _ => rfl)) d_int (nomark _)) d_int d_int)) (nomark _)) (dw_or (dt_cmp (op_neD (hu64 hr)) o2_ne (d_callC k_total (hr.mono (by first | decide | (simp only [Nat.add_eq]; omega))) (by rfl) (da_cons (d_fz (d_lst (da_cons (d_fz (d_var 7)) (da_cons (d_fz (d_var 8)) (da_cons (d_fz (d_var 7)) da_nil))))) da_nil)) (d_callC k_law_add (hr.mono (by first | decide | (simp only [Nat.add_eq]; omega))) (by rfl) (da_cons (d_fz (d_callC k_law_add (hr.mono (by first | decide | (simp only [Nat.add_eq]; omega))) (by rfl) (da_cons (d_fz (d_var 7)) (da_cons (d_fz (d_var 8)) da_nil)))) (da_cons (d_fz (d_var 7)) da_nil))) (nomark _)) (dw_or1 (dt_cmp (op_neD (hu64 hr)) o2_ne (d_callC k_total (hr.mono (by first | decide | (simp only [Nat.add_eq]; omega))) (by rfl) (da_cons (d_fz (d_lst da_nil)) da_nil)) (d_tup (da_cons d_int (da_cons d_int da_nil))) (nomark _))))))
    (ds_one (ds_ret d_bl))
    ds_nil)
    (ds_cons (ds_set nd rfl (by first | exact .inl rfl | exact .inr rfl) (d_fz (d_lc rfl nd (di_rng1 (by rfl) z_range (da_cons d_int da_nil)) (own := [("k", 12)]) (blkOk_by (by kernel_rfl)) (by decide) (fun _ _ _ _ _ => (dg_nm nd rfl (by first | exact .inl rfl | exact .inr rfl))) (fun _ _ _ _ _ => dts_nil) (fun _ _ _ _ _ => (d_fz (d_callC k_law_drawn (hr.mono (by first | decide | (simp only [Nat.add_eq]; omega))) (by rfl) (da_cons (d_fz (d_var 0)) da_nil)))))))
    (ds_cons (ds_set nd rfl (by first | exact .inl rfl | exact .inr rfl) (d_fz (d_ix ix_seq o2_ix (d_var 1) d_int (fun _ _ => rfl))))
    (ds_cons (ds_for PassesOwn.never rfl (di_seq (d_var 1)) (dg_nm nd rfl (by first | exact .inl rfl | exact .inr rfl))
    (ds_one (ds_set nd rfl (by first | exact .inl rfl | exact .inr rfl) (d_fz (d_if (dt_cmp op_lt o2_cmp (d_callC k_law_sign (hr.mono (by first | decide | (simp only [Nat.add_eq]; omega))) (by rfl) (da_cons (d_fz (d_var 3)) (da_cons (d_fz (d_var 2)) da_nil))) d_int (nomark _)) (d_var 3) (d_var 2))))))
    (ds_cons (ds_set nd rfl (by first | exact .inl rfl | exact .inr rfl) (d_fz (d_callC k_scaled (hr.mono (by first | decide | (simp only [Nat.add_eq]; omega))) (by rfl) (da_cons (d_fz (d_callTy call_list_of on_list (by rfl) z_list (by decide +kernel) (da_cons (d_var 1) da_nil))) da_nil))))
    (ds_cons (ds_set nd rfl (by first | exact .inl rfl | exact .inr rfl) (d_fz (d_lc rfl nd (di_rng1 (by rfl) z_range (da_cons d_int da_nil)) (own := [("k", 12)]) (blkOk_by (by kernel_rfl)) (by decide) (fun _ _ _ _ _ => (dg_nm nd rfl (by first | exact .inl rfl | exact .inr rfl))) (fun _ _ _ _ _ => (dts_one (dt_cmp (op_neD (hu64 hr)) o2_ne (d_ix ix_seq o2_ix (d_ix ix_seq o2_ix (d_var 1) (d_var 12) (fun _ _ => rfl)) d_int (fun _ _ => rfl)) d_int (nomark _)))) (fun _ _ _ _ _ => (d_fz (d_var 12))))))
    (ds_cons (ds_if (DW.dt (dw_or (dt_cmp (op_neD (hu64 hr)) o2_ne (d_callC k_least_of (hr.mono (by first | decide | (simp only [Nat.add_eq]; omega))) (by rfl) (da_cons (d_fz (d_callTy call_list_of on_list (by rfl) z_list (by decide +kernel) (da_cons (d_var 1) da_nil))) da_nil)) (d_var 2) (nomark _)) (dw_or1 (dt_cmp op_notN o2_notN (d_callC k_least_of (hr.mono (by first | decide | (simp only [Nat.add_eq]; omega))) (by rfl) (da_cons (d_fz (d_lst da_nil)) da_nil)) d_non (nomark _)))))
    (ds_one (ds_ret d_bl))
    ds_nil)
    (ds_cons (ds_if (dt_cmp op_gt o2_cmp (d_callB call_len on_len (by rfl) z_len (by decide +kernel) (da_cons (d_var 5) da_nil)) d_int (nomark _))
    (ds_cons (ds_setLcF rfl nd rfl rfl (sw_true rfl rfl rfl (by decide +kernel)) (di_rng2 (by rfl) z_range (da_cons d_int (da_cons d_int da_nil))) (own := [("k", 12)]) (blkOk_by (by kernel_rfl)) (by decide) (fun _ _ _ _ _ => (dg_nm nd rfl (by first | exact .inl rfl | exact .inr rfl))) (fun _ _ _ _ _ => (dts_one (dt_cmp (op_eqD (hu64 hr)) o2_eq (d_callB call_len on_len (by rfl) z_len (by decide +kernel) (da_cons (d_lc rfl nd (di_seq (d_var 4)) (own := [("n", 13)]) (blkOk_by (by kernel_rfl)) (by decide) (fun _ _ _ _ _ => (dg_nm nd rfl (by first | exact .inl rfl | exact .inr rfl))) (fun _ _ _ _ _ => (dts_one (dt_cmp (op_neD (hu64 hr)) o2_ne (d_op op_modN o2_mod (d_callTy call_int1 on_int (by rfl) z_int (by decide +kernel) (da_cons (d_callB call_abs on_abs (by rfl) z_abs (by decide +kernel) (da_cons (d_var 13) da_nil)) da_nil)) (d_var 12)) d_int (nomark _)))) (fun _ _ _ _ _ => (d_fz (d_var 13)))) da_nil)) d_int (nomark _)))) (fun _ _ _ _ _ => (d_fz (d_var 12))))
    (ds_cons (ds_if (DW.dt (dw_or (dt_cmp (op_neD (hu64 hr)) o2_ne (d_var 11) (d_lst (da_cons d_int da_nil)) (nomark _)) (dw_or1 (dt_cmp op_le o2_cmp (d_op or_mulI o2_mulI (d_ix ix_seq o2_ix (d_var 4) (d_ix ix_seq o2_ix (d_var 5) d_int (fun _ _ => rfl)) (fun _ _ => rfl)) (d_ix ix_seq o2_ix (d_ix ix_seq o2_ix (d_var 1) (d_ix ix_seq o2_ix (d_var 5) d_int (fun _ _ => rfl)) (fun _ _ => rfl)) d_int (fun _ _ => rfl))) d_int (nomark _)))))
    (ds_one (ds_ret d_bl))
    ds_nil)
    (ds_one (ds_if (dt_cmp op_gt o2_cmp (d_callB call_len on_len (by rfl) z_len (by decide +kernel) (da_cons (d_lc rfl nd (di_rng1 (by rfl) z_range (da_cons d_int da_nil)) (own := [("k", 12)]) (blkOk_by (by kernel_rfl)) (by decide) (fun _ _ _ _ _ => (dg_nm nd rfl (by first | exact .inl rfl | exact .inr rfl))) (fun _ _ _ _ _ => (dts_one (dt_cmp (op_neD (hu64 hr)) o2_ne (d_callC k_law_fr (hr.mono (by first | decide | (simp only [Nat.add_eq]; omega))) (by rfl) (da_cons (d_fz (d_op or_mulI o2_mulI (d_ix ix_seq o2_ix (d_ix ix_seq o2_ix (d_var 1) (d_var 12) (fun _ _ => rfl)) d_int (fun _ _ => rfl)) (d_ix ix_seq o2_ix (d_var 4) (d_ix ix_seq o2_ix (d_var 5) d_int (fun _ _ => rfl)) (fun _ _ => rfl)))) (da_cons (d_fz (d_ix ix_seq o2_ix (d_ix ix_seq o2_ix (d_var 1) (d_var 12) (fun _ _ => rfl)) d_int (fun _ _ => rfl))) da_nil))) (d_callC k_law_fr (hr.mono (by first | decide | (simp only [Nat.add_eq]; omega))) (by rfl) (da_cons (d_fz (d_op or_mulI o2_mulI (d_ix ix_seq o2_ix (d_var 4) (d_var 12) (fun _ _ => rfl)) (d_ix ix_seq o2_ix (d_ix ix_seq o2_ix (d_var 1) (d_ix ix_seq o2_ix (d_var 5) d_int (fun _ _ => rfl)) (fun _ _ => rfl)) d_int (fun _ _ => rfl)))) (da_cons (d_fz (d_ix ix_seq o2_ix (d_ix ix_seq o2_ix (d_var 1) (d_ix ix_seq o2_ix (d_var 5) d_int (fun _ _ => rfl)) (fun _ _ => rfl)) d_int (fun _ _ => rfl))) da_nil))) (nomark _)))) (fun _ _ _ _ _ => (d_fz (d_var 12)))) da_nil)) d_int (nomark _))
    (ds_one (ds_ret d_bl))
    ds_nil))))
    (ds_one (ds_if (dt_cmp (op_neD (hu64 hr)) o2_ne (d_var 4) (d_tup (da_cons d_int (da_cons d_int (da_cons d_int (da_cons d_int da_nil))))) (nomark _))
    (ds_one (ds_ret d_bl))
    ds_nil)))
    (ds_cons (ds_for PassesOwn.never rfl (di_seq (d_fz (d_lst (da_cons (d_fz (d_tup (da_cons (d_fz (d_var 9)) (da_cons (d_fz (d_var 10)) da_nil)))) (da_cons (d_fz (d_var 7)) (da_cons (d_fz (d_callTy call_list_of on_list (by rfl) z_list (by decide +kernel) (da_cons (d_var 7) da_nil))) (da_cons (d_fz (d_tup (da_cons (d_fz (d_var 9)) (da_cons d_int da_nil)))) (da_cons (d_fz (d_tup (da_cons (d_fz (d_var 9)) da_nil))) (da_cons (d_fz (d_tup (da_cons (d_fz (d_ix ix_seq o2_ix (d_var 7) d_int (fun _ _ => rfl))) (da_cons (d_fz (d_ix ix_seq o2_ix (d_var 7) d_int (fun _ _ => rfl))) (da_cons d_int da_nil))))) (da_cons d_non (da_cons (d_fz (d_tup (da_cons d_bl (da_cons d_int da_nil)))) (da_cons (d_fz (d_tup (da_cons (d_fz (d_ix ix_seq o2_ix (d_var 7) d_int (fun _ _ => rfl))) (da_cons d_bl da_nil)))) (da_cons (d_fz (d_tup (da_cons (d_fz (d_op or_mulI o2_mulI d_int (d_var 9))) (da_cons d_int da_nil)))) da_nil))))))))))))) (dg_nm nd rfl (by first | exact .inl rfl | exact .inr rfl))
    (ds_one (ds_if (dt_cmp (op_neD (hu64 hr)) o2_ne (d_callC k_is_part (hr.mono (by first | decide | (simp only [Nat.add_eq]; omega))) (by rfl) (da_cons (d_fz (d_var 6)) da_nil)) (d_callC k_law_is_fr (hr.mono (by first | decide | (simp only [Nat.add_eq]; omega))) (by rfl) (da_cons (d_fz (d_var 6)) da_nil)) (nomark _))
    (ds_one (ds_ret d_bl))
    ds_nil)))
    (ds_cons (ds_for PassesOwn.never rfl (di_seq (d_fz (d_lst (da_cons (d_fz (d_callTy call_tuple_of on_tuple (by rfl) z_tuple (by decide +kernel) (da_cons (d_var 1) da_nil))) (da_cons (d_fz (d_var 1)) (da_cons (d_fz (d_callTy call_tuple_of on_tuple (by rfl) z_tuple (by decide +kernel) (da_cons (d_slice (d_var 1) (do_some d_int) do_none) da_nil))) (da_cons (d_fz (d_op or_add o2_add (d_callTy call_tuple_of on_tuple (by rfl) z_tuple (by decide +kernel) (da_cons (d_slice (d_var 1) do_none (do_some d_int)) da_nil)) (d_tup (da_cons (d_fz (d_tup (da_cons d_int (da_cons d_int da_nil)))) da_nil)))) (da_cons d_non (da_cons (d_fz (d_op or_add o2_add (d_callTy call_tuple_of on_tuple (by rfl) z_tuple (by decide +kernel) (da_cons (d_slice (d_var 1) do_none (do_some d_int)) da_nil)) (d_tup (da_cons d_non da_nil)))) da_nil))))))))) (dg_nm nd rfl (by first | exact .inl rfl | exact .inr rfl))
    (ds_one (ds_if (dt_cmp (op_neD (hu64 hr)) o2_ne (d_callC k_are_parts (hr.mono (by first | decide | (simp only [Nat.add_eq]; omega))) (by rfl) (da_cons (d_fz (d_var 6)) (da_cons d_int da_nil))) (d_callC k_law_are_frs (hr.mono (by first | decide | (simp only [Nat.add_eq]; omega))) (by rfl) (da_cons (d_fz (d_var 6)) (da_cons d_int da_nil))) (nomark _))
    (ds_one (ds_ret d_bl))
    ds_nil)))
    (ds_one (ds_ret (d_and (d_cmp (op_eqD (hu64 hr)) o2_eq (d_callC k_divisor (hr.mono (by first | decide | (simp only [Nat.add_eq]; omega))) (by rfl) (da_cons (d_fz (d_var 9)) (da_cons d_int da_nil))) (d_callB call_abs on_abs (by rfl) z_abs (by decide +kernel) (da_cons (d_var 9) da_nil)) (nomark _)) (d_and (d_cmp (op_eqD (hu64 hr)) o2_eq (d_callC k_divisor (hr.mono (by first | decide | (simp only [Nat.add_eq]; omega))) (by rfl) (da_cons d_int (da_cons (d_fz (d_un un_neg o1_neg d_int)) da_nil))) d_int (nomark _)) (d_one (d_cmp (op_eqD (hu64 hr)) o2_eq (d_callC k_dot (hr.mono (by first | decide | (simp only [Nat.add_eq]; omega))) (by rfl) (da_cons (d_fz (d_tup (da_cons d_int (da_cons (d_fz (d_un un_neg o1_neg d_int)) da_nil)))) (da_cons (d_fz (d_tup (da_cons (d_fz (d_var 7)) (da_cons (d_fz (d_var 8)) da_nil)))) da_nil))) (d_callC k_law_at (hr.mono (by first | decide | (simp only [Nat.add_eq]; omega))) (by rfl) (da_cons (d_fz (d_tup (da_cons d_int (da_cons (d_fz (d_un un_neg o1_neg d_int)) da_nil)))) (da_cons (d_fz (d_tup (da_cons (d_fz (d_var 7)) (da_cons (d_fz (d_var 8)) da_nil)))) da_nil))) (nomark _))))))))))))))))))))))
end
abbrev s_law : Stmt := topS 60
abbrev n_law : List Str := ["script", "state", "system", "row", "bad", "each", "value", "point", "good", "weights", "k", "told", "many", "rows", "found", "bound", "less", "end", "kind", "sign", "due"]
theorem sc_law : FnScope n_law ["script"] (defScope s_law) := ⟨rfl, rfl, rfl, by decide +kernel, rfl, by decide +kernel, by decide +kernel⟩
def f_law (n : Nat) : FS :=
    (fSeq (fIfS (fOr (fNot (fTru (fCall 1 (fn_law_reckons n) (fCons (fFz (fVar 1)) fNil)))) (fB (f2 opNe (fTup (fCons (fFz (fC (.int 1000000))) (fCons (fFz (fC (.int 24))) (fCons (fFz (fC (.int 8))) (fCons (fFz (fC D_KINDS)) fNil))))) (fTup (fCons (fC (.int 1000000)) (fCons (fC (.int 24)) (fCons (fC (.int 8)) (fCons (fFz (fTup (fCons (fC (.str "most")) (fCons (fC (.str "less")) (fCons (fC (.str "just")) fNil))))) fNil))))))))
    (fRet (fC (.bool false)))
    fNext)
    (fSeq (fSet 2 (fFz (fCall 4 (fn_law_system n) (fCons (fFz (fVar 1)) (fCons (fC (.int 4)) (fCons (fC (.int 6)) (fCons (fC (.bool false)) fNil)))))))
    (fSeq (fSetT (.tp [12, 13]) (fTup (fCons (fFz (f2 opIx (fVar 2) (fC (.int 1)))) (fCons (fFz (f2 opIx (fVar 2) (fC (.int 2)))) fNil))))
    (fSeq (fSet 3 (fFz (fIf (fB (f2 opGt (fN opLen (fCons (fVar 13) fNil)) (fC (.int 0)))) (fCall 2 (fn_law_pick n) (fCons (fFz (fVar 1)) (fCons (fFz (fN opList (fCons (fVar 13) fNil))) fNil))) (fTup (fCons (fFz (f2 opRepT (fTup (fCons (fC (.int 1)) fNil)) (fVar 12))) (fCons (fC (.str "most")) (fCons (fC (.int 3)) fNil)))))))
    (fSeq (fSet 4 (fFz (fLst (fCons (fFz (fN opList (fCons (fVar 3) fNil))) (fCons (fFz (fSl (fVar 3) fNo (fPart (fC (.int 2))))) (fCons (fFz (f2 opAdd (fTup (fCons (fFz (fN opList (fCons (f2 opIx (fVar 3) (fC (.int 0))) fNil))) fNil)) (fSl (fVar 3) (fPart (fC (.int 1))) fNo))) (fCons (fFz (fTup (fCons (fFz (f2 opIx (fVar 3) (fC (.int 0)))) (fCons (fC (.str "least")) (fCons (fFz (f2 opIx (fVar 3) (fC (.int 2)))) fNil))))) (fCons (fFz (fTup (fCons (fFz (f2 opIx (fVar 3) (fC (.int 0)))) (fCons (fC .none) (fCons (fFz (f2 opIx (fVar 3) (fC (.int 2)))) fNil))))) (fCons (fFz (f2 opAdd (fSl (fVar 3) fNo (fPart (fC (.int 2)))) (fTup (fCons (fC (.bool true)) fNil)))) (fCons (fC .none) fNil))))))))))
    (fSeq (fSet 4 (fFz (f2 opAdd (fVar 4) (fLst (fCons (fFz (f2 opAdd (fSl (fVar 3) fNo (fPart (fC (.int 2)))) (fTup (fCons (fC (.int 1000001)) fNil)))) (fCons (fFz (f2 opAdd (fTup (fCons (fFz (f2 opAdd (f2 opIx (fVar 3) (fC (.int 0))) (fTup (fCons (fC (.int 0)) fNil)))) fNil)) (fSl (fVar 3) (fPart (fC (.int 1))) fNo))) fNil))))))
    (fSeq (fFor (.nm 5) (fIt (fFz (f2 opAdd (fVar 4) (fLst (fCons (fFz (fVar 3)) (fCons (fFz (fTup (fCons (fFz (f2 opRepT (fTup (fCons (fC (.int 1000000)) fNil)) (fVar 12))) (fCons (fC (.str "less")) (fCons (fFz (f1 opNeg (fC (.int 1000000)))) fNil))))) (fCons (fFz (f2 opAdd (fTup (fCons (fFz (f2 opAdd (fTup (fCons (fC (.bool true)) fNil)) (fSl (f2 opIx (fVar 3) (fC (.int 0))) (fPart (fC (.int 1))) fNo))) fNil)) (fSl (fVar 3) (fPart (fC (.int 1))) fNo))) (fCons (fFz (f2 opAdd (fTup (fCons (fFz (f2 opRepT (fTup (fCons (fC .none) fNil)) (fVar 12))) fNil)) (fSl (fVar 3) (fPart (fC (.int 1))) fNo))) fNil))))))))
    (fIfS (fOr (fB (f2 opNe (fCall 2 (fn_is_row n) (fCons (fFz (fVar 5)) (fCons (fFz (fVar 12)) fNil))) (fCall 2 (fn_law_is_row n) (fCons (fFz (fVar 5)) (fCons (fFz (fVar 12)) fNil))))) (fB (f2 opNe (fCall 1 (fn_is_system n) (fCons (fFz (fTup (fCons (fC (.str "rows")) (fCons (fFz (fVar 12)) (fCons (fFz (f2 opAdd (fSl (fVar 13) fNo (fPart (fC (.int 2)))) (fTup (fCons (fFz (fVar 5)) fNil)))) fNil))))) fNil)) (fCall 1 (fn_law_is_system n) (fCons (fFz (fTup (fCons (fC (.str "rows")) (fCons (fFz (fVar 12)) (fCons (fFz (f2 opAdd (fSl (fVar 13) fNo (fPart (fC (.int 2)))) (fTup (fCons (fFz (fVar 5)) fNil)))) fNil))))) fNil)))))
    (fRet (fC (.bool false)))
    fNext))
    (fSeq (fSet 4 (fFz (fLst (fCons (fFz (fVar 2)) (fCons (fFz (fN opList (fCons (fVar 2) fNil))) (fCons (fFz (fSl (fVar 2) fNo (fPart (fC (.int 2))))) (fCons (fFz (f2 opAdd (fTup (fCons (fC (.str "row")) fNil)) (fSl (fVar 2) (fPart (fC (.int 1))) fNo))) (fCons (fFz (fTup (fCons (fC (.str "rows")) (fCons (fFz (fVar 12)) (fCons (fFz (fN opList (fCons (fVar 13) fNil))) fNil))))) (fCons (fFz (fTup (fCons (fC (.str "rows")) (fCons (fFz (f2 opAdd (fVar 12) (fC (.int 1)))) (fCons (fFz (f2 opAdd (fVar 13) (fTup (fCons (fFz (fVar 3)) fNil)))) fNil))))) (fCons (fFz (fTup (fCons (fC (.str "rows")) (fCons (fC (.int 0)) (fCons (fFz (fTup fNil)) fNil))))) fNil))))))))))
    (fSeq (fFor (.nm 6) (fIt (fFz (f2 opAdd (fVar 4) (fLst (fCons (fFz (fTup (fCons (fC (.str "rows")) (fCons (fC (.int 9)) (fCons (fFz (fTup fNil)) fNil))))) (fCons (fFz (fTup (fCons (fC (.str "rows")) (fCons (fC (.int 8)) (fCons (fFz (fTup fNil)) fNil))))) (fCons (fFz (fTup (fCons (fC (.str "rows")) (fCons (fC (.bool true)) (fCons (fFz (fTup fNil)) fNil))))) (fCons (fFz (fTup (fCons (fC (.str "rows")) (fCons (fFz (fVar 12)) (fCons (fFz (f2 opRepT (fTup (fCons (fFz (fVar 3)) fNil)) (fC (.int 25)))) fNil))))) (fCons (fFz (fTup (fCons (fC (.str "rows")) (fCons (fFz (fVar 12)) (fCons (fFz (f2 opRepT (fTup (fCons (fFz (fVar 3)) fNil)) (fC (.int 24)))) fNil))))) (fCons (fC .none) fNil))))))))))
    (fIfS (fB (f2 opNe (fCall 1 (fn_is_system n) (fCons (fFz (fVar 6)) fNil)) (fCall 1 (fn_law_is_system n) (fCons (fFz (fVar 6)) fNil))))
    (fRet (fC (.bool false)))
    fNext))
    (fSeq (fSet 7 (fFz (fIf (fB (f2 opEq (fCall 2 (fn_law_take n) (fCons (fFz (fVar 1)) (fCons (fC (.int 2)) fNil))) (fC (.int 0)))) (fN opTuple (fCons (fLc [10] (.nm 10) (fRng rng1 (fCons (fVar 12) fNil)) fYes (fFz (fCall 1 (fn_law_drawn n) (fCons (fFz (fVar 1)) fNil)))) fNil)) (fN opTuple (fCons (fLc [10] (.nm 10) (fRng rng1 (fCons (fVar 12) fNil)) fYes (fFz (fTup (fCons (fFz (f2 opSub (fCall 2 (fn_law_take n) (fCons (fFz (fVar 1)) (fCons (fC (.int 9)) fNil))) (fC (.int 4)))) (fCons (fC (.int 1)) fNil))))) fNil)))))
    (fSeq (fSet 8 (fFz (fCall 2 (fn_law_keeps n) (fCons (fFz (fVar 2)) (fCons (fFz (fVar 7)) fNil)))))
    (fSeq (fIfS (fOr (fB (f2 opNe (fCall 2 (fn_keeps_all n) (fCons (fFz (fVar 2)) (fCons (fFz (fVar 7)) fNil))) (fVar 8))) (fB (f2 opNe (fCall 2 (fn_tight n) (fCons (fFz (fVar 2)) (fCons (fFz (fVar 7)) fNil))) (fLc [10] (.nm 10) (fRng rng1 (fCons (fN opLen (fCons (fVar 13) fNil)) fNil)) (fB (f2 opEq (fCall 2 (fn_law_at n) (fCons (fFz (f2 opIx (f2 opIx (fVar 13) (fVar 10)) (fC (.int 0)))) (fCons (fFz (fVar 7)) fNil))) (fTup (fCons (fFz (f2 opIx (f2 opIx (fVar 13) (fVar 10)) (fC (.int 2)))) (fCons (fC (.int 1)) fNil))))) (fFz (fVar 10))))))
    (fRet (fC (.bool false)))
    fNext)
    (fSeq (fIfS (fB (f2 opGt (fN opLen (fCons (fLc [5] (.nm 5) (fIt (fVar 13)) (fOr (fB (f2 opNe (fCall 2 (fn_keeps n) (fCons (fFz (fVar 5)) (fCons (fFz (fVar 7)) fNil))) (fCall 2 (fn_law_keeps n) (fCons (fFz (fTup (fCons (fC (.str "rows")) (fCons (fFz (fVar 12)) (fCons (fFz (fTup (fCons (fFz (fVar 5)) fNil))) fNil))))) (fCons (fFz (fVar 7)) fNil))))) (fB (f2 opNe (fCall 2 (fn_slack n) (fCons (fFz (fVar 5)) (fCons (fFz (fVar 7)) fNil))) (fCall 2 (fn_law_sub n) (fCons (fFz (fTup (fCons (fFz (f2 opIx (fVar 5) (fC (.int 2)))) (fCons (fC (.int 1)) fNil)))) (fCons (fFz (fCall 2 (fn_law_at n) (fCons (fFz (f2 opIx (fVar 5) (fC (.int 0)))) (fCons (fFz (fVar 7)) fNil)))) fNil)))))) (fFz (fVar 5))) fNil)) (fC (.int 0))))
    (fRet (fC (.bool false)))
    fNext)
    (fSeq (fFor (.nm 6) (fIt (fFz (fLst (fCons (fFz (fVar 7)) (fCons (fFz (fN opList (fCons (fVar 7) fNil))) (fCons (fFz (fSl (fVar 7) (fPart (fC (.int 1))) fNo)) (fCons (fC .none) (fCons (fFz (f2 opAdd (fSl (fVar 7) fNo (fPart (f1 opNeg (fC (.int 1))))) (fTup (fCons (fFz (fTup (fCons (fC (.int 2)) (fCons (fC (.int 4)) fNil)))) fNil)))) (fCons (fFz (f2 opAdd (fSl (fVar 7) fNo (fPart (f1 opNeg (fC (.int 1))))) (fTup (fCons (fC (.int 3)) fNil)))) fNil)))))))))
    (fIfS (fB (f2 opNe (fCall 2 (fn_is_point n) (fCons (fFz (fVar 2)) (fCons (fFz (fVar 6)) fNil))) (fAndV (fIsi "tuple" (fVar 6)) (fAndV (fCall 2 (fn_law_are_frs n) (fCons (fFz (fVar 6)) (fCons (fFz (fVar 12)) fNil))) (fVar 8)))))
    (fRet (fC (.bool false)))
    fNext))
    (fSeq (fSet 9 (fFz (fN opTuple (fCons (fLc [10] (.nm 10) (fRng rng1 (fCons (fN opLen (fCons (fVar 13) fNil)) fNil)) fYes (fFz (fCall 2 (fn_law_pick n) (fCons (fFz (fVar 1)) (fCons (fFz (fLst (fCons (fFz (fTup (fCons (fC (.int 0)) (fCons (fC (.int 1)) fNil)))) (fCons (fFz (fTup (fCons (fC (.int 1)) (fCons (fC (.int 1)) fNil)))) (fCons (fFz (fTup (fCons (fC (.int 2)) (fCons (fC (.int 3)) fNil)))) (fCons (fFz (fTup (fCons (fFz (f1 opNeg (fC (.int 1)))) (fCons (fC (.int 1)) fNil)))) fNil)))))) fNil))))) fNil))))
    (fSeq (fFor (.nm 6) (fIt (fFz (fLst (fCons (fFz (fVar 9)) (fCons (fFz (fSl (fVar 9) (fPart (fC (.int 1))) fNo)) (fCons (fFz (fN opList (fCons (fVar 9) fNil))) (fCons (fC .none) (fCons (fFz (fN opTuple (fCons (fLc [10] (.nm 10) (fRng rng1 (fCons (fN opLen (fCons (fVar 13) fNil)) fNil)) fYes (fFz (fIf (fB (f2 opEq (fVar 10) (fC (.int 0)))) (fTup (fCons (fC (.int 1)) (fCons (fC (.int 1)) fNil))) (fTup (fCons (fC (.int 0)) (fCons (fC (.int 1)) fNil)))))) fNil))) (fCons (fFz (f2 opAdd (fVar 9) (fTup (fCons (fFz (fTup (fCons (fC (.int 1)) (fCons (fC (.int 2)) fNil)))) fNil)))) (fCons (fFz (f2 opAdd (fSl (fVar 9) fNo (fPart (f1 opNeg (fC (.int 1))))) (fTup (fCons (fFz (fTup (fCons (fC (.int 0)) (fCons (fC (.int 2)) fNil)))) fNil)))) fNil))))))))))
    (fIfS (fOr (fB (f2 opNe (fCall 2 (fn_are_weights n) (fCons (fFz (fVar 2)) (fCons (fFz (fVar 6)) fNil))) (fCall 2 (fn_law_weights n) (fCons (fFz (fVar 2)) (fCons (fFz (fVar 6)) fNil))))) (fB (f2 opNe (fCall 2 (fn_is_barred n) (fCons (fFz (fVar 2)) (fCons (fFz (fVar 6)) fNil))) (fCall 2 (fn_law_bars n) (fCons (fFz (fVar 2)) (fCons (fFz (fVar 6)) fNil))))))
    (fRet (fC (.bool false)))
    fNext))
    (fSeq (fIfS (fTru (fCall 2 (fn_law_weights n) (fCons (fFz (fVar 2)) (fCons (fFz (fVar 9)) fNil))))
    (fSeq (fSetT (.tp [14, 15, 16]) (fCall 2 (fn_law_weigh n) (fCons (fFz (fVar 2)) (fCons (fFz (fVar 9)) fNil))))
    (fSeq (fIfS (fB (f2 opNe (fCall 2 (fn_weighed n) (fCons (fFz (fVar 2)) (fCons (fFz (fVar 9)) fNil))) (fTup (fCons (fFz (fN opTuple (fCons (fVar 14) fNil))) (fCons (fFz (fVar 15)) (fCons (fFz (fVar 16)) fNil))))))
    (fRet (fC (.bool false)))
    fNext)
    (fIfS (fB (f2 opEq (fN opLen (fCons (fLc [5] (.nm 5) (fIt (fVar 14)) (fB (f2 opNe (f2 opIx (fVar 5) (fC (.int 1))) (fC (.int 1)))) (fFz (fVar 5))) fNil)) (fC (.int 0))))
    (fSeq (fSet 17 (fFz (f2 opSub (f2 opAdd (f2 opFdiv (f2 opIx (fVar 15) (fC (.int 0))) (f2 opIx (fVar 15) (fC (.int 1)))) (fCall 2 (fn_law_take n) (fCons (fFz (fVar 1)) (fCons (fC (.int 3)) fNil)))) (fC (.int 1)))))
    (fFor (.nm 18) (fIt (fFz (fTup (fCons (fC (.str "most")) (fCons (fC (.str "less")) (fCons (fC (.str "just")) fNil))))))
    (fSeq (fSet 19 (fFz (fCall 2 (fn_law_sign n) (fCons (fFz (fVar 15)) (fCons (fFz (fTup (fCons (fFz (fVar 17)) (fCons (fC (.int 1)) fNil)))) fNil)))))
    (fSeq (fSet 20 (fFz (fAndV (f2 opNe (fVar 18) (fC (.str "just"))) (fOrV (f2 opLt (fVar 19) (fC (.int 0))) (fAndV (f2 opEq (fVar 19) (fC (.int 0))) (fOrV (f2 opEq (fVar 18) (fC (.str "most"))) (fVar 16)))))))
    (fIfS (fOr (fB (f2 opNe (fCall 3 (fn_shows_row n) (fCons (fFz (fVar 2)) (fCons (fFz (fTup (fCons (fFz (fN opTuple (fCons (fLc [5] (.nm 5) (fIt (fVar 14)) fYes (fFz (f2 opIx (fVar 5) (fC (.int 0))))) fNil))) (fCons (fFz (fVar 18)) (fCons (fFz (fVar 17)) fNil))))) (fCons (fFz (fVar 9)) fNil)))) (fVar 20))) (fB (f2 (isBo true) (fCall 3 (fn_shows_row n) (fCons (fFz (fVar 2)) (fCons (fFz (fTup (fCons (fFz (f2 opIx (fVar 3) (fC (.int 0)))) (fCons (fC (.str "most")) (fCons (fFz (f2 opIx (fVar 3) (fC (.int 2)))) fNil))))) (fCons (fC .none) fNil)))) (fC (.bool false)))))
    (fRet (fC (.bool false)))
    fNext)))))
    fNext)))
    fNext)
    (fSeq (fSet 10 (fFz (fIf (fB (f2 opGt (fN opLen (fCons (fVar 13) fNil)) (fC (.int 0)))) (fCall 2 (fn_law_take n) (fCons (fFz (fVar 1)) (fCons (fFz (fN opLen (fCons (fVar 13) fNil))) fNil))) (fC (.int 0)))))
    (fSeq (fIfS (fOr (fB (f2 opNe (fCall 2 (fn_with_row n) (fCons (fFz (fVar 2)) (fCons (fFz (fVar 3)) fNil))) (fTup (fCons (fC (.str "rows")) (fCons (fFz (fVar 12)) (fCons (fFz (f2 opAdd (fVar 13) (fTup (fCons (fFz (fVar 3)) fNil)))) fNil)))))) (fAnd (fB (f2 opGt (fN opLen (fCons (fVar 13) fNil)) (fC (.int 0)))) (fB (f2 opNe (fCall 2 (fn_without n) (fCons (fFz (fVar 2)) (fCons (fFz (fVar 10)) fNil))) (fTup (fCons (fC (.str "rows")) (fCons (fFz (fVar 12)) (fCons (fFz (f2 opAdd (fSl (fVar 13) fNo (fPart (fVar 10))) (fSl (fVar 13) (fPart (f2 opAdd (fVar 10) (fC (.int 1)))) fNo))) fNil))))))))
    (fRet (fC (.bool false)))
    fNext)
    (fSeq (fIfS (fB (f2 opNe (fCall 1 (fn_loosened n) (fCons (fFz (fVar 2)) fNil)) (fTup (fCons (fC (.str "rows")) (fCons (fFz (fVar 12)) (fCons (fFz (fN opTuple (fCons (fLc [5] (.nm 5) (fIt (fVar 13)) fYes (fFz (fTup (fCons (fFz (f2 opIx (fVar 5) (fC (.int 0)))) (fCons (fFz (fIf (fB (f2 opEq (f2 opIx (fVar 5) (fC (.int 1))) (fC (.str "less")))) (fC (.str "most")) (f2 opIx (fVar 5) (fC (.int 1))))) (fCons (fFz (f2 opIx (fVar 5) (fC (.int 2)))) fNil)))))) fNil))) fNil))))))
    (fRet (fC (.bool false)))
    fNext)
    (fSeq (fIfS (fAnd (fB (f2 opNe (f2 opIx (fVar 3) (fC (.int 1))) (fC (.str "just")))) (fB (f2 opEq (fCall 2 (fn_keeps n) (fCons (fFz (fCall 1 (fn_turned n) (fCons (fFz (fVar 3)) fNil))) (fCons (fFz (fVar 7)) fNil))) (fCall 2 (fn_keeps n) (fCons (fFz (fVar 3)) (fCons (fFz (fVar 7)) fNil))))))
    (fRet (fC (.bool false)))
    fNext)
    (fSeq (fSet 11 (fFz (fLst (fCons (fFz (fCall 3 (fn_is_whole n) (fCons (fC (.int 3)) (fCons (fC (.int 0)) (fCons (fC (.int 3)) fNil))))) (fCons (fFz (fCall 3 (fn_is_whole n) (fCons (fC (.int 4)) (fCons (fC (.int 0)) (fCons (fC (.int 3)) fNil))))) (fCons (fFz (fCall 3 (fn_is_whole n) (fCons (fC (.bool true)) (fCons (fC (.int 0)) (fCons (fC (.int 3)) fNil))))) (fCons (fFz (fCall 3 (fn_are_numbers n) (fCons (fFz (fTup (fCons (fC (.int 1)) (fCons (fFz (f1 opNeg (fC (.int 2)))) fNil)))) (fCons (fC (.int 2)) (fCons (fC (.int 2)) fNil))))) (fCons (fFz (fCall 3 (fn_are_numbers n) (fCons (fFz (fTup (fCons (fC (.int 1)) (fCons (fC (.int 3)) fNil)))) (fCons (fC (.int 2)) (fCons (fC (.int 2)) fNil))))) (fCons (fFz (fCall 3 (fn_are_numbers n) (fCons (fFz (fLst (fCons (fC (.int 1)) fNil))) (fCons (fC (.int 1)) (fCons (fC (.int 2)) fNil))))) fNil)))))))))
    (fRet (f2 opEq (fVar 11) (fLst (fCons (fC (.bool true)) (fCons (fC (.bool false)) (fCons (fC (.bool false)) (fCons (fC (.bool true)) (fCons (fC (.bool false)) (fCons (fC (.bool false)) fNil)))))))))))))))))))))))))))))))
section
variable {P : Program} {w : World} {K : PySem.W.Frag} {mg : Str → Option Value} {base : Heap}
theorem ok_law (n : Nat) (z_isinstance : mg "isinstance" = none) (z_len : mg "len" = none) (z_list : mg "list" = none) (z_range : mg "range" = none) (z_tuple : mg "tuple" = none) (c_MOST_ROWS : ∃ t, mg "MOST_ROWS" = some (.int 24 t)) (c_MOST_UNKNOWNS : ∃ t, mg "MOST_UNKNOWNS" = some (.int 8 t)) (c_MOST_NUMBER : ∃ t, mg "MOST_NUMBER" = some (.int 1000000 t)) (c_KINDS : ∃ (a : Addr) (v : V) (u : Value), mg "KINDS" = some u ∧ RelV v u ∧ ∀ H : Hp, Rp K H v D_KINDS) (k_law_are_frs : Cal P w K mg base "_law_are_frs" 3 2 (fn_law_are_frs n)) (k_law_at : Cal P w K mg base "_law_at" 3 2 (fn_law_at n)) (k_law_bars : Cal P w K mg base "_law_bars" 5 2 (fn_law_bars n)) (k_law_drawn : Cal P w K mg base "_law_drawn" 2 1 (fn_law_drawn n)) (k_law_is_row : Cal P w K mg base "_law_is_row" 1 2 (fn_law_is_row n)) (k_law_is_system : Cal P w K mg base "_law_is_system" 2 1 (fn_law_is_system n)) (k_law_keeps : Cal P w K mg base "_law_keeps" 4 2 (fn_law_keeps n)) (k_law_pick : Cal P w K mg base "_law_pick" 2 2 (fn_law_pick n)) (k_law_reckons : Cal P w K mg base "_law_reckons" 6 1 (fn_law_reckons n)) (k_law_sign : Cal P w K mg base "_law_sign" 1 2 (fn_law_sign n)) (k_law_sub : Cal P w K mg base "_law_sub" 3 2 (fn_law_sub n)) (k_law_system : Cal P w K mg base "_law_system" 3 4 (fn_law_system n)) (k_law_take : Cal P w K mg base "_law_take" 1 2 (fn_law_take n)) (k_law_weigh : Cal P w K mg base "_law_weigh" 3 2 (fn_law_weigh n)) (k_law_weights : Cal P w K mg base "_law_weights" 4 2 (fn_law_weights n)) (k_are_numbers : Cal P w K mg base "are_numbers" 2 3 (fn_are_numbers n)) (k_are_weights : Cal P w K mg base "are_weights" 4 2 (fn_are_weights n)) (k_is_barred : Cal P w K mg base "is_barred" 5 2 (fn_is_barred n)) (k_is_point : Cal P w K mg base "is_point" 8 2 (fn_is_point n)) (k_is_row : Cal P w K mg base "is_row" 3 2 (fn_is_row n)) (k_is_system : Cal P w K mg base "is_system" 4 1 (fn_is_system n)) (k_is_whole : Cal P w K mg base "is_whole" 1 3 (fn_is_whole n)) (k_keeps : Cal P w K mg base "keeps" 6 2 (fn_keeps n)) (k_keeps_all : Cal P w K mg base "keeps_all" 7 2 (fn_keeps_all n)) (k_loosened : Cal P w K mg base "loosened" 1 1 (fn_loosened n)) (k_shows_row : Cal P w K mg base "shows_row" 5 3 (fn_shows_row n)) (k_slack : Cal P w K mg base "slack" 6 2 (fn_slack n)) (k_tight : Cal P w K mg base "tight" 7 2 (fn_tight n)) (k_turned : Cal P w K mg base "turned" 1 1 (fn_turned n)) (k_weighed : Cal P w K mg base "weighed" 4 2 (fn_weighed n)) (k_with_row : Cal P w K mg base "with_row" 1 2 (fn_with_row n)) (k_without : Cal P w K mg base "without" 1 2 (fn_without n)) (ev : ∀ S : StD, Good S → S.cells.length ≤ 63 → ∃ S', f_law n (lawEnv 21 1) S = .rt (.d (.bool true)) S') {f fs : Addr} {fd fds : FuncData} (F : Fun K "law" "law" s_law f fd) (CS : FnOk P w K mg base CX0 1 fs fds ["script"] (spState K)) (ms : mg "_law_state" = some (.ref fs)) (ks : PySem.W.keepIn K (.ref fs) = true) (bs : Binds K fds ["script"] []) : FnOk P w K mg base CX0 9 f fd ["script"] (spLaw K) := by
  refine law_ok (k := 8) (ff := f_law n) F sc_law rfl rfl rfl (by decide) (by decide) rfl (by first | exact .inl rfl | exact .inr rfl) (by first | exact .inl rfl | exact .inr rfl) rfl CS ms ks bs (fun cdv A outer s H E hr hk => ?_) (by decide) ev (fun env he => rfl)
  have nd := sc_law.nd
  exact (ds_cons (ds_if (DW.dt (dw_or (dt_not (dt_tru (d_callC k_law_reckons (hr.mono (by first | decide | (simp only [Nat.add_eq]; omega))) (by rfl) (da_cons (d_fz (d_var 1)) da_nil)))) (dw_or1 (dt_cmp (op_neD (hu64 hr)) o2_ne (d_tup (da_cons (d_fz (d_gint rfl c_MOST_NUMBER)) (da_cons (d_fz (d_gint rfl c_MOST_ROWS)) (da_cons (d_fz (d_gint rfl c_MOST_UNKNOWNS)) (da_cons (d_fz (d_gval rfl c_KINDS)) da_nil))))) (d_tup (da_cons d_int (da_cons d_int (da_cons d_int (da_cons (d_fz (d_tup (da_cons d_str (da_cons d_str (da_cons d_str da_nil))))) da_nil))))) (nomark _)))))
    (ds_one (ds_ret d_bl))
    ds_nil)
    (ds_cons (ds_set nd rfl (by first | exact .inl rfl | exact .inr rfl) (d_fz (d_callC k_law_system (hr.mono (by first | decide | (simp only [Nat.add_eq]; omega))) (by rfl) (da_cons (d_fz (d_var 1)) (da_cons d_int (da_cons d_int (da_cons d_bl da_nil)))))))
    (ds_cons (ds_setT (d_tup (da_cons (d_fz (d_ix ix_seq o2_ix (d_var 2) d_int (fun _ _ => rfl))) (da_cons (d_fz (d_ix ix_seq o2_ix (d_var 2) d_int (fun _ _ => rfl))) da_nil))) (dg_tp rfl (pgs_cons (pg_name (i := 12) nd rfl (by first | exact .inl rfl | exact .inr rfl)) (pgs_cons (pg_name (i := 13) nd rfl (by first | exact .inl rfl | exact .inr rfl)) pgs_nil))))
    (ds_cons (ds_set nd rfl (by first | exact .inl rfl | exact .inr rfl) (d_fz (d_if (dt_cmp op_gt o2_cmp (d_callB call_len on_len (by rfl) z_len (by decide +kernel) (da_cons (d_var 13) da_nil)) d_int (nomark _)) (d_callC k_law_pick (hr.mono (by first | decide | (simp only [Nat.add_eq]; omega))) (by rfl) (da_cons (d_fz (d_var 1)) (da_cons (d_fz (d_callTy call_list_of on_list (by rfl) z_list (by decide +kernel) (da_cons (d_var 13) da_nil))) da_nil))) (d_tup (da_cons (d_fz (d_op or_repT o2_repT (d_tup (da_cons d_int da_nil)) (d_var 12))) (da_cons d_str (da_cons d_int da_nil)))))))
    (ds_cons (ds_set nd rfl (by first | exact .inl rfl | exact .inr rfl) (d_fz (d_lst (da_cons (d_fz (d_callTy call_list_of on_list (by rfl) z_list (by decide +kernel) (da_cons (d_var 3) da_nil))) (da_cons (d_fz (d_slice (d_var 3) do_none (do_some d_int))) (da_cons (d_fz (d_op or_add o2_add (d_tup (da_cons (d_fz (d_callTy call_list_of on_list (by rfl) z_list (by decide +kernel) (da_cons (d_ix ix_seq o2_ix (d_var 3) d_int (fun _ _ => rfl)) da_nil))) da_nil)) (d_slice (d_var 3) (do_some d_int) do_none))) (da_cons (d_fz (d_tup (da_cons (d_fz (d_ix ix_seq o2_ix (d_var 3) d_int (fun _ _ => rfl))) (da_cons d_str (da_cons (d_fz (d_ix ix_seq o2_ix (d_var 3) d_int (fun _ _ => rfl))) da_nil))))) (da_cons (d_fz (d_tup (da_cons (d_fz (d_ix ix_seq o2_ix (d_var 3) d_int (fun _ _ => rfl))) (da_cons d_non (da_cons (d_fz (d_ix ix_seq o2_ix (d_var 3) d_int (fun _ _ => rfl))) da_nil))))) (da_cons (d_fz (d_op or_add o2_add (d_slice (d_var 3) do_none (do_some d_int)) (d_tup (da_cons d_bl da_nil)))) (da_cons d_non da_nil))))))))))
    (ds_cons (ds_set nd rfl (by first | exact .inl rfl | exact .inr rfl) (d_fz (d_op or_add o2_add (d_var 4) (d_lst (da_cons (d_fz (d_op or_add o2_add (d_slice (d_var 3) do_none (do_some d_int)) (d_tup (da_cons d_int da_nil)))) (da_cons (d_fz (d_op or_add o2_add (d_tup (da_cons (d_fz (d_op or_add o2_add (d_ix ix_seq o2_ix (d_var 3) d_int (fun _ _ => rfl)) (d_tup (da_cons d_int da_nil)))) da_nil)) (d_slice (d_var 3) (do_some d_int) do_none))) da_nil))))))
    (ds_cons (ds_for PassesOwn.never rfl (di_seq (d_fz (d_op or_add o2_add (d_var 4) (d_lst (da_cons (d_fz (d_var 3)) (da_cons (d_fz (d_tup (da_cons (d_fz (d_op or_repT o2_repT (d_tup (da_cons d_int da_nil)) (d_var 12))) (da_cons d_str (da_cons (d_fz (d_un un_neg o1_neg d_int)) da_nil))))) (da_cons (d_fz (d_op or_add o2_add (d_tup (da_cons (d_fz (d_op or_add o2_add (d_tup (da_cons d_bl da_nil)) (d_slice (d_ix ix_seq o2_ix (d_var 3) d_int (fun _ _ => rfl)) (do_some d_int) do_none))) da_nil)) (d_slice (d_var 3) (do_some d_int) do_none))) (da_cons (d_fz (d_op or_add o2_add (d_tup (da_cons (d_fz (d_op or_repT o2_repT (d_tup (da_cons d_non da_nil)) (d_var 12))) da_nil)) (d_slice (d_var 3) (do_some d_int) do_none))) da_nil)))))))) (dg_nm nd rfl (by first | exact .inl rfl | exact .inr rfl))
    (ds_one (ds_if (DW.dt (dw_or (dt_cmp (op_neD (hu64 hr)) o2_ne (d_callC k_is_row (hr.mono (by first | decide | (simp only [Nat.add_eq]; omega))) (by rfl) (da_cons (d_fz (d_var 5)) (da_cons (d_fz (d_var 12)) da_nil))) (d_callC k_law_is_row (hr.mono (by first | decide | (simp only [Nat.add_eq]; omega))) (by rfl) (da_cons (d_fz (d_var 5)) (da_cons (d_fz (d_var 12)) da_nil))) (nomark _)) (dw_or1 (dt_cmp (op_neD (hu64 hr)) o2_ne (d_callC k_is_system (hr.mono (by first | decide | (simp only [Nat.add_eq]; omega))) (by rfl) (da_cons (d_fz (d_tup (da_cons d_str (da_cons (d_fz (d_var 12)) (da_cons (d_fz (d_op or_add o2_add (d_slice (d_var 13) do_none (do_some d_int)) (d_tup (da_cons (d_fz (d_var 5)) da_nil)))) da_nil))))) da_nil)) (d_callC k_law_is_system (hr.mono (by first | decide | (simp only [Nat.add_eq]; omega))) (by rfl) (da_cons (d_fz (d_tup (da_cons d_str (da_cons (d_fz (d_var 12)) (da_cons (d_fz (d_op or_add o2_add (d_slice (d_var 13) do_none (do_some d_int)) (d_tup (da_cons (d_fz (d_var 5)) da_nil)))) da_nil))))) da_nil)) (nomark _)))))
    (ds_one (ds_ret d_bl))
    ds_nil)))
    (ds_cons (ds_set nd rfl (by first | exact .inl rfl | exact .inr rfl) (d_fz (d_lst (da_cons (d_fz (d_var 2)) (da_cons (d_fz (d_callTy call_list_of on_list (by rfl) z_list (by decide +kernel) (da_cons (d_var 2) da_nil))) (da_cons (d_fz (d_slice (d_var 2) do_none (do_some d_int))) (da_cons (d_fz (d_op or_add o2_add (d_tup (da_cons d_str da_nil)) (d_slice (d_var 2) (do_some d_int) do_none))) (da_cons (d_fz (d_tup (da_cons d_str (da_cons (d_fz (d_var 12)) (da_cons (d_fz (d_callTy call_list_of on_list (by rfl) z_list (by decide +kernel) (da_cons (d_var 13) da_nil))) da_nil))))) (da_cons (d_fz (d_tup (da_cons d_str (da_cons (d_fz (d_op or_add o2_add (d_var 12) d_int)) (da_cons (d_fz (d_op or_add o2_add (d_var 13) (d_tup (da_cons (d_fz (d_var 3)) da_nil)))) da_nil))))) (da_cons (d_fz (d_tup (da_cons d_str (da_cons d_int (da_cons (d_fz (d_tup da_nil)) da_nil))))) da_nil))))))))))
    (ds_cons (ds_for PassesOwn.never rfl (di_seq (d_fz (d_op or_add o2_add (d_var 4) (d_lst (da_cons (d_fz (d_tup (da_cons d_str (da_cons d_int (da_cons (d_fz (d_tup da_nil)) da_nil))))) (da_cons (d_fz (d_tup (da_cons d_str (da_cons d_int (da_cons (d_fz (d_tup da_nil)) da_nil))))) (da_cons (d_fz (d_tup (da_cons d_str (da_cons d_bl (da_cons (d_fz (d_tup da_nil)) da_nil))))) (da_cons (d_fz (d_tup (da_cons d_str (da_cons (d_fz (d_var 12)) (da_cons (d_fz (d_op or_repT o2_repT (d_tup (da_cons (d_fz (d_var 3)) da_nil)) d_int)) da_nil))))) (da_cons (d_fz (d_tup (da_cons d_str (da_cons (d_fz (d_var 12)) (da_cons (d_fz (d_op or_repT o2_repT (d_tup (da_cons (d_fz (d_var 3)) da_nil)) d_int)) da_nil))))) (da_cons d_non da_nil)))))))))) (dg_nm nd rfl (by first | exact .inl rfl | exact .inr rfl))
    (ds_one (ds_if (dt_cmp (op_neD (hu64 hr)) o2_ne (d_callC k_is_system (hr.mono (by first | decide | (simp only [Nat.add_eq]; omega))) (by rfl) (da_cons (d_fz (d_var 6)) da_nil)) (d_callC k_law_is_system (hr.mono (by first | decide | (simp only [Nat.add_eq]; omega))) (by rfl) (da_cons (d_fz (d_var 6)) da_nil)) (nomark _))
    (ds_one (ds_ret d_bl))
    ds_nil)))
    (ds_cons (ds_set nd rfl (by first | exact .inl rfl | exact .inr rfl) (d_fz (d_if (dt_cmp (op_eqD (hu64 hr)) o2_eq (d_callC k_law_take (hr.mono (by first | decide | (simp only [Nat.add_eq]; omega))) (by rfl) (da_cons (d_fz (d_var 1)) (da_cons d_int da_nil))) d_int (nomark _)) (d_callTy call_tuple_of on_tuple (by rfl) z_tuple (by decide +kernel) (da_cons (d_lc rfl nd (di_rng1 (by rfl) z_range (da_cons (d_var 12) da_nil)) (own := [("k", 10)]) (blkOk_by (by kernel_rfl)) (by decide) (fun _ _ _ _ _ => (dg_nm nd rfl (by first | exact .inl rfl | exact .inr rfl))) (fun _ _ _ _ _ => dts_nil) (fun _ _ _ _ _ => (d_fz (d_callC k_law_drawn (hr.mono (by first | decide | (simp only [Nat.add_eq]; omega))) (by rfl) (da_cons (d_fz (d_var 1)) da_nil))))) da_nil)) (d_callTy call_tuple_of on_tuple (by rfl) z_tuple (by decide +kernel) (da_cons (d_lc rfl nd (di_rng1 (by rfl) z_range (da_cons (d_var 12) da_nil)) (own := [("k", 10)]) (blkOk_by (by kernel_rfl)) (by decide) (fun _ _ _ _ _ => (dg_nm nd rfl (by first | exact .inl rfl | exact .inr rfl))) (fun _ _ _ _ _ => dts_nil) (fun _ _ _ _ _ => (d_fz (d_tup (da_cons (d_fz (d_op or_sub o2_sub (d_callC k_law_take (hr.mono (by first | decide | (simp only [Nat.add_eq]; omega))) (by rfl) (da_cons (d_fz (d_var 1)) (da_cons d_int da_nil))) d_int)) (da_cons d_int da_nil)))))) da_nil)))))
    (ds_cons (ds_set nd rfl (by first | exact .inl rfl | exact .inr rfl) (d_fz (d_callC k_law_keeps (hr.mono (by first | decide | (simp only [Nat.add_eq]; omega))) (by rfl) (da_cons (d_fz (d_var 2)) (da_cons (d_fz (d_var 7)) da_nil)))))
    (ds_cons (ds_if (DW.dt (dw_or (dt_cmp (op_neD (hu64 hr)) o2_ne (d_callC k_keeps_all (hr.mono (by first | decide | (simp only [Nat.add_eq]; omega))) (by rfl) (da_cons (d_fz (d_var 2)) (da_cons (d_fz (d_var 7)) da_nil))) (d_var 8) (nomark _)) (dw_or1 (dt_cmp (op_neD (hu64 hr)) o2_ne (d_callC k_tight (hr.mono (by first | decide | (simp only [Nat.add_eq]; omega))) (by rfl) (da_cons (d_fz (d_var 2)) (da_cons (d_fz (d_var 7)) da_nil))) (d_lc rfl nd (di_rng1 (by rfl) z_range (da_cons (d_callB call_len on_len (by rfl) z_len (by decide +kernel) (da_cons (d_var 13) da_nil)) da_nil)) (own := [("k", 10)]) (blkOk_by (by kernel_rfl)) (by decide) (fun _ _ _ _ _ => (dg_nm nd rfl (by first | exact .inl rfl | exact .inr rfl))) (fun _ _ _ _ _ => (dts_one (dt_cmp (op_eqD (hu64 hr)) o2_eq (d_callC k_law_at (hr.mono (by first | decide | (simp only [Nat.add_eq]; omega))) (by rfl) (da_cons (d_fz (d_ix ix_seq o2_ix (d_ix ix_seq o2_ix (d_var 13) (d_var 10) (fun _ _ => rfl)) d_int (fun _ _ => rfl))) (da_cons (d_fz (d_var 7)) da_nil))) (d_tup (da_cons (d_fz (d_ix ix_seq o2_ix (d_ix ix_seq o2_ix (d_var 13) (d_var 10) (fun _ _ => rfl)) d_int (fun _ _ => rfl))) (da_cons d_int da_nil))) (nomark _)))) (fun _ _ _ _ _ => (d_fz (d_var 10)))) (nomark _)))))
    (ds_one (ds_ret d_bl))
    ds_nil)
    (ds_cons (ds_if (dt_cmp op_gt o2_cmp (d_callB call_len on_len (by rfl) z_len (by decide +kernel) (da_cons (d_lc rfl nd (di_seq (d_var 13)) (own := [("each", 5)]) (blkOk_by (by kernel_rfl)) (by decide) (fun _ _ _ _ _ => (dg_nm nd rfl (by first | exact .inl rfl | exact .inr rfl))) (fun _ _ _ _ _ => (dts_one (DW.dt (dw_or (dt_cmp (op_neD (hu64 hr)) o2_ne (d_callC k_keeps (hr.mono (by first | decide | (simp only [Nat.add_eq]; omega))) (by rfl) (da_cons (d_fz (d_var 5)) (da_cons (d_fz (d_var 7)) da_nil))) (d_callC k_law_keeps (hr.mono (by first | decide | (simp only [Nat.add_eq]; omega))) (by rfl) (da_cons (d_fz (d_tup (da_cons d_str (da_cons (d_fz (d_var 12)) (da_cons (d_fz (d_tup (da_cons (d_fz (d_var 5)) da_nil))) da_nil))))) (da_cons (d_fz (d_var 7)) da_nil))) (nomark _)) (dw_or1 (dt_cmp (op_neD (hu64 hr)) o2_ne (d_callC k_slack (hr.mono (by first | decide | (simp only [Nat.add_eq]; omega))) (by rfl) (da_cons (d_fz (d_var 5)) (da_cons (d_fz (d_var 7)) da_nil))) (d_callC k_law_sub (hr.mono (by first | decide | (simp only [Nat.add_eq]; omega))) (by rfl) (da_cons (d_fz (d_tup (da_cons (d_fz (d_ix ix_seq o2_ix (d_var 5) d_int (fun _ _ => rfl))) (da_cons d_int da_nil)))) (da_cons (d_fz (d_callC k_law_at (hr.mono (by first | decide | (simp only [Nat.add_eq]; omega))) (by rfl) (da_cons (d_fz (d_ix ix_seq o2_ix (d_var 5) d_int (fun _ _ => rfl))) (da_cons (d_fz (d_var 7)) da_nil)))) da_nil))) (nomark _))))))) (fun _ _ _ _ _ => (d_fz (d_var 5)))) da_nil)) d_int (nomark _))
    (ds_one (ds_ret d_bl))
    ds_nil)
    (ds_cons (ds_for PassesOwn.never rfl (di_seq (d_fz (d_lst (da_cons (d_fz (d_var 7)) (da_cons (d_fz (d_callTy call_list_of on_list (by rfl) z_list (by decide +kernel) (da_cons (d_var 7) da_nil))) (da_cons (d_fz (d_slice (d_var 7) (do_some d_int) do_none)) (da_cons d_non (da_cons (d_fz (d_op or_add o2_add (d_slice (d_var 7) do_none (do_some (d_un un_neg o1_neg d_int))) (d_tup (da_cons (d_fz (d_tup (da_cons d_int (da_cons d_int da_nil)))) da_nil)))) (da_cons (d_fz (d_op or_add o2_add (d_slice (d_var 7) do_none (do_some (d_un un_neg o1_neg d_int))) (d_tup (da_cons d_int da_nil)))) da_nil))))))))) (dg_nm nd rfl (by first | exact .inl rfl | exact .inr rfl))
    (ds_one (ds_if (dt_cmp (op_neD (hu64 hr)) o2_ne (d_callC k_is_point (hr.mono (by first | decide | (simp only [Nat.add_eq]; omega))) (by rfl) (da_cons (d_fz (d_var 2)) (da_cons (d_fz (d_var 6)) da_nil))) (d_and (d_isi (by decide) (d_var 6) (by rfl) z_isinstance (by rfl) z_tuple (by decide +kernel)) (d_and (d_callC k_law_are_frs (hr.mono (by first | decide | (simp only [Nat.add_eq]; omega))) (by rfl) (da_cons (d_fz (d_var 6)) (da_cons (d_fz (d_var 12)) da_nil))) (d_one (d_var 8)))) (nomark _))
    (ds_one (ds_ret d_bl))
    ds_nil)))
    (ds_cons (ds_set nd rfl (by first | exact .inl rfl | exact .inr rfl) (d_fz (d_callTy call_tuple_of on_tuple (by rfl) z_tuple (by decide +kernel) (da_cons (d_lc rfl nd (di_rng1 (by rfl) z_range (da_cons (d_callB call_len on_len (by rfl) z_len (by decide +kernel) (da_cons (d_var 13) da_nil)) da_nil)) (own := [("k", 10)]) (blkOk_by (by kernel_rfl)) (by decide) (fun _ _ _ _ _ => (dg_nm nd rfl (by first | exact .inl rfl | exact .inr rfl))) (fun _ _ _ _ _ => dts_nil) (fun _ _ _ _ _ => (d_fz (d_callC k_law_pick (hr.mono (by first | decide | (simp only [Nat.add_eq]; omega))) (by rfl) (da_cons (d_fz (d_var 1)) (da_cons (d_fz (d_lst (da_cons (d_fz (d_tup (da_cons d_int (da_cons d_int da_nil)))) (da_cons (d_fz (d_tup (da_cons d_int (da_cons d_int da_nil)))) (da_cons (d_fz (d_tup (da_cons d_int (da_cons d_int da_nil)))) (da_cons (d_fz (d_tup (da_cons (d_fz (d_un un_neg o1_neg d_int)) (da_cons d_int da_nil)))) da_nil)))))) da_nil)))))) da_nil))))
    (ds_cons (ds_for PassesOwn.never rfl (di_seq (d_fz (d_lst (da_cons (d_fz (d_var 9)) (da_cons (d_fz (d_slice (d_var 9) (do_some d_int) do_none)) (da_cons (d_fz (d_callTy call_list_of on_list (by rfl) z_list (by decide +kernel) (da_cons (d_var 9) da_nil))) (da_cons d_non (da_cons (d_fz (d_callTy call_tuple_of on_tuple (by rfl) z_tuple (by decide +kernel) (da_cons (d_lc rfl nd (di_rng1 (by rfl) z_range (da_cons (d_callB call_len on_len (by rfl) z_len (by decide +kernel) (da_cons (d_var 13) da_nil)) da_nil)) (own := [("k", 10)]) (blkOk_by (by kernel_rfl)) (by decide) (fun _ _ _ _ _ => (dg_nm nd rfl (by first | exact .inl rfl | exact .inr rfl))) (fun _ _ _ _ _ => dts_nil) (fun _ _ _ _ _ => (d_fz (d_if (dt_cmp (op_eqD (hu64 hr)) o2_eq (d_var 10) d_int (nomark _)) (d_tup (da_cons d_int (da_cons d_int da_nil))) (d_tup (da_cons d_int (da_cons d_int da_nil))))))) da_nil))) (da_cons (d_fz (d_op or_add o2_add (d_var 9) (d_tup (da_cons (d_fz (d_tup (da_cons d_int (da_cons d_int da_nil)))) da_nil)))) (da_cons (d_fz (d_op or_add o2_add (d_slice (d_var 9) do_none (do_some (d_un un_neg o1_neg d_int))) (d_tup (da_cons (d_fz (d_tup (da_cons d_int (da_cons d_int da_nil)))) da_nil)))) da_nil)))))))))) (dg_nm nd rfl (by first | exact .inl rfl | exact .inr rfl))
    (ds_one (ds_if (DW.dt (dw_or (dt_cmp (op_neD (hu64 hr)) o2_ne (d_callC k_are_weights (hr.mono (by first | decide | (simp only [Nat.add_eq]; omega))) (by rfl) (da_cons (d_fz (d_var 2)) (da_cons (d_fz (d_var 6)) da_nil))) (d_callC k_law_weights (hr.mono (by first | decide | (simp only [Nat.add_eq]; omega))) (by rfl) (da_cons (d_fz (d_var 2)) (da_cons (d_fz (d_var 6)) da_nil))) (nomark _)) (dw_or1 (dt_cmp (op_neD (hu64 hr)) o2_ne (d_callC k_is_barred (hr.mono (by first | decide | (simp only [Nat.add_eq]; omega))) (by rfl) (da_cons (d_fz (d_var 2)) (da_cons (d_fz (d_var 6)) da_nil))) (d_callC k_law_bars (hr.mono (by first | decide | (simp only [Nat.add_eq]; omega))) (by rfl) (da_cons (d_fz (d_var 2)) (da_cons (d_fz (d_var 6)) da_nil))) (nomark _)))))
    (ds_one (ds_ret d_bl))
    ds_nil)))
    (ds_cons (ds_if (dt_tru (d_callC k_law_weights (hr.mono (by first | decide | (simp only [Nat.add_eq]; omega))) (by rfl) (da_cons (d_fz (d_var 2)) (da_cons (d_fz (d_var 9)) da_nil))))
    (ds_cons (ds_setT (d_callC k_law_weigh (hr.mono (by first | decide | (simp only [Nat.add_eq]; omega))) (by rfl) (da_cons (d_fz (d_var 2)) (da_cons (d_fz (d_var 9)) da_nil))) (dg_tp rfl (pgs_cons (pg_name (i := 14) nd rfl (by first | exact .inl rfl | exact .inr rfl)) (pgs_cons (pg_name (i := 15) nd rfl (by first | exact .inl rfl | exact .inr rfl)) (pgs_cons (pg_name (i := 16) nd rfl (by first | exact .inl rfl | exact .inr rfl)) pgs_nil)))))
    (ds_cons (ds_if (dt_cmp (op_neD (hu64 hr)) o2_ne (d_callC k_weighed (hr.mono (by first | decide | (simp only [Nat.add_eq]; omega))) (by rfl) (da_cons (d_fz (d_var 2)) (da_cons (d_fz (d_var 9)) da_nil))) (d_tup (da_cons (d_fz (d_callTy call_tuple_of on_tuple (by rfl) z_tuple (by decide +kernel) (da_cons (d_var 14) da_nil))) (da_cons (d_fz (d_var 15)) (da_cons (d_fz (d_var 16)) da_nil)))) (nomark _))
    (ds_one (ds_ret d_bl))
    ds_nil)
    (ds_one (ds_if (dt_cmp (op_eqD (hu64 hr)) o2_eq (d_callB call_len on_len (by rfl) z_len (by decide +kernel) (da_cons (d_lc rfl nd (di_seq (d_var 14)) (own := [("each", 5)]) (blkOk_by (by kernel_rfl)) (by decide) (fun _ _ _ _ _ => (dg_nm nd rfl (by first | exact .inl rfl | exact .inr rfl))) (fun _ _ _ _ _ => (dts_one (dt_cmp (op_neD (hu64 hr)) o2_ne (d_ix ix_seq o2_ix (d_var 5) d_int (fun _ _ => rfl)) d_int (nomark _)))) (fun _ _ _ _ _ => (d_fz (d_var 5)))) da_nil)) d_int (nomark _))
    (ds_cons (ds_set nd rfl (by first | exact .inl rfl | exact .inr rfl) (d_fz (d_op or_sub o2_sub (d_op or_add o2_add (d_op or_fdiv o2_fdiv (d_ix ix_seq o2_ix (d_var 15) d_int (fun _ _ => rfl)) (d_ix ix_seq o2_ix (d_var 15) d_int (fun _ _ => rfl))) (d_callC k_law_take (hr.mono (by first | decide | (simp only [Nat.add_eq]; omega))) (by rfl) (da_cons (d_fz (d_var 1)) (da_cons d_int da_nil)))) d_int)))
    (ds_one (ds_for PassesOwn.never rfl (di_seq (d_fz (d_tup (da_cons d_str (da_cons d_str (da_cons d_str da_nil)))))) (dg_nm nd rfl (by first | exact .inl rfl | exact .inr rfl))
    (ds_cons (ds_set nd rfl (by first | exact .inl rfl | exact .inr rfl) (d_fz (d_callC k_law_sign (hr.mono (by first | decide | (simp only [Nat.add_eq]; omega))) (by rfl) (da_cons (d_fz (d_var 15)) (da_cons (d_fz (d_tup (da_cons (d_fz (d_var 17)) (da_cons d_int da_nil)))) da_nil)))))
    (ds_cons (ds_set nd rfl (by first | exact .inl rfl | exact .inr rfl) (d_fz (d_and (d_cmp (op_neD (hu64 hr)) o2_ne (d_var 18) d_str (nomark _)) (d_one (d_or (d_cmp op_lt o2_cmp (d_var 19) d_int (nomark _)) (d_one (d_and (d_cmp (op_eqD (hu64 hr)) o2_eq (d_var 19) d_int (nomark _)) (d_one (d_or (d_cmp (op_eqD (hu64 hr)) o2_eq (d_var 18) d_str (nomark _)) (d_one (d_var 16)))))))))))
    (ds_one (ds_if (DW.dt (dw_or (dt_cmp (op_neD (hu64 hr)) o2_ne (d_callC k_shows_row (hr.mono (by first | decide | (simp only [Nat.add_eq]; omega))) (by rfl) (da_cons (d_fz (d_var 2)) (da_cons (d_fz (d_tup (da_cons (d_fz (d_callTy call_tuple_of on_tuple (by rfl) z_tuple (by decide +kernel) (da_cons (d_lc rfl nd (di_seq (d_var 14)) (own := [("each", 5)]) (blkOk_by (by kernel_rfl)) (by decide) (fun _ _ _ _ _ => (dg_nm nd rfl (by first | exact .inl rfl | exact .inr rfl))) (fun _ _ _ _ _ => dts_nil) (fun _ _ _ _ _ => (d_fz (d_ix ix_seq o2_ix (d_var 5) d_int (fun _ _ => rfl))))) da_nil))) (da_cons (d_fz (d_var 18)) (da_cons (d_fz (d_var 17)) da_nil))))) (da_cons (d_fz (d_var 9)) da_nil)))) (d_var 20) (nomark _)) (dw_or1 (dt_cmp op_notBl o2_notBo (d_callC k_shows_row (hr.mono (by first | decide | (simp only [Nat.add_eq]; omega))) (by rfl) (da_cons (d_fz (d_var 2)) (da_cons (d_fz (d_tup (da_cons (d_fz (d_ix ix_seq o2_ix (d_var 3) d_int (fun _ _ => rfl))) (da_cons d_str (da_cons (d_fz (d_ix ix_seq o2_ix (d_var 3) d_int (fun _ _ => rfl))) da_nil))))) (da_cons d_non da_nil)))) d_bl (nomark _)))))
    (ds_one (ds_ret d_bl))
    ds_nil)))))))
    ds_nil))))
    ds_nil)
    (ds_cons (ds_set nd rfl (by first | exact .inl rfl | exact .inr rfl) (d_fz (d_if (dt_cmp op_gt o2_cmp (d_callB call_len on_len (by rfl) z_len (by decide +kernel) (da_cons (d_var 13) da_nil)) d_int (nomark _)) (d_callC k_law_take (hr.mono (by first | decide | (simp only [Nat.add_eq]; omega))) (by rfl) (da_cons (d_fz (d_var 1)) (da_cons (d_fz (d_callB call_len on_len (by rfl) z_len (by decide +kernel) (da_cons (d_var 13) da_nil))) da_nil))) d_int)))
    (ds_cons (ds_if (DW.dt (dw_or (dt_cmp (op_neD (hu64 hr)) o2_ne (d_callC k_with_row (hr.mono (by first | decide | (simp only [Nat.add_eq]; omega))) (by rfl) (da_cons (d_fz (d_var 2)) (da_cons (d_fz (d_var 3)) da_nil))) (d_tup (da_cons d_str (da_cons (d_fz (d_var 12)) (da_cons (d_fz (d_op or_add o2_add (d_var 13) (d_tup (da_cons (d_fz (d_var 3)) da_nil)))) da_nil)))) (nomark _)) (dw_or1 (DW.dt (dw_and (dt_cmp op_gt o2_cmp (d_callB call_len on_len (by rfl) z_len (by decide +kernel) (da_cons (d_var 13) da_nil)) d_int (nomark _)) (dw_and1 (dt_cmp (op_neD (hu64 hr)) o2_ne (d_callC k_without (hr.mono (by first | decide | (simp only [Nat.add_eq]; omega))) (by rfl) (da_cons (d_fz (d_var 2)) (da_cons (d_fz (d_var 10)) da_nil))) (d_tup (da_cons d_str (da_cons (d_fz (d_var 12)) (da_cons (d_fz (d_op or_add o2_add (d_slice (d_var 13) do_none (do_some (d_var 10))) (d_slice (d_var 13) (do_some (d_op or_add o2_add (d_var 10) d_int)) do_none))) da_nil)))) (nomark _))))))))
    (ds_one (ds_ret d_bl))
    ds_nil)
    (ds_cons (ds_if (dt_cmp (op_neD (hu64 hr)) o2_ne (d_callC k_loosened (hr.mono (by first | decide | (simp only [Nat.add_eq]; omega))) (by rfl) (da_cons (d_fz (d_var 2)) da_nil)) (d_tup (da_cons d_str (da_cons (d_fz (d_var 12)) (da_cons (d_fz (d_callTy call_tuple_of on_tuple (by rfl) z_tuple (by decide +kernel) (da_cons (d_lc rfl nd (di_seq (d_var 13)) (own := [("each", 5)]) (blkOk_by (by kernel_rfl)) (by decide) (fun _ _ _ _ _ => (dg_nm nd rfl (by first | exact .inl rfl | exact .inr rfl))) (fun _ _ _ _ _ => dts_nil) (fun _ _ _ _ _ => (d_fz (d_tup (da_cons (d_fz (d_ix ix_seq o2_ix (d_var 5) d_int (fun _ _ => rfl))) (da_cons (d_fz (d_if (dt_cmp (op_eqD (hu64 hr)) o2_eq (d_ix ix_seq o2_ix (d_var 5) d_int (fun _ _ => rfl)) d_str (nomark _)) d_str (d_ix ix_seq o2_ix (d_var 5) d_int (fun _ _ => rfl)))) (da_cons (d_fz (d_ix ix_seq o2_ix (d_var 5) d_int (fun _ _ => rfl))) da_nil))))))) da_nil))) da_nil)))) (nomark _))
    (ds_one (ds_ret d_bl))
    ds_nil)
    (ds_cons (ds_if (DW.dt (dw_and (dt_cmp (op_neD (hu64 hr)) o2_ne (d_ix ix_seq o2_ix (d_var 3) d_int (fun _ _ => rfl)) d_str (nomark _)) (dw_and1 (dt_cmp (op_eqD (hu64 hr)) o2_eq (d_callC k_keeps (hr.mono (by first | decide | (simp only [Nat.add_eq]; omega))) (by rfl) (da_cons (d_fz (d_callC k_turned (hr.mono (by first | decide | (simp only [Nat.add_eq]; omega))) (by rfl) (da_cons (d_fz (d_var 3)) da_nil))) (da_cons (d_fz (d_var 7)) da_nil))) (d_callC k_keeps (hr.mono (by first | decide | (simp only [Nat.add_eq]; omega))) (by rfl) (da_cons (d_fz (d_var 3)) (da_cons (d_fz (d_var 7)) da_nil))) (nomark _)))))
    (ds_one (ds_ret d_bl))
    ds_nil)
    (ds_cons (ds_set nd rfl (by first | exact .inl rfl | exact .inr rfl) (d_fz (d_lst (da_cons (d_fz (d_callC k_is_whole (hr.mono (by first | decide | (simp only [Nat.add_eq]; omega))) (by rfl) (da_cons d_int (da_cons d_int (da_cons d_int da_nil))))) (da_cons (d_fz (d_callC k_is_whole (hr.mono (by first | decide | (simp only [Nat.add_eq]; omega))) (by rfl) (da_cons d_int (da_cons d_int (da_cons d_int da_nil))))) (da_cons (d_fz (d_callC k_is_whole (hr.mono (by first | decide | (simp only [Nat.add_eq]; omega))) (by rfl) (da_cons d_bl (da_cons d_int (da_cons d_int da_nil))))) (da_cons (d_fz (d_callC k_are_numbers (hr.mono (by first | decide | (simp only [Nat.add_eq]; omega))) (by rfl) (da_cons (d_fz (d_tup (da_cons d_int (da_cons (d_fz (d_un un_neg o1_neg d_int)) da_nil)))) (da_cons d_int (da_cons d_int da_nil))))) (da_cons (d_fz (d_callC k_are_numbers (hr.mono (by first | decide | (simp only [Nat.add_eq]; omega))) (by rfl) (da_cons (d_fz (d_tup (da_cons d_int (da_cons d_int da_nil)))) (da_cons d_int (da_cons d_int da_nil))))) (da_cons (d_fz (d_callC k_are_numbers (hr.mono (by first | decide | (simp only [Nat.add_eq]; omega))) (by rfl) (da_cons (d_fz (d_lst (da_cons d_int da_nil))) (da_cons d_int (da_cons d_int da_nil))))) da_nil)))))))))
    (ds_one (ds_ret (d_cmp (op_eqD (hu64 hr)) o2_eq (d_var 11) (d_lst (da_cons d_bl (da_cons d_bl (da_cons d_bl (da_cons d_bl (da_cons d_bl (da_cons d_bl da_nil))))))) (nomark _))))))))))))))))))))))))))
end
end
end K01

namespace K01
open PySem L2 DV FM
theorem asg_nm (i : Nat) (x : D) (env : EnvD) : asgT (.nm i) x env = setE i (.d x) env := rfl
theorem asg_tp (is : List Nat) (xs : List D) (env : EnvD) : asgT (.tp is) (.tuple xs) env = setsE is xs env := rfl
theorem natL25 : ((25 : Nat) : Int) = 25 := rfl
theorem natL24 : ((24 : Nat) : Int) = 24 := rfl
theorem natL23 : ((23 : Nat) : Int) = 23 := rfl
theorem natL22 : ((22 : Nat) : Int) = 22 := rfl
theorem natL21 : ((21 : Nat) : Int) = 21 := rfl
theorem natL20 : ((20 : Nat) : Int) = 20 := rfl
theorem natL19 : ((19 : Nat) : Int) = 19 := rfl
theorem natL18 : ((18 : Nat) : Int) = 18 := rfl
theorem natL17 : ((17 : Nat) : Int) = 17 := rfl
theorem natL16 : ((16 : Nat) : Int) = 16 := rfl
theorem natL15 : ((15 : Nat) : Int) = 15 := rfl
theorem natL14 : ((14 : Nat) : Int) = 14 := rfl
theorem natL13 : ((13 : Nat) : Int) = 13 := rfl
theorem natL12 : ((12 : Nat) : Int) = 12 := rfl
theorem natL11 : ((11 : Nat) : Int) = 11 := rfl
theorem natL10 : ((10 : Nat) : Int) = 10 := rfl
theorem natL9 : ((9 : Nat) : Int) = 9 := rfl
theorem natL8 : ((8 : Nat) : Int) = 8 := rfl
theorem natL7 : ((7 : Nat) : Int) = 7 := rfl
theorem natL6 : ((6 : Nat) : Int) = 6 := rfl
theorem natL5 : ((5 : Nat) : Int) = 5 := rfl
theorem natL4 : ((4 : Nat) : Int) = 4 := rfl
theorem natL3 : ((3 : Nat) : Int) = 3 := rfl
theorem natL2 : ((2 : Nat) : Int) = 2 := rfl
theorem natL1 : ((1 : Nat) : Int) = 1 := rfl
theorem natL0 : ((0 : Nat) : Int) = 0 := rfl
theorem mod_okN {a b : Nat} (h : b ≠ 0) : opMod (.d (.int a)) (.d (.int b)) = some (.d (.int ((a % b : Nat) : Int))) := by rw [mod_ok (by omega)]; simp
theorem intI (i : Int) : opInt [.d (.int i)] = some (.d (.int i)) := by simp [opInt]
theorem szn {k : Nat} (h : k ≤ 1000) : (k ≤ sizeLine) = True := by
  have : sizeLine = 16777216 := by decide
  simp only [eq_iff_iff, iff_true]; omega
def oF (p : Fq) : D := .tuple [.int p.1, .int p.2]
theorem oF_sh (k : Nat) (p : Fq) : Sh (k + 1) (oF p) := Sh.tup fun x hx => by
  simp only [List.mem_cons, List.not_mem_nil, or_false] at hx
  rcases hx with rfl | rfl <;> exact .int _ _
theorem eqv_oF (p q : Fq) : PyData.eqv (oF p) (oF q) = (p == q) := by
  obtain ⟨a, b⟩ := p
  obtain ⟨c, d⟩ := q
  simp only [oF, PyData.eqv, PyData.eqvAll, Bool.and_true]
  rfl
theorem eqF (p q : Fq) : opEq (.d (oF p)) (.d (oF q)) = some (.d (.bool (p == q))) := by rw [eq_ok (oF_sh 0 p) (oF_sh 0 q), eqv_oF]
theorem neF (p q : Fq) : opNe (.d (oF p)) (.d (oF q)) = some (.d (.bool (!(p == q)))) := by rw [ne_ok (oF_sh 0 p) (oF_sh 0 q), eqv_oF]
theorem ixF0 (p : Fq) : opIx (.d (oF p)) (.d (.int 0)) = some (.d (.int p.1)) := by simp [oF, ixT, atI0]
theorem ixF1 (p : Fq) : opIx (.d (oF p)) (.d (.int 1)) = some (.d (.int p.2)) := by simp [oF, ixT, atI1]
abbrev Rw := List Int × Str × Int
def oR (r : Rw) : D := .tuple [.tuple (r.1.map .int), .str r.2.1, .int r.2.2]
def oS (m : Nat) (rs : List Rw) : D := .tuple [.str "rows", .int m, .tuple (rs.map oR)]
theorem ixR0 (r : Rw) : opIx (.d (oR r)) (.d (.int 0)) = some (.d (.tuple (r.1.map .int))) := by simp [oR, ixT, atI0]
theorem ixR1 (r : Rw) : opIx (.d (oR r)) (.d (.int 1)) = some (.d (.str r.2.1)) := by simp [oR, ixT, atI1]
theorem ixR2 (r : Rw) : opIx (.d (oR r)) (.d (.int 2)) = some (.d (.int r.2.2)) := by simp [oR, ixT, atI2]
theorem ixS0 (m : Nat) (rs : List Rw) : opIx (.d (oS m rs)) (.d (.int 0)) = some (.d (.str "rows")) := by simp [oS, ixT, atI0]
theorem ixS1 (m : Nat) (rs : List Rw) : opIx (.d (oS m rs)) (.d (.int 1)) = some (.d (.int m)) := by simp [oS, ixT, atI1]
theorem ixS2 (m : Nat) (rs : List Rw) : opIx (.d (oS m rs)) (.d (.int 2)) = some (.d (.tuple (rs.map oR))) := by simp [oS, ixT, atI2]
theorem sEq {a b : Str} (ha : PyData.strOk a = true) (hb : PyData.strOk b = true) : opEq (.d (.str a)) (.d (.str b)) = some (.d (.bool (a == b))) := by rw [eq_ok (.str 0 ha) (.str 0 hb)]; simp [PyData.eqv]
theorem sNe {a b : Str} (ha : PyData.strOk a = true) (hb : PyData.strOk b = true) : opNe (.d (.str a)) (.d (.str b)) = some (.d (.bool (!(a == b)))) := by rw [ne_ok (.str 0 ha) (.str 0 hb)]; simp [PyData.eqv]
theorem q_most_most : opEq (.d (.str "most")) (.d (.str "most")) = some (.d (.bool true)) := by rw [sEq (by decide +kernel) (by decide +kernel), show (("most" : Str) == "most") = true by decide +kernel]
theorem qn_most_most : opNe (.d (.str "most")) (.d (.str "most")) = some (.d (.bool false)) := by rw [sNe (by decide +kernel) (by decide +kernel), show (("most" : Str) == "most") = true by decide +kernel]; rfl
theorem q_most_less : opEq (.d (.str "most")) (.d (.str "less")) = some (.d (.bool false)) := by rw [sEq (by decide +kernel) (by decide +kernel), show (("most" : Str) == "less") = false by decide +kernel]
theorem qn_most_less : opNe (.d (.str "most")) (.d (.str "less")) = some (.d (.bool true)) := by rw [sNe (by decide +kernel) (by decide +kernel), show (("most" : Str) == "less") = false by decide +kernel]; rfl
theorem q_most_just : opEq (.d (.str "most")) (.d (.str "just")) = some (.d (.bool false)) := by rw [sEq (by decide +kernel) (by decide +kernel), show (("most" : Str) == "just") = false by decide +kernel]
theorem qn_most_just : opNe (.d (.str "most")) (.d (.str "just")) = some (.d (.bool true)) := by rw [sNe (by decide +kernel) (by decide +kernel), show (("most" : Str) == "just") = false by decide +kernel]; rfl
theorem q_less_most : opEq (.d (.str "less")) (.d (.str "most")) = some (.d (.bool false)) := by rw [sEq (by decide +kernel) (by decide +kernel), show (("less" : Str) == "most") = false by decide +kernel]
theorem qn_less_most : opNe (.d (.str "less")) (.d (.str "most")) = some (.d (.bool true)) := by rw [sNe (by decide +kernel) (by decide +kernel), show (("less" : Str) == "most") = false by decide +kernel]; rfl
theorem q_less_less : opEq (.d (.str "less")) (.d (.str "less")) = some (.d (.bool true)) := by rw [sEq (by decide +kernel) (by decide +kernel), show (("less" : Str) == "less") = true by decide +kernel]
theorem qn_less_less : opNe (.d (.str "less")) (.d (.str "less")) = some (.d (.bool false)) := by rw [sNe (by decide +kernel) (by decide +kernel), show (("less" : Str) == "less") = true by decide +kernel]; rfl
theorem q_less_just : opEq (.d (.str "less")) (.d (.str "just")) = some (.d (.bool false)) := by rw [sEq (by decide +kernel) (by decide +kernel), show (("less" : Str) == "just") = false by decide +kernel]
theorem qn_less_just : opNe (.d (.str "less")) (.d (.str "just")) = some (.d (.bool true)) := by rw [sNe (by decide +kernel) (by decide +kernel), show (("less" : Str) == "just") = false by decide +kernel]; rfl
theorem q_just_most : opEq (.d (.str "just")) (.d (.str "most")) = some (.d (.bool false)) := by rw [sEq (by decide +kernel) (by decide +kernel), show (("just" : Str) == "most") = false by decide +kernel]
theorem qn_just_most : opNe (.d (.str "just")) (.d (.str "most")) = some (.d (.bool true)) := by rw [sNe (by decide +kernel) (by decide +kernel), show (("just" : Str) == "most") = false by decide +kernel]; rfl
theorem q_just_less : opEq (.d (.str "just")) (.d (.str "less")) = some (.d (.bool false)) := by rw [sEq (by decide +kernel) (by decide +kernel), show (("just" : Str) == "less") = false by decide +kernel]
theorem qn_just_less : opNe (.d (.str "just")) (.d (.str "less")) = some (.d (.bool true)) := by rw [sNe (by decide +kernel) (by decide +kernel), show (("just" : Str) == "less") = false by decide +kernel]; rfl
theorem q_just_just : opEq (.d (.str "just")) (.d (.str "just")) = some (.d (.bool true)) := by rw [sEq (by decide +kernel) (by decide +kernel), show (("just" : Str) == "just") = true by decide +kernel]
theorem qn_just_just : opNe (.d (.str "just")) (.d (.str "just")) = some (.d (.bool false)) := by rw [sNe (by decide +kernel) (by decide +kernel), show (("just" : Str) == "just") = true by decide +kernel]; rfl
theorem app_ok {xs : List D} {y : D} (h : xs.length ≤ 1000) : opApp xs (.d y) = some (xs ++ [y]) := by
  have : sizeLine = 16777216 := by decide
  simp only [opApp]
  rw [if_pos (by omega)]
theorem slT (xs : List D) (lo hi : Option Int) : slD (.d (.tuple xs)) lo hi = some (.d (.tuple (cutL xs lo hi))) := rfl
theorem slO (xs : List D) (lo hi : Option Int) : slD (.own xs) lo hi = some (.own (cutL xs lo hi)) := rfl
theorem slL (xs : List D) (lo hi : Option Int) : slD (.d (.list xs)) lo hi = some (.own (cutL xs lo hi)) := rfl
theorem slW (xs : List D) (lo hi : Option Int) : slD (.bor xs) lo hi = some (.own (cutL xs lo hi)) := rfl
theorem asI_i (i : Int) : asI (.d (.int i)) = some i := rfl
theorem negI (i : Int) : opNeg (.d (.int i)) = some (.d (.int (-i))) := rfl
theorem ne_lo {k : Nat} {xs : List D} (hx : Sh k (.list xs)) (hk : k ≤ 64) : opNe (.d (.list xs)) (.own xs) = some (.d (.bool false)) := ne_same hx hk
theorem ne_oo {k : Nat} {xs : List D} (hx : Sh k (.list xs)) (hk : k ≤ 64) : opNe (.own xs) (.own xs) = some (.d (.bool false)) := ne_same hx hk
theorem isN_n : isN false (.d .none) (.d .none) = some (.d (.bool true)) := rfl
theorem isN_t (xs : List D) : isN false (.d (.tuple xs)) (.d .none) = some (.d (.bool false)) := rfl
theorem isN_F (p : Fq) : isN false (.d (oF p)) (.d .none) = some (.d (.bool false)) := rfl
theorem notN_n : isN true (.d .none) (.d .none) = some (.d (.bool false)) := rfl
theorem notN_t (xs : List D) : isN true (.d (.tuple xs)) (.d .none) = some (.d (.bool true)) := rfl
theorem notBo (a b : Bool) : isBo true (.d (.bool a)) (.d (.bool b)) = some (.d (.bool (true != decide (a = b)))) := rfl

local macro_rules | `(tactic| walk_at "ev") => `(tactic| simp only [fnOf, fSeq, fIfS, fPar, fSet, fSetT, setsE, fRet, fRetV, fCons, fNil, fFz, fVar, fC, fN, f1, f2, f3, fB, fCall, fTup, fLst, fAndV, fOrV, fNotV, fNot, fAnd, fOr, fIf, fIsi, fTru, truD, fNext, fBrk, fCnt, fM1, fSl, fNo, fPart, slT, slO, slL, slW, asI_i, negI, isN_n, isN_t, isN_F, notN_n, notN_t, notBo, Bool.bne_false, Bool.bne_true, bne_self_eq_false, asg_nm, asg_tp, intI, fFor, fRng, fLc, fIt, itT, itL, itO, itB, wipeE, dsOf, SV.fz, SV.rd, rd_d, fz_d, Res.bind_ok, Res.toS_ok, optR_some, optR_none, Option.map_some, Option.bind_some, asB, setE, notBor,
  ltI, leI, gtI, geI, neI, eqI, neB, eqB, addI, subI', absI', ixT, ixL, ixO, ixW, atI0, atI1, atI2, lenT, lenL, lenO, lenW, tupO, tupL, tupW, lstO, lstL, lstW, lstT,
  List.length_cons, List.length_nil, List.replicate, List.cons_append, List.nil_append, List.append_nil, List.getElem?_cons_succ, List.getElem?_cons_zero, List.set, if_true, if_false, settled, List.all_cons, List.all_nil, Bool.and_true, Bool.true_and, and_true, true_and, decide_eq_true_eq, Nat.reduceAdd, Nat.reduceSub, Nat.reduceLT, Nat.reduceLeDiff, Nat.reduceEqDiff, Nat.lt_irrefl, Bool.false_eq_true, reduceIte, Nat.zero_lt_succ, Nat.succ_lt_succ_iff, decide_true, decide_false, Bool.and_self, and_self, Bool.not_true, Bool.not_false, Bool.not_eq_true, Bool.not_eq_false, szn, ixR0, ixR1, ixR2, ixS0, ixS1, ixS2, q_most_most, qn_most_most, q_most_less, qn_most_less, q_most_just, qn_most_just, q_less_most, qn_less_most, q_less_less, qn_less_less, q_less_just, qn_less_just, q_just_most, qn_just_most, q_just_less, qn_just_less, q_just_just, qn_just_just, natL0, natL1, natL2, natL3, natL4, natL5, natL6, natL7, natL8, natL9, natL10, natL11, natL12, natL13, natL14, natL15, natL16, natL17, natL18, natL19, natL20, natL21, natL22, natL23, natL24, natL25, beq_self_eq_true, Int.reduceBEq, Int.reduceLT, Int.reduceLE, Int.reduceNeg, Int.reduceSub, Int.reduceAdd, Int.reduceMul, Int.reduceEq, Bool.or_false, Bool.false_or, Bool.true_or, Bool.or_true, Bool.and_false, Bool.false_and, ixF0, ixF1, eqF, neF, *])

/-! ### divisor, part -/
theorem euc (S : StD) : ∀ (n a b : Nat), b < n → whGo (fB (f2 opNe (fVar 1) (fC (.int 0)))) (fPar 0 1 (fCons (fFz (fVar 1)) (fCons (fFz (f2 opMod (fVar 0) (fVar 1))) fNil))) n [.d (.int a), .d (.int b)] S
    = .nx [.d (.int (Nat.gcd a b : Nat)), .d (.int 0)] S := by
  intro n
  induction n with
  | zero => intro a b h; omega
  | succ n ih =>
    intro a b h
    unfold whGo
    by_cases hb : b = 0
    · subst hb
      walk_at "ev"
      simp
    · have h2 : (!((b : Int) == 0)) = true := by simp; omega
      have h3 : opMod (.d (.int a)) (.d (.int b)) = some (.d (.int ((a % b : Nat) : Int))) := by rw [mod_ok (by omega)]; simp
      have h5 := ih b (a % b) (by have := Nat.mod_lt a (Nat.pos_of_ne_zero hb); omega)
      rw [Nat.gcd_comm b, ← Nat.gcd_rec, Nat.gcd_comm] at h5
      walk_at "ev"
theorem div_eq (n : Nat) (S : StD) (a b : Int) (h : b.natAbs < n) : fn_divisor n [.d (.int a), .d (.int b)] S = .ok (.d (.int (Int.gcd a b))) S := by
  have h2 := euc S n a.natAbs b.natAbs h
  unfold fn_divisor f_divisor
  walk_at "ev"
  rfl
/-- small enough for all reckoning here -/
abbrev Q9 (p : Fq) : Prop := Sf 900 p
section
variable {n : Nat} (hn : 2 ^ 2000 ≤ n)
include hn
theorem fuel {i : Int} (h : Sm 2000 i) : i.natAbs < n := Nat.lt_of_lt_of_le h hn
theorem part_eq (S : StD) {a b : Int} (ha : Sm 2000 a) (h : Sm 2000 b) (h0 : b ≠ 0) : fn_part n [.d (.int a), .d (.int b)] S = .ok (.d (oF (nrm a b))) S := by
  have hd := fun a b h => div_eq n S a b h
  unfold fn_part f_part
  by_cases hb : b < 0
  · have h2 : (0 - b).natAbs < n := fuel hn h.neg
    have h4 := gcd_pos' (a := 0 - a) (b := 0 - b) (by omega)
    have h5 : Sm 2000 (Int.gcd (0 - a) (0 - b) : Int) := by
      have := Nat.le_of_dvd (by omega) (Int.gcd_dvd_natAbs_right (0 - a) (0 - b))
      unfold Sm at *
      simp only [Int.natAbs_natCast]
      omega
    have h3 : ∀ x : Int, opFdiv (.d (.int x)) (.d (.int (Int.gcd (0 - a) (0 - b)))) = some (.d (.int (x / (Int.gcd (0 - a) (0 - b) : Int)))) := fun x => fdiv_ok (by omega) (big9_of h5)
    walk_at "ev"
    simp only [nrm, hb, if_true, oF]
  · have h2 : b.natAbs < n := fuel hn h
    have h4 := gcd_pos' (a := a) (b := b) (by omega)
    have h5 : Sm 2000 (Int.gcd a b : Int) := by
      have := Nat.le_of_dvd (by omega) (Int.gcd_dvd_natAbs_right a b)
      unfold Sm at *
      simp only [Int.natAbs_natCast]
      omega
    have h3 : ∀ x : Int, opFdiv (.d (.int x)) (.d (.int (Int.gcd a b))) = some (.d (.int (x / (Int.gcd a b : Int)))) := fun x => fdiv_ok (by omega) (big9_of h5)
    walk_at "ev"
    simp only [nrm, hb, if_false, oF]
theorem plus_eq (S : StD) {p q : Fq} (hp : Q9 p) (hq : Q9 q) (h1 : p.2 ≠ 0) (h2 : q.2 ≠ 0) : fn_plus n [.d (oF p), .d (oF q)] S = .ok (.d (oF (fadd p q))) S := by
  have e := part_eq hn S (a := p.1 * q.2 + q.1 * p.2) (b := p.2 * q.2) ((Sm.add (hp.1.mul hq.2) (hq.1.mul hp.2)).mono (by decide)) ((hp.2.mul hq.2).mono (by decide)) (Int.mul_ne_zero h1 h2)
  have m1 := mul_ok (big_of hp.1) (big_of hq.2)
  have m2 := mul_ok (big_of hq.1) (big_of hp.2)
  have m3 := mul_ok (big_of hp.2) (big_of hq.2)
  unfold fn_plus f_plus
  walk_at "ev"
  rfl
theorem minus_eq (S : StD) {p q : Fq} (hp : Q9 p) (hq : Q9 q) (h1 : p.2 ≠ 0) (h2 : q.2 ≠ 0) : fn_minus n [.d (oF p), .d (oF q)] S = .ok (.d (oF (fsub p q))) S := by
  have e := part_eq hn S (a := p.1 * q.2 - q.1 * p.2) (b := p.2 * q.2) ((Sm.sub (hp.1.mul hq.2) (hq.1.mul hp.2)).mono (by decide)) ((hp.2.mul hq.2).mono (by decide)) (Int.mul_ne_zero h1 h2)
  have m1 := mul_ok (big_of hp.1) (big_of hq.2)
  have m2 := mul_ok (big_of hq.1) (big_of hp.2)
  have m3 := mul_ok (big_of hp.2) (big_of hq.2)
  unfold fn_minus f_minus
  walk_at "ev"
  rfl
theorem times_eq (S : StD) {p q : Fq} (hp : Q9 p) (hq : Q9 q) (h1 : p.2 ≠ 0) (h2 : q.2 ≠ 0) : fn_times n [.d (oF p), .d (oF q)] S = .ok (.d (oF (fmul p q))) S := by
  have e := part_eq hn S (a := p.1 * q.1) (b := p.2 * q.2) ((hp.1.mul hq.1).mono (by decide)) ((hp.2.mul hq.2).mono (by decide)) (Int.mul_ne_zero h1 h2)
  have m1 := mul_ok (big_of hp.1) (big_of hq.1)
  have m3 := mul_ok (big_of hp.2) (big_of hq.2)
  unfold fn_times f_times
  walk_at "ev"
  rfl
theorem over_eq (S : StD) {p q : Fq} (hp : Q9 p) (hq : Q9 q) (h1 : p.2 ≠ 0) (h2 : q.1 ≠ 0) : fn_over n [.d (oF p), .d (oF q)] S = .ok (.d (oF (fdiv p q))) S := by
  have e := part_eq hn S (a := p.1 * q.2) (b := p.2 * q.1) ((hp.1.mul hq.2).mono (by decide)) ((hp.2.mul hq.1).mono (by decide)) (Int.mul_ne_zero h1 h2)
  have m1 := mul_ok (big_of hp.1) (big_of hq.2)
  have m3 := mul_ok (big_of hp.2) (big_of hq.1)
  unfold fn_over f_over
  walk_at "ev"
  rfl
omit hn
theorem is_less_eq (S : StD) {p q : Fq} (hp : Q9 p) (hq : Q9 q) : fn_is_less n [.d (oF p), .d (oF q)] S = .ok (.d (.bool (decide (p.1 * q.2 < q.1 * p.2)))) S := by
  have m1 := mul_ok (big_of hp.1) (big_of hq.2)
  have m2 := mul_ok (big_of hq.1) (big_of hp.2)
  unfold fn_is_less f_is_less
  walk_at "ev"
theorem whole_below_eq (S : StD) {p : Fq} (hp : Q9 p) (h : 0 < p.2) : fn_whole_below n [.d (oF p)] S = .ok (.d (.int (p.1 / p.2))) S := by
  have m1 := fun x => fdiv_ok (i := x) h (big9_of hp.2)
  unfold fn_whole_below f_whole_below
  walk_at "ev"
theorem whole_above_eq (S : StD) {p : Fq} (hp : Q9 p) (h : 0 < p.2) : fn_whole_above n [.d (oF p)] S = .ok (.d (.int (0 - (0 - p.1) / p.2))) S := by
  have m1 := fun x => fdiv_ok (i := x) h (big9_of hp.2)
  unfold fn_whole_above f_whole_above
  walk_at "ev"
theorem is_whole_part_eq (S : StD) (p : Fq) : fn_is_whole_part n [.d (oF p)] S = .ok (.d (.bool (p.2 == 1))) S := by
  unfold fn_is_whole_part f_is_whole_part
  walk_at "ev"
/-! ### the law's own parts -/
abbrev frB : FS := fSeq (fIfS (fB (f2 opEq (fVar 4) (fC (.int 0)))) fBrk fNext)
    (fPar 3 4 (fCons (fFz (fVar 4)) (fCons (fFz (f2 opMod (fN opInt (fCons (fVar 3) fNil)) (fVar 4))) fNil)))
theorem fr_stop (S : StD) (fa fb t : SV) (x : D) (xs : List D) (a : Nat) : forGo (.nm 2) frB (x :: xs) [fa, fb, t, .d (.int a), .d (.int 0)] S = .nx [fa, fb, .d x, .d (.int a), .d (.int 0)] S := by
  simp only [forGo, frB]
  walk_at "ev"
theorem fr_step (S : StD) (fa fb t : SV) (x : D) (xs : List D) (a b : Nat) (hb : b ≠ 0) : forGo (.nm 2) frB (x :: xs) [fa, fb, t, .d (.int a), .d (.int b)] S = forGo (.nm 2) frB xs [fa, fb, .d x, .d (.int b), .d (.int (a % b : Nat))] S := by
  have h1 : ((b : Int) == 0) = false := by simp; omega
  have h2 := mod_okN (a := a) hb
  rw [forGo]
  simp only [frB]
  walk_at "ev"
theorem fr_loop (S : StD) (fa fb : SV) : ∀ (L : Nat) (xs : List D) (a b : Nat) (t : SV), b < 2 ^ L → 2 * L + 1 ≤ xs.length → ∃ t', forGo (.nm 2) frB xs [fa, fb, t, .d (.int a), .d (.int b)] S = .nx [fa, fb, t', .d (.int (Nat.gcd a b : Nat)), .d (.int 0)] S := by
  intro L
  induction L with
  | zero =>
    intro xs a b t h h2
    have : b = 0 := by simpa using h
    subst this
    cases xs with
    | nil => simp at h2
    | cons x xs => exact ⟨.d x, by rw [Nat.gcd_zero_right]; exact fr_stop S fa fb t x xs a⟩
  | succ L ih =>
    intro xs a b t h h2
    match xs, h2 with
    | x :: y :: xs, h2 =>
    by_cases hb : b = 0
    · subst hb
      exact ⟨.d x, by rw [Nat.gcd_zero_right]; exact fr_stop S fa fb t x _ a⟩
    · rw [fr_step S fa fb t x _ a b hb]
      have g1 : Nat.gcd b (a % b) = Nat.gcd a b := by rw [Nat.gcd_comm b, ← Nat.gcd_rec, Nat.gcd_comm]
      by_cases hr : a % b = 0
      · rw [hr] at g1 ⊢
        rw [Nat.gcd_zero_right] at g1
        exact ⟨.d y, by rw [← g1]; exact fr_stop S fa fb _ y _ b⟩
      · rw [fr_step S fa fb _ y _ b _ hr]
        have hlt := Nat.mod_lt a (Nat.pos_of_ne_zero hb)
        have h3 : b % (a % b) < 2 ^ L := by
          have k1 := Nat.mod_lt b (Nat.pos_of_ne_zero hr)
          have k2 := Nat.div_add_mod b (a % b)
          have k3 : 1 ≤ b / (a % b) := Nat.div_pos (Nat.le_of_lt hlt) (Nat.pos_of_ne_zero hr)
          have k4 : (a % b) * 1 ≤ (a % b) * (b / (a % b)) := Nat.mul_le_mul_left _ k3
          rw [Nat.pow_succ] at h
          generalize (a % b) * (b / (a % b)) = z at *
          omega
        obtain ⟨t', ht⟩ := ih xs (a % b) (b % (a % b)) (.d y) h3 (by simp only [List.length_cons] at h2; omega)
        have g2 : Nat.gcd (a % b) (b % (a % b)) = Nat.gcd a b := by rw [Nat.gcd_comm (a % b), ← Nat.gcd_rec, Nat.gcd_comm, g1]
        rw [g2] at ht
        exact ⟨t', ht⟩
theorem law_fr_eq (S : StD) {a b : Int} (ha : Sm 1900 a) (h : Sm 1900 b) (h0 : b ≠ 0) : fn_law_fr n [.d (.int a), .d (.int b)] S = .ok (.d (oF (nrm a b))) S := by
  have hl : (rngD 0 1 4000).length = 4000 := by simp [rngD]
  have hr := rng1_ok 4000 (by decide)
  rw [show ((4000 : Nat) : Int) = 4000 from rfl] at hr
  have main : ∀ (a b : Int), Sm 1900 a → Sm 1900 b → 0 < b → ∀ t, ∃ t', forGo (.nm 2) frB (rngD 0 1 4000) [.d (.int a), .d (.int b), t, .d (.int (a.natAbs : Int)), .d (.int b)] S = .nx [.d (.int a), .d (.int b), t', .d (.int (Int.gcd a b)), .d (.int 0)] S := by
    intro a b ha h h0 t
    obtain ⟨t', h1⟩ := fr_loop S (.d (.int a)) (.d (.int b)) 1900 (rngD 0 1 4000) a.natAbs b.natAbs t h (by omega)
    have e : ((b.natAbs : Nat) : Int) = b := by omega
    rw [e] at h1
    exact ⟨t', h1⟩
  have main2 : ∀ (a b : Int), Sm 1900 b → 0 < b → ∀ x : Int, opFdiv (.d (.int x)) (.d (.int (Int.gcd a b))) = some (.d (.int (x / (Int.gcd a b : Int)))) := by
    intro a b h h0 x
    have h4 := gcd_pos' (a := a) (b := b) (by omega)
    have h5 : Sm 1900 (Int.gcd a b : Int) := by
      have := Nat.le_of_dvd (by omega) (Int.gcd_dvd_natAbs_right a b)
      unfold Sm at *
      simp only [Int.natAbs_natCast]
      omega
    exact fdiv_ok (by omega) (big9_of h5)
  unfold fn_law_fr f_law_fr
  by_cases hb : b < 0
  · obtain ⟨t', h1⟩ := main (0 - a) (0 - b) ha.neg h.neg (by omega) .no
    have h2 := main2 (0 - a) (0 - b) h.neg (by omega)
    walk_at "ev"
    simp only [nrm, hb, if_true, oF]
  · obtain ⟨t', h1⟩ := main a b ha h (by omega) .no
    have h2 := main2 a b h (by omega)
    walk_at "ev"
    simp only [nrm, hb, if_false, oF]
theorem law_add_eq (S : StD) {p q : Fq} (hp : Q9 p) (hq : Q9 q) (h1 : p.2 ≠ 0) (h2 : q.2 ≠ 0) : fn_law_add n [.d (oF p), .d (oF q)] S = .ok (.d (oF (fadd p q))) S := by
  have e := law_fr_eq (n := n) S (a := p.1 * q.2 + q.1 * p.2) (b := p.2 * q.2) ((Sm.add (hp.1.mul hq.2) (hq.1.mul hp.2)).mono (by decide)) ((hp.2.mul hq.2).mono (by decide)) (Int.mul_ne_zero h1 h2)
  have m1 := mul_ok (big_of hp.1) (big_of hq.2)
  have m2 := mul_ok (big_of hq.1) (big_of hp.2)
  have m3 := mul_ok (big_of hp.2) (big_of hq.2)
  unfold fn_law_add f_law_add
  walk_at "ev"
  rfl
theorem law_mul_eq (S : StD) {p q : Fq} (hp : Q9 p) (hq : Q9 q) (h1 : p.2 ≠ 0) (h2 : q.2 ≠ 0) : fn_law_mul n [.d (oF p), .d (oF q)] S = .ok (.d (oF (fmul p q))) S := by
  have e := law_fr_eq (n := n) S (a := p.1 * q.1) (b := p.2 * q.2) ((hp.1.mul hq.1).mono (by decide)) ((hp.2.mul hq.2).mono (by decide)) (Int.mul_ne_zero h1 h2)
  have m1 := mul_ok (big_of hp.1) (big_of hq.1)
  have m3 := mul_ok (big_of hp.2) (big_of hq.2)
  unfold fn_law_mul f_law_mul
  walk_at "ev"
  rfl
theorem law_sub_eq (S : StD) {p q : Fq} (hp : Q9 p) (hq : Q9 q) (h1 : p.2 ≠ 0) (h2 : q.2 ≠ 0) : fn_law_sub n [.d (oF p), .d (oF q)] S = .ok (.d (oF (fsub p q))) S := by
  have e := law_add_eq (n := n) S (p := p) (q := (0 - q.1, q.2)) hp ⟨hq.1.neg, hq.2⟩ h1 h2
  rw [fsub_eq] at e
  simp only [oF] at e
  unfold fn_law_sub f_law_sub
  walk_at "ev"
  simp only [oF, ixT, atI0, atI1, e, Option.map_some] at *
  walk_at "ev"
def sgn (i : Int) : Int := if i = 0 then 0 else if 0 < i then 1 else -1
theorem law_sign_eq (S : StD) {p q : Fq} (hp : Q9 p) (hq : Q9 q) : fn_law_sign n [.d (oF p), .d (oF q)] S = .ok (.d (.int (sgn (p.1 * q.2 - q.1 * p.2)))) S := by
  have m1 := mul_ok (big_of hp.1) (big_of hq.2)
  have m2 := mul_ok (big_of hq.1) (big_of hp.2)
  unfold fn_law_sign f_law_sign
  walk_at "ev"
  unfold sgn
  generalize p.1 * q.2 - q.1 * p.2 = z
  by_cases h : z = 0
  · subst h; simp
  · by_cases h2 : 0 < z
    · simp [h, h2]
    · simp [h, h2, opNeg]
end

section
variable {n : Nat} (hn : 2 ^ 2000 ≤ n)
/-! ### judges of parts -/
def isPartD : D → Bool
  | .tuple [.int a, .int b] => decide (1 ≤ b) && (Int.gcd a b == 1)
  | _ => false
def SmD (k : Nat) (x : D) : Prop := ∀ a b, x = .tuple [.int a, .int b] → Sm k a ∧ Sm k b
theorem isPart_no {x : D} (h : isT x = false) : isPartD x = false := by cases x <;> first | rfl | cases h
theorem len2_ne {xs : List D} (h : xs.length ≠ 2) : isPartD (.tuple xs) = false := by
  match xs, h with
  | [], _ => rfl
  | [_], _ => unfold isPartD; split <;> simp_all
  | [_, _], h => exact absurd rfl h
  | _ :: _ :: _ :: _, _ => unfold isPartD; split <;> simp_all
theorem part2_no {x y : D} (h : (isZ x && (isZ y && true)) = false) : isPartD (.tuple [x, y]) = false := by
  unfold isPartD
  split
  · rename_i e; cases e; cases h
  · rfl
theorem int_lc {S : StD} {fe : FE} {i : Nat} {env0 : EnvD} {k : Nat} {xs : List D} (hx : ∀ x ∈ xs, Sh k x) (he : fe = fFz (fAndV (fIsi "int" (fVar i)) (fNotV (fIsi "bool" (fVar i))))) (hi : i < env0.length) :
    lcGo (.nm i) fYes fe env0 xs S = .ok (xs.map fun x => .bool (isZ x)) S := by
  subst he
  refine lc_map _ xs fun x h => ⟨env0.set i (.d x), by simp [asgT, setE, hi], ?_⟩
  have h1 := isi_i (hx x h)
  have h2 := isi_b (hx x h)
  have h3 : (env0.set i (.d x))[i]? = some (.d x) := by simp [hi]
  simp only [fFz, fAndV, fIsi, fNotV, fB, fVar, h3, Res.bind_ok, SV.rd, Option.bind_some, h1, h2, optR_some, asB]
  cases e : isI x <;> simp [isZ, e, optR, SV.fz, asB]
include hn
theorem is_part_eq (S : StD) {k : Nat} {x : D} (hx : Sh (k + 1) x) (hs : SmD 2000 x) : fn_is_part n [.d x] S = .ok (.d (.bool (isPartD x))) S := by
  unfold fn_is_part f_is_part
  have h1 := isi_t hx
  cases hT : isT x with
  | false =>
    rw [hT] at h1
    have h2 := isPart_no hT
    walk_at "ev"
  | true =>
    rw [hT] at h1
    cases x with
    | tuple xs =>
      by_cases hl : xs.length = 2
      · match xs, hl with
        | [x, y], _ =>
        have h3 := int_lc (S := S) (i := 1) (env0 := [.d (.tuple [x, y]), .no]) hx.of_tup rfl (by simp)
        have h4 := allF isZ [x, y]
        cases h5 : [x, y].all isZ with
        | false =>
          have h6 := part2_no h5
          rw [h5] at h4
          walk_at "ev"
        | true =>
          rw [h5] at h4
          simp only [List.all_cons, List.all_nil, Bool.and_eq_true] at h5
          obtain ⟨a, rfl⟩ := isZ_of h5.1
          obtain ⟨b, rfl⟩ := isZ_of h5.2.1
          have h6 := div_eq n S a b (fuel hn (hs a b rfl).2)
          have h7 : ∀ c : Nat, ((c : Int) == 1) = (c == 1) := by intro c; rw [Bool.eq_iff_iff]; simp; omega
          walk_at "ev"
          simp only [isPartD]
          by_cases h8 : 1 ≤ b <;> walk_at "ev"
      · have h2 := len2_ne hl
        have h3 : ((xs.length : Int) == 2) = false := by simp; omega
        walk_at "ev"
    | _ => cases hT
omit hn
/-- the law's tests of ints -/
theorem bad_lc {S : StD} {ft : FT} {fe : FE} {i : Nat} {env0 : EnvD} {k : Nat} {xs : List D} (hx : ∀ x ∈ xs, Sh k x) (ht : ft = fOr (fNot (fTru (fIsi "int" (fVar i)))) (fTru (fIsi "bool" (fVar i)))) (he : fe = fFz (fVar i)) (hi : i < env0.length) :
    lcGo (.nm i) ft fe env0 xs S = .ok (xs.filter fun x => !isZ x) S := by
  subst he ht
  have := lc_pure (T := .nm i) (ft := fOr (fNot (fTru (fIsi "int" (fVar i)))) (fTru (fIsi "bool" (fVar i)))) (fe := fFz (fVar i)) (env0 := env0) (S := S) (fun x => !isZ x) id xs fun x h => ⟨env0.set i (.d x), by simp [asgT, setE, hi], by
    have h1 := isi_i (hx x h)
    have h2 := isi_b (hx x h)
    have h3 : (env0.set i (.d x))[i]? = some (.d x) := by simp [hi]
    simp only [fOr, fNot, fTru, fIsi, fVar, h3, Res.bind_ok, SV.rd, Option.bind_some, h1, h2, optR_some, truD]
    cases e : isI x <;> simp [isZ, e, optR, truD], by
    have h3 : (env0.set i (.d x))[i]? = some (.d x) := by simp [hi]
    intro _
    simp [fFz, fVar, h3, SV.fz, optR]⟩
  simpa using this
theorem nrm_is {a b : Int} (hb : 1 ≤ b) : (nrm a b == (a, b)) = (Int.gcd a b == 1) := by
  rw [Bool.eq_iff_iff, beq_iff_eq, beq_iff_eq]
  constructor
  · intro h
    have := (nrm_fr (a := a) (b := b) (by omega)).2
    rw [h] at this
    exact this
  · intro h
    exact nrm_self' ⟨by show 0 < b; omega, h⟩
theorem law_is_fr_eq (S : StD) {k : Nat} {x : D} (hx : Sh (k + 1) x) (hs : SmD 1900 x) : fn_law_is_fr n [.d x] S = .ok (.d (.bool (isPartD x))) S := by
  unfold fn_law_is_fr f_law_is_fr
  have h1 := isi_t hx
  cases hT : isT x with
  | false =>
    rw [hT] at h1
    have h2 := isPart_no hT
    walk_at "ev"
  | true =>
    rw [hT] at h1
    cases x with
    | tuple xs =>
      by_cases hl : xs.length = 2
      · match xs, hl with
        | [x, y], _ =>
        have h3 := bad_lc (S := S) (i := 1) (env0 := [.d (.tuple [x, y]), .no]) hx.of_tup rfl rfl (by simp)
        cases h5 : [x, y].all isZ with
        | false =>
          have h6 := part2_no h5
          have h7 : (0 < ([x, y].filter fun x => !isZ x).length) = True := by
            simp only [List.all_cons, List.all_nil, Bool.and_true] at h5
            cases hx' : isZ x <;> cases hy : isZ y <;> simp [hx', hy] at h5 ⊢
          have h8 : ∀ m : Nat, (0 < (m : Int)) = (0 < m) := by intro m; simp
          walk_at "ev"
        | true =>
          have h9 : [x, y].filter (fun x => !isZ x) = [] := by
            simp only [List.all_cons, List.all_nil, Bool.and_true, Bool.and_eq_true] at h5
            simp [h5]
          simp only [List.all_cons, List.all_nil, Bool.and_eq_true] at h5
          obtain ⟨a, rfl⟩ := isZ_of h5.1
          obtain ⟨b, rfl⟩ := isZ_of h5.2.1
          rw [h9] at h3
          by_cases h8 : 1 ≤ b
          · have h6 := law_fr_eq (n := n) S (hs a b rfl).1 (hs a b rfl).2 (by omega)
            have h7 := nrm_is (a := a) h8
            have h10 : opEq (.d (oF (nrm a b))) (.d (.tuple [.int a, .int b])) = some (.d (.bool (nrm a b == (a, b)))) := eqF (nrm a b) (a, b)
            walk_at "ev"
            simp only [isPartD, h8, decide_true, Bool.true_and]
          · walk_at "ev"
            simp only [isPartD, h8, decide_false, Bool.false_and]
      · have h2 := len2_ne hl
        have h3 : ((xs.length : Int) == 2) = false := by simp; omega
        walk_at "ev"
    | _ => cases hT
/-! ### several parts -/
def arePartsD (m : Int) : D → Bool
  | .tuple xs => ((xs.length : Int) == m) && xs.all isPartD
  | _ => false
theorem are_parts_eq (hn : 2 ^ 2000 ≤ n) (S : StD) {k : Nat} {x : D} {m : Int} (hx : Sh (k + 2) x) (hs : ∀ xs, x = .tuple xs → ∀ y ∈ xs, SmD 2000 y) : fn_are_parts n [.d x, .d (.int m)] S = .ok (.d (.bool (arePartsD m x))) S := by
  unfold fn_are_parts f_are_parts
  have h1 := isi_t hx
  cases x with
  | tuple xs =>
    have h2 : isT (.tuple xs) = true := rfl
    have h3 := lc_map (T := .nm 2) (fe := fFz (fCall 1 (fn_is_part n) (fCons (fFz (fVar 2)) fNil))) (env0 := [.d (.tuple xs), .d (.int m), .no]) (S := S) (fun x => .bool (isPartD x)) xs fun x h => ⟨[.d (.tuple xs), .d (.int m), .d x], rfl, by
      have := is_part_eq hn S (hx.of_tup x h) (hs xs rfl x h)
      walk_at "ev"⟩
    have h4 := allF isPartD xs
    cases h5 : ((xs.length : Int) == m) <;> walk_at "ev" <;> simp only [arePartsD, h5, Bool.false_and, Bool.true_and]
  | dict _ => obtain ⟨h, _⟩ := hx; simp [PyData.canLay0] at h
  | _ => rfl
theorem law_are_frs_eq (S : StD) {k : Nat} {x : D} {m : Int} (hx : Sh (k + 2) x) (hs : ∀ xs, x = .tuple xs → ∀ y ∈ xs, SmD 1900 y) : fn_law_are_frs n [.d x, .d (.int m)] S = .ok (.d (.bool (arePartsD m x))) S := by
  unfold fn_law_are_frs f_law_are_frs
  have h1 := isi_t hx
  cases x with
  | tuple xs =>
    have h2 : isT (.tuple xs) = true := rfl
    have h3 := lc_pure (T := .nm 2) (ft := fNot (fTru (fCall 1 (fn_law_is_fr n) (fCons (fFz (fVar 2)) fNil)))) (fe := fFz (fVar 2)) (env0 := [.d (.tuple xs), .d (.int m), .no]) (S := S) (fun x => !isPartD x) id xs fun x h => ⟨[.d (.tuple xs), .d (.int m), .d x], rfl, by
      have := law_is_fr_eq (n := n) S (hx.of_tup x h) (hs xs rfl x h)
      walk_at "ev", by intro _; walk_at "ev"; rfl⟩
    rw [List.map_id] at h3
    have h4 : ((((xs.filter fun x => !isPartD x).length : Nat) : Int) == 0) = xs.all isPartD := by
      rw [Bool.eq_iff_iff]
      simp
    cases h5 : ((xs.length : Int) == m) <;> walk_at "ev" <;> simp only [arePartsD, h5, Bool.false_and, Bool.true_and]
  | dict _ => obtain ⟨h, _⟩ := hx; simp [PyData.canLay0] at h
  | _ => rfl
end

/-! ### judges of rows, systems -/
section
variable {n : Nat}
def wholeD (lo hi : Int) : D → Bool
  | .int i => decide (lo ≤ i) && decide (i ≤ hi)
  | _ => false
theorem whole_no {lo hi : Int} {x : D} (h : isZ x = false) : wholeD lo hi x = false := by cases x <;> first | rfl | cases h
theorem is_whole_eq (S : StD) {k : Nat} {x : D} (hx : Sh k x) (lo hi : Int) : fn_is_whole n [.d x, .d (.int lo), .d (.int hi)] S = .ok (.d (.bool (wholeD lo hi x))) S := by
  unfold fn_is_whole f_is_whole
  have h1 := isi_i hx
  have h2 := isi_b hx
  cases x with
  | int i =>
    have h3 : isI (.int i) = true := rfl
    have h4 : isB (.int i) = false := rfl
    by_cases h5 : lo ≤ i
    · walk_at "ev"; simp only [wholeD, h5, decide_true, Bool.true_and]
    · walk_at "ev"; simp only [wholeD, h5, decide_false, Bool.false_and]
  | dict _ => obtain ⟨h, _⟩ := hx; simp [PyData.canLay0] at h
  | _ => rfl
def areNumsD (m most : Int) : D → Bool
  | .tuple xs => ((xs.length : Int) == m) && xs.all (wholeD (0 - most) most)
  | _ => false
theorem are_numbers_eq (S : StD) {k : Nat} {x : D} (hx : Sh (k + 1) x) (m most : Int) : fn_are_numbers n [.d x, .d (.int m), .d (.int most)] S = .ok (.d (.bool (areNumsD m most x))) S := by
  unfold fn_are_numbers f_are_numbers
  have h1 := isi_t hx
  cases x with
  | tuple xs =>
    have h2 : isT (.tuple xs) = true := rfl
    have h3 := lc_map (T := .nm 3) (fe := fFz (fCall 3 (fn_is_whole n) (fCons (fFz (fVar 3)) (fCons (fFz (f2 opSub (fC (.int 0)) (fVar 2))) (fCons (fFz (fVar 2)) fNil))))) (env0 := [.d (.tuple xs), .d (.int m), .d (.int most), .no]) (S := S) (fun x => .bool (wholeD (0 - most) most x)) xs fun x h => ⟨[.d (.tuple xs), .d (.int m), .d (.int most), .d x], rfl, by
      have := is_whole_eq (n := n) S (hx.of_tup x h) (0 - most) most
      walk_at "ev"⟩
    have h4 := allF (wholeD (0 - most) most) xs
    cases h5 : ((xs.length : Int) == m) <;> walk_at "ev" <;> simp only [areNumsD, h5, Bool.false_and, Bool.true_and]
  | dict _ => obtain ⟨h, _⟩ := hx; simp [PyData.canLay0] at h
  | _ => rfl
def kindsD : List D := [.str "most", .str "less", .str "just"]
def kindD (x : D) : Bool := kindsD.any fun z => PyData.eqv z x
theorem kinds_sh : Sh 1 (.list kindsD) := Sh.lst fun x hx => by
  simp only [kindsD, List.mem_cons, List.not_mem_nil, or_false] at hx
  rcases hx with rfl | rfl | rfl <;> exact .str _ (by decide +kernel)
theorem kind_in {k : Nat} {x : D} (hx : Sh k x) : opNotIn (.d x) (.d D_KINDS) = some (.d (.bool (!kindD x))) := by
  have h : inD true x (.tuple kindsD) = some (.d (.bool (true != kindsD.any fun z => PyData.eqv z x))) := if_pos ⟨by decide, PyData.plain_of_canLay0 x hx.1, by decide⟩
  have e : (true != kindsD.any fun z => PyData.eqv z x) = !kindD x := by unfold kindD; cases kindsD.any fun z => PyData.eqv z x <;> rfl
  rw [e] at h
  exact h
theorem kind_inL {k : Nat} {x : D} (hx : Sh k x) (hk : k ≤ 64) : opNotIn (.d x) (.own [.str "most", .str "less", .str "just"]) = some (.d (.bool (!kindD x))) := by
  have h : inD true x (.list kindsD) = some (.d (.bool (true != kindsD.any fun z => PyData.eqv z x))) := if_pos ⟨hx.shaped hk, kinds_sh.shaped⟩
  have e : (true != kindsD.any fun z => PyData.eqv z x) = !kindD x := by unfold kindD; cases kindsD.any fun z => PyData.eqv z x <;> rfl
  rw [e] at h
  exact h
def isRowD (m : Int) : D → Bool
  | .tuple [a, k, b] => kindD k && (areNumsD m 1000000 a && wholeD (-1000000) 1000000 b)
  | _ => false
theorem isRow3 (m : Int) (a kk b : D) : isRowD m (.tuple [a, kk, b]) = (kindD kk && (areNumsD m 1000000 a && wholeD (-1000000) 1000000 b)) := rfl
theorem row_no {m : Int} {x : D} (h : isT x = false) : isRowD m x = false := by cases x <;> first | rfl | cases h
theorem row_len {m : Int} {xs : List D} (h : xs.length ≠ 3) : isRowD m (.tuple xs) = false := by
  match xs, h with
  | [], _ => rfl
  | [_], _ => unfold isRowD; split <;> simp_all
  | [_, _], h => unfold isRowD; split <;> simp_all
  | [_, _, _], h => exact absurd rfl h
  | _ :: _ :: _ :: _ :: _, _ => unfold isRowD; split <;> simp_all
theorem is_row_eq (S : StD) {k : Nat} {x : D} (hx : Sh (k + 2) x) (m : Int) : fn_is_row n [.d x, .d (.int m)] S = .ok (.d (.bool (isRowD m x))) S := by
  unfold fn_is_row f_is_row
  have h1 := isi_t hx
  cases hT : isT x with
  | false =>
    rw [hT] at h1
    have h2 := row_no (m := m) hT
    walk_at "ev"
  | true =>
    rw [hT] at h1
    cases x with
    | tuple xs =>
      by_cases hl : xs.length = 3
      · match xs, hl with
        | [a, kk, b], _ =>
        have s1 := hx.of_tup a (by simp)
        have s2 := hx.of_tup kk (by simp)
        have s3 := hx.of_tup b (by simp)
        have h3 := kind_in s2
        have h4 := are_numbers_eq (n := n) S s1 m 1000000
        have h5 := is_whole_eq (n := n) S s3 (-1000000) 1000000
        cases h6 : kindD kk with
        | false =>
          have h7 : isRowD m (.tuple [a, kk, b]) = false := by rw [isRow3, h6]; rfl
          rw [h6] at h3
          walk_at "ev"
        | true =>
          rw [h6] at h3
          have h8 : isRowD m (.tuple [a, kk, b]) = (areNumsD m 1000000 a && wholeD (-1000000) 1000000 b) := by rw [isRow3, h6]; rfl
          cases h7 : areNumsD m 1000000 a <;> walk_at "ev"
      · have h2 := row_len (m := m) hl
        have h3 : ((xs.length : Int) == 3) = false := by simp; omega
        walk_at "ev"
    | _ => cases hT
theorem law_is_row_eq (S : StD) {k : Nat} {x : D} (hx : Sh (k + 2) x) (hk : k ≤ 60) (m : Int) (hm : m ≤ 100) : fn_law_is_row n [.d x, .d (.int m)] S = .ok (.d (.bool (isRowD m x))) S := by
  unfold fn_law_is_row f_law_is_row
  have h1 := isi_t hx
  cases hT : isT x with
  | false =>
    rw [hT] at h1
    have h2 := row_no (m := m) hT
    walk_at "ev"
  | true =>
    rw [hT] at h1
    cases x with
    | tuple xs =>
      by_cases hl : xs.length = 3
      · match xs, hl with
        | [a, kk, b], _ =>
        have s1 := hx.of_tup a (by simp)
        have s2 := hx.of_tup kk (by simp)
        have s3 := hx.of_tup b (by simp)
        have h3 := kind_inL s2 (by omega)
        have t1 := isi_t s1
        cases h6 : kindD kk with
        | false =>
          have h7 : isRowD m (.tuple [a, kk, b]) = false := by rw [isRow3, h6]; rfl
          rw [h6] at h3
          walk_at "ev"
        | true =>
          rw [h6] at h3
          have h8 : isRowD m (.tuple [a, kk, b]) = (areNumsD m 1000000 a && wholeD (-1000000) 1000000 b) := by rw [isRow3, h6]; rfl
          cases hA : isT a with
          | false =>
            rw [hA] at t1
            have h9 : areNumsD m 1000000 a = false := by cases a <;> first | rfl | cases hA
            walk_at "ev"
          | true =>
            rw [hA] at t1
            cases a with
            | tuple ns =>
              by_cases h10 : (ns.length : Int) = m
              · subst h10
                have h11 := addT (xs := ns) (ys := [b]) (by rw [show sizeLine = 16777216 by decide]; simp; omega)
                have h12 := lc_pure (T := .nm 2) (ft := (fOr (fNot (fTru (fIsi "int" (fVar 2)))) (fOr (fTru (fIsi "bool" (fVar 2))) (fOr (fB (f2 opLt (fVar 2) (f1 opNeg (fC (.int 1000000))))) (fB (f2 opGt (fVar 2) (fC (.int 1000000)))))))) (fe := (fFz (fVar 2)))
                  (env0 := [.d (.tuple [.tuple ns, kk, b]), .d (.int ns.length), .no]) (S := S) (fun x => !wholeD (-1000000) 1000000 x) id (ns ++ [b]) fun x h => ⟨[.d (.tuple [.tuple ns, kk, b]), .d (.int ns.length), .d x], rfl, by
                    have sx : Sh (k + 1) x := by
                      rcases List.mem_append.mp h with h | h
                      · exact (s1.of_tup x h).mono (by omega)
                      · rw [List.mem_singleton.mp h]; exact s3
                    have z1 := isi_i sx
                    have z2 := isi_b sx
                    cases x with
                    | int i =>
                      have z3 : isI (.int i) = true := rfl
                      have z4 : isB (.int i) = false := rfl
                      have z5 : opNeg (.d (.int 1000000)) = some (.d (.int (-1000000))) := rfl
                      by_cases z6 : i < -1000000
                      · have z7 : wholeD (-1000000) 1000000 (.int i) = false := by simp [wholeD]; omega
                        walk_at "ev"
                      · have z7 : wholeD (-1000000) 1000000 (.int i) = !decide (1000000 < i) := by simp only [wholeD]; rw [Bool.eq_iff_iff]; simp; omega
                        by_cases z8 : 1000000 < i <;> walk_at "ev"
                    | dict _ => obtain ⟨h, _⟩ := sx; simp [PyData.canLay0] at h
                    | _ => rfl, by intro _; walk_at "ev"; rfl⟩
                rw [List.map_id] at h12
                have h13 : (((((ns ++ [b]).filter fun x => !wholeD (-1000000) 1000000 x).length : Nat) : Int) == 0) = (areNumsD ns.length 1000000 (.tuple ns) && wholeD (-1000000) 1000000 b) := by
                  rw [Bool.eq_iff_iff]
                  simp only [areNumsD, beq_iff_eq, Int.natCast_eq_zero, List.length_eq_zero_iff, List.filter_eq_nil_iff, List.mem_append, List.mem_singleton, Bool.and_eq_true, List.all_eq_true, Bool.not_eq_true, Bool.not_eq_false', true_and, Bool.not_eq_eq_eq_not, Bool.not_not, Bool.not_true, Bool.not_false]
                  constructor
                  · intro h
                    exact ⟨fun x hx => by simpa using h x (.inl hx), by simpa using h b (.inr rfl)⟩
                  · rintro ⟨h, h'⟩ x (hx | rfl)
                    · simpa using h x hx
                    · simpa using h'
                walk_at "ev"
              · have h11 : ((ns.length : Int) == m) = false := by simp; omega
                have h12 : areNumsD m 1000000 (.tuple ns) = false := by simp only [areNumsD, h11, Bool.false_and]
                walk_at "ev"
            | _ => cases hA
      · have h2 := row_len (m := m) hl
        have h3 : ((xs.length : Int) == 3) = false := by simp; omega
        walk_at "ev"
    | _ => cases hT
end

/-! ### judges of systems -/
section
variable {n : Nat}
def sysRows : D → D → Bool
  | .int m, .tuple rows => decide ((rows.length : Int) ≤ 24) && rows.all (isRowD m)
  | _, _ => false
def isSysD : D → Bool
  | .tuple [a, b, c] => PyData.eqv a (.str "rows") && (wholeD 1 8 b && sysRows b c)
  | _ => false
theorem isSys3 (a b c : D) : isSysD (.tuple [a, b, c]) = (PyData.eqv a (.str "rows") && (wholeD 1 8 b && sysRows b c)) := rfl
theorem sys_no {x : D} (h : isT x = false) : isSysD x = false := by cases x <;> first | rfl | cases h
theorem sys_len {xs : List D} (h : xs.length ≠ 3) : isSysD (.tuple xs) = false := by
  match xs, h with
  | [], _ => rfl
  | [_], _ => unfold isSysD; split <;> simp_all
  | [_, _], h => unfold isSysD; split <;> simp_all
  | [_, _, _], h => exact absurd rfl h
  | _ :: _ :: _ :: _ :: _, _ => unfold isSysD; split <;> simp_all
theorem whole_int {lo hi : Int} {x : D} (h : wholeD lo hi x = true) : ∃ i, x = .int i ∧ lo ≤ i ∧ i ≤ hi := by
  cases x with
  | int i => simp only [wholeD, Bool.and_eq_true, decide_eq_true_eq] at h; exact ⟨i, rfl, h.1, h.2⟩
  | _ => cases h
theorem sRows : Sh 0 (.str "rows") := .str 0 (by decide +kernel)
theorem is_system_eq (S : StD) {k : Nat} {x : D} (hx : Sh (k + 4) x) (hk : k ≤ 55) : fn_is_system n [.d x] S = .ok (.d (.bool (isSysD x))) S := by
  unfold fn_is_system f_is_system
  have h1 := isi_t hx
  cases hT : isT x with
  | false =>
    rw [hT] at h1
    have h2 := sys_no hT
    walk_at "ev"
  | true =>
    rw [hT] at h1
    cases x with
    | tuple xs =>
      by_cases hl : xs.length = 3
      · match xs, hl with
        | [a, b, c], _ =>
        have s1 := hx.of_tup a (by simp)
        have s2 := hx.of_tup b (by simp)
        have s3 := hx.of_tup c (by simp)
        have h3 := ne_ok s1 sRows (by omega)
        cases hR : PyData.eqv a (.str "rows") with
        | false =>
          have h4 : isSysD (.tuple [a, b, c]) = false := by rw [isSys3, hR]; rfl
          rw [hR] at h3
          walk_at "ev"
        | true =>
          rw [hR] at h3
          have h5 := is_whole_eq (n := n) S s2 1 8
          cases hW : wholeD 1 8 b with
          | false =>
            have h4 : isSysD (.tuple [a, b, c]) = false := by rw [isSys3, hR, hW]; rfl
            rw [hW] at h5
            walk_at "ev"
          | true =>
            rw [hW] at h5
            obtain ⟨m, rfl, hm1, hm2⟩ := whole_int hW
            have t1 := isi_t s3
            cases hC : isT c with
            | false =>
              rw [hC] at t1
              have h4 : isSysD (.tuple [a, .int m, c]) = false := by
                rw [isSys3, hR, hW]
                cases c <;> first | rfl | cases hC
              walk_at "ev"
            | true =>
              rw [hC] at t1
              cases c with
              | tuple rows =>
                by_cases h6 : (rows.length : Int) ≤ 24
                · have h7 : ¬ (24 < (rows.length : Int)) := by omega
                  have h8 := lc_map (T := .nm 1) (fe := (fFz (fCall 2 (fn_is_row n) (fCons (fFz (fVar 1)) (fCons (fFz (f2 opIx (fVar 0) (fC (.int 1)))) fNil))))) (env0 := [.d (.tuple [a, .int m, .tuple rows]), .no]) (S := S) (fun x => .bool (isRowD m x)) rows fun x h => ⟨[.d (.tuple [a, .int m, .tuple rows]), .d x], rfl, by
                    have := is_row_eq (n := n) S (s3.of_tup x h) m
                    walk_at "ev"⟩
                  have h9 := allF (isRowD m) rows
                  have h4 : isSysD (.tuple [a, .int m, .tuple rows]) = rows.all (isRowD m) := by rw [isSys3, hR, hW]; simp only [sysRows, h6, decide_true, Bool.true_and]
                  walk_at "ev"
                · have h7 : 24 < (rows.length : Int) := by omega
                  have h4 : isSysD (.tuple [a, .int m, .tuple rows]) = false := by rw [isSys3, hR, hW]; simp only [sysRows, h6, decide_false, Bool.false_and, Bool.and_false]
                  walk_at "ev"
              | _ => cases hC
      · have h2 := sys_len hl
        have h3 : ((xs.length : Int) == 3) = false := by simp; omega
        walk_at "ev"
    | _ => cases hT
theorem law_is_system_eq (S : StD) {k : Nat} {x : D} (hx : Sh (k + 4) x) (hk : k ≤ 55) : fn_law_is_system n [.d x] S = .ok (.d (.bool (isSysD x))) S := by
  unfold fn_law_is_system f_law_is_system
  have h1 := isi_t hx
  cases hT : isT x with
  | false =>
    rw [hT] at h1
    have h2 := sys_no hT
    walk_at "ev"
  | true =>
    rw [hT] at h1
    cases x with
    | tuple xs =>
      by_cases hl : xs.length = 3
      · match xs, hl with
        | [a, b, c], _ =>
        have s1 := hx.of_tup a (by simp)
        have s2 := hx.of_tup b (by simp)
        have s3 := hx.of_tup c (by simp)
        have h3 := ne_ok s1 sRows (by omega)
        cases hR : PyData.eqv a (.str "rows") with
        | false =>
          have h4 : isSysD (.tuple [a, b, c]) = false := by rw [isSys3, hR]; rfl
          rw [hR] at h3
          walk_at "ev"
        | true =>
          rw [hR] at h3
          have t2 := isi_i s2
          have t3 := isi_b s2
          cases hZ : isZ b with
          | false =>
            have h4 : isSysD (.tuple [a, b, c]) = false := by rw [isSys3, hR, whole_no hZ]; rfl
            have h5 : (isI b = false ∨ isB b = true) := by
              unfold isZ at hZ
              cases e1 : isI b <;> cases e2 : isB b <;> simp [e1, e2] at hZ ⊢
            rcases h5 with h5 | h5
            · rw [h5] at t2
              walk_at "ev"
            · rw [h5] at t3
              cases h6 : isI b <;> walk_at "ev"
          | true =>
            obtain ⟨m, rfl⟩ := isZ_of hZ
            have u1 : isI (.int m) = true := rfl
            have u2 : isB (.int m) = false := rfl
            rw [u1] at t2
            rw [u2] at t3
            have t1 := isi_t s3
            by_cases hm1 : m < 1
            · have h4 : isSysD (.tuple [a, .int m, c]) = false := by
                have : wholeD 1 8 (.int m) = false := by simp [wholeD]; omega
                rw [isSys3, this]; simp
              walk_at "ev"
            · by_cases hm2 : 8 < m
              · have h4 : isSysD (.tuple [a, .int m, c]) = false := by
                  have : wholeD 1 8 (.int m) = false := by simp [wholeD]; omega
                  rw [isSys3, this]; simp
                walk_at "ev"
              · have hW : wholeD 1 8 (.int m) = true := by simp [wholeD]; omega
                cases hC : isT c with
                | false =>
                  rw [hC] at t1
                  have h4 : isSysD (.tuple [a, .int m, c]) = false := by
                    rw [isSys3, hR, hW]
                    cases c <;> first | rfl | cases hC
                  walk_at "ev"
                | true =>
                  rw [hC] at t1
                  cases c with
                  | tuple rows =>
                    by_cases h6 : (rows.length : Int) ≤ 24
                    · have h7 : ¬ (24 < (rows.length : Int)) := by omega
                      have h8 := lc_pure (T := .nm 1) (ft := (fNot (fTru (fCall 2 (fn_law_is_row n) (fCons (fFz (fVar 1)) (fCons (fFz (f2 opIx (fVar 0) (fC (.int 1)))) fNil)))))) (fe := fFz (fVar 1)) (env0 := [.d (.tuple [a, .int m, .tuple rows]), .no]) (S := S) (fun x => !isRowD m x) id rows fun x h => ⟨[.d (.tuple [a, .int m, .tuple rows]), .d x], rfl, by
                        have := law_is_row_eq (n := n) S (s3.of_tup x h) (by omega) m (by omega)
                        walk_at "ev", by intro _; walk_at "ev"; rfl⟩
                      rw [List.map_id] at h8
                      have h9 : ((((rows.filter fun x => !isRowD m x).length : Nat) : Int) == 0) = rows.all (isRowD m) := by
                        rw [Bool.eq_iff_iff]
                        simp
                      have h4 : isSysD (.tuple [a, .int m, .tuple rows]) = rows.all (isRowD m) := by rw [isSys3, hR, hW]; simp only [sysRows, h6, decide_true, Bool.true_and]
                      walk_at "ev"
                    · have h7 : 24 < (rows.length : Int) := by omega
                      have h4 : isSysD (.tuple [a, .int m, .tuple rows]) = false := by rw [isSys3, hR, hW]; simp only [sysRows, h6, decide_false, Bool.false_and, Bool.and_false]
                      walk_at "ev"
                  | _ => cases hC
      · have h2 := sys_len hl
        have h3 : ((xs.length : Int) == 3) = false := by simp; omega
        walk_at "ev"
    | _ => cases hT
end

/-! ### sums -/
theorem one_sm (k : Nat) : Sm (k + 1) 1 := by
  unfold Sm
  have : 2 ^ (k + 1) = 2 ^ k * 2 := Nat.pow_succ ..
  have := Nat.pow_pos (n := k) (show 0 < 2 by decide)
  simp only [Int.natAbs_one]
  omega
theorem zero_sm (k : Nat) : Sm k 0 := by
  unfold Sm
  exact Nat.pow_pos (n := k) (show 0 < 2 by decide)
theorem sf01 (k : Nat) : Sf (k + 1) (0, 1) := ⟨zero_sm _, one_sm k⟩
theorem fr01 : Fr (0, 1) := ⟨by decide, by decide⟩
theorem fr_int (i : Int) : Fr (i, 1) := ⟨by show (0 : Int) < 1; decide, by simp⟩
theorem dot_step {acc p : Fq} (h1 : acc.2 ≠ 0) (h2 : p.2 ≠ 0) (r : Int) : fadd acc (fmul p (r, 1)) = fadd acc (r * p.1, p.2) := by
  unfold fmul
  rw [fadd_nrm h1 (Int.mul_ne_zero h2 (by show (1 : Int) ≠ 0; decide))]
  unfold fadd
  have e1 : acc.1 * (p.2 * 1) + p.1 * r * acc.2 = acc.1 * p.2 + r * p.1 * acc.2 := by grind
  have e2 : acc.2 * (p.2 * 1) = acc.2 * p.2 := by grind
  show nrm (acc.1 * (p.2 * 1) + p.1 * r * acc.2) (acc.2 * (p.2 * 1)) = _
  rw [e1, e2]
section
variable {n : Nat} (hn : 2 ^ 2000 ≤ n)
include hn
theorem total_loop (S : StD) (r : SV) {m : Nat} : ∀ (ps : List Fq) (acc : Fq) (t : SV) (j : Nat), Sf j acc → acc.2 ≠ 0 → (∀ p ∈ ps, Sf m p ∧ p.2 ≠ 0) → j + ps.length * (m + 1) ≤ 900 →
    ∃ t', forGo (.nm 2) (fSet 1 (fFz (fCall 2 (fn_plus n) (fCons (fFz (fVar 1)) (fCons (fFz (fVar 2)) fNil))))) (ps.map oF) [r, .d (oF acc), t] S = .nx [r, .d (oF (ps.foldl fadd acc)), t'] S := by
  intro ps
  induction ps with
  | nil => intro acc t j _ _ _ _; exact ⟨t, rfl⟩
  | cons p ps ih =>
    intro acc t j h1 h2 h3 h4
    obtain ⟨hp, hp2⟩ := h3 p List.mem_cons_self
    simp only [List.length_cons, Nat.succ_mul] at h4
    have h5 := plus_eq hn S (h1.mono (k := 900) (by omega)) (hp.mono (k := 900) (by omega)) h2 hp2
    obtain ⟨t', h6⟩ := ih (fadd acc p) (.d (oF p)) (j + m + 1) (fadd_sf h1 hp) (fr_ne (nrm_fr (Int.mul_ne_zero h2 hp2))) (fun q hq => h3 q (List.mem_cons_of_mem _ hq)) (by omega)
    refine ⟨t', ?_⟩
    rw [List.map_cons, forGo]
    walk_at "ev"
    rfl
theorem total_eq (S : StD) {m : Nat} {ps : List Fq} (h : ∀ p ∈ ps, Sf m p ∧ p.2 ≠ 0) (hl : ps.length * (m + 1) ≤ 800) : fn_total n [.d (.list (ps.map oF))] S = .ok (.d (oF (ps.foldl fadd (0, 1)))) S := by
  obtain ⟨t', h6⟩ := total_loop hn S (.d (.list (ps.map oF))) ps (0, 1) .no 1 (sf01 0) (by decide) h (by omega)
  have h7 : oF (0, 1) = .tuple [.int 0, .int 1] := rfl
  rw [h7] at h6
  unfold fn_total f_total
  walk_at "ev"
/-- what a row comes to at a point -/
def dotG (ns : List Int) (ps : List Fq) (k : Nat) : Fq := fmul (ps.getD k (0, 1)) (ns.getD k 0, 1)
def dotF (ns : List Int) (ps : List Fq) : Fq := ((List.range ns.length).map (dotG ns ps)).foldl fadd (0, 1)
def GP (ps : List Fq) : Prop := ∀ p ∈ ps, Sf 10 p ∧ Fr p
def GN (ns : List Int) : Prop := ∀ i ∈ ns, Sm 20 i
omit hn
theorem GP.get {ps : List Fq} (h : GP ps) (k : Nat) : Sf 10 (ps.getD k (0, 1)) ∧ Fr (ps.getD k (0, 1)) := by
  by_cases hk : k < ps.length
  · have e : ps.getD k (0, 1) = ps[k] := by simp [hk]
    rw [e]
    exact h _ (List.getElem_mem hk)
  · have e : ps.getD k (0, 1) = (0, 1) := by simp [hk]
    rw [e]
    exact ⟨sf01 9, fr01⟩
theorem GN.get {ns : List Int} (h : GN ns) (k : Nat) : Sm 20 (ns.getD k 0) := by
  by_cases hk : k < ns.length
  · have e : ns.getD k 0 = ns[k] := by simp [hk]
    rw [e]
    exact h _ (List.getElem_mem hk)
  · have e : ns.getD k 0 = 0 := by simp [hk]
    rw [e]
    exact zero_sm 20
theorem dotG_ok {ns : List Int} {ps : List Fq} (h : GN ns) (h2 : GP ps) (k : Nat) : Sf 30 (dotG ns ps k) ∧ Fr (dotG ns ps k) :=
  ⟨fmul_sf (j := 10) (k := 20) (h2.get k).1 ⟨h.get k, one_sm 19⟩, fmul_fr (h2.get k).2 (fr_int _)⟩
theorem dotG_mem {ns : List Int} {ps : List Fq} (h : GN ns) (h2 : GP ps) {k : Nat} : ∀ p ∈ (List.range k).map (dotG ns ps), Sf 30 p ∧ Fr p := fun p hp => by
  obtain ⟨j, _, rfl⟩ := List.mem_map.mp hp
  exact dotG_ok h h2 j
theorem sum_ok {m : Nat} : ∀ (ps : List Fq) (acc : Fq) (j : Nat), Sf j acc → Fr acc → (∀ p ∈ ps, Sf m p ∧ Fr p) → Sf (j + ps.length * (m + 1)) (ps.foldl fadd acc) ∧ Fr (ps.foldl fadd acc) := by
  intro ps
  induction ps with
  | nil => intro acc j h1 h2 _; exact ⟨h1.mono (by omega), h2⟩
  | cons p ps ih =>
    intro acc j h1 h2 h3
    have hp := h3 p List.mem_cons_self
    have := ih (fadd acc p) (j + m + 1) (fadd_sf h1 hp.1) (fadd_fr h2 hp.2) fun q hq => h3 q (List.mem_cons_of_mem _ hq)
    refine ⟨this.1.mono ?_, this.2⟩
    simp only [List.length_cons, Nat.succ_mul]
    omega
theorem dotF_ok {ns : List Int} {ps : List Fq} (h : GN ns) (h2 : GP ps) (hl : ns.length ≤ 8) : Sf 300 (dotF ns ps) ∧ Fr (dotF ns ps) := by
  have := sum_ok ((List.range ns.length).map (dotG ns ps)) (0, 1) 1 (sf01 0) fr01 (dotG_mem h h2)
  refine ⟨this.1.mono ?_, this.2⟩
  simp only [List.length_map, List.length_range]
  omega
include hn
theorem dot_eq (S : StD) {ns : List Int} {ps : List Fq} (h : GN ns) (h2 : GP ps) (hl : ns.length ≤ 8) (hp : ps.length = ns.length) : fn_dot n [.d (.tuple (ns.map .int)), .d (.tuple (ps.map oF))] S = .ok (.d (oF (dotF ns ps))) S := by
  have h3 := lc_rngM (T := .nm 2) (fe := (fFz (fCall 2 (fn_times n) (fCons (fFz (f2 opIx (fVar 1) (fVar 2))) (fCons (fFz (fTup (fCons (fFz (f2 opIx (fVar 0) (fVar 2))) (fCons (fC (.int 1)) fNil)))) fNil))))) (env0 := [.d (.tuple (ns.map .int)), .d (.tuple (ps.map oF)), .no]) (S := S) ns.length (fun k => oF (dotG ns ps k)) fun k hk => ⟨[.d (.tuple (ns.map .int)), .d (.tuple (ps.map oF)), .d (.int k)], rfl, by
    have e1 := atI_map (f := PyData.int) (xs := ns) 0 hk
    have e2 := atI_map (f := oF) (xs := ps) (0, 1) (k := k) (by omega)
    have e3 : fn_times n [.d (oF (ps.getD k (0, 1))), .d (.tuple [.int (ns.getD k 0), .int 1])] S = .ok (.d (oF (dotG ns ps k))) S := times_eq hn S (p := ps.getD k (0, 1)) (q := (ns.getD k 0, 1)) ((h2.get k).1.mono (by decide)) ⟨(h.get k).mono (by decide), one_sm _⟩ (fr_ne (h2.get k).2) (by show (1 : Int) ≠ 0; decide)
    walk_at "ev"⟩
  have h4 := rng1_ok ns.length (Nat.le_trans hl (by decide))
  have h5 := total_eq hn S (m := 30) (ps := (List.range ns.length).map (dotG ns ps)) (fun p hp => ⟨(dotG_mem h h2 p hp).1, fr_ne (dotG_mem h h2 p hp).2⟩) (by simp only [List.length_map, List.length_range]; omega)
  rw [List.map_map] at h5
  change fn_total n [.d (.list (List.map (fun k => oF (dotG ns ps k)) (List.range ns.length)))] S = .ok (.d (oF (dotF ns ps))) S at h5
  have h6 : (ns.map PyData.int).length = ns.length := List.length_map _
  unfold fn_dot f_dot
  walk_at "ev"
omit hn
theorem law_at_eq (S : StD) {ns : List Int} {ps : List Fq} (h : GN ns) (h2 : GP ps) (hl : ns.length ≤ 8) (hp : ps.length = ns.length) : fn_law_at n [.d (.tuple (ns.map .int)), .d (.tuple (ps.map oF))] S = .ok (.d (oF (dotF ns ps))) S := by
  have h4 := rng1_ok ns.length (Nat.le_trans hl (by decide))
  have h6 : (ns.map PyData.int).length = ns.length := List.length_map _
  obtain ⟨env', ⟨t, rfl⟩, h8⟩ := for_rng (T := .nm 3) (body := fSet 2 (fFz (fCall 2 (fn_law_add n) (fCons (fFz (fVar 2)) (fCons (fFz (fTup (fCons (fFz (f2 opMulI (f2 opIx (fVar 0) (fVar 3)) (f2 opIx (f2 opIx (fVar 1) (fVar 3)) (fC (.int 0))))) (fCons (fFz (f2 opIx (f2 opIx (fVar 1) (fVar 3)) (fC (.int 1)))) fNil)))) fNil))))) (S := S) ns.length
    (fun k env => ∃ t, env = [.d (.tuple (ns.map .int)), .d (.tuple (ps.map oF)), .d (oF (((List.range k).map (dotG ns ps)).foldl fadd (0, 1))), t]) (fun k env hk ⟨t, e⟩ => by
      subst e
      refine ⟨_, _, rfl, ?_, ⟨.d (.int k), rfl⟩⟩
      have a1 := sum_ok ((List.range k).map (dotG ns ps)) (0, 1) 1 (sf01 0) fr01 (dotG_mem h h2)
      simp only [List.length_map, List.length_range] at a1
      rw [List.range_succ, List.map_append, List.map_singleton, List.foldl_append, List.foldl_cons, List.foldl_nil]
      generalize ((List.range k).map (dotG ns ps)).foldl fadd (0, 1) = acc at *
      have e1 := atI_map (f := PyData.int) (xs := ns) 0 hk
      have e2 := atI_map (f := oF) (xs := ps) (0, 1) (k := k) (by omega)
      have g1 := h2.get k
      have g2 := h.get k
      have e5 : fadd acc (dotG ns ps k) = fadd acc (ns.getD k 0 * (ps.getD k (0, 1)).1, (ps.getD k (0, 1)).2) := dot_step (fr_ne a1.2) (fr_ne g1.2) _
      rw [e5]
      generalize ps.getD k (0, 1) = p at *
      generalize ns.getD k 0 = r at *
      have e4 := mul_ok (big_of g2) (big_of g1.1.1)
      have e3 := law_add_eq (n := n) S (p := acc) (q := (r * p.1, p.2)) (a1.1.mono (by omega)) ⟨(Sm.mul g2 g1.1.1).mono (by decide), g1.1.2.mono (by decide)⟩ (fr_ne a1.2) (by have := fr_ne g1.2; exact this)
      have e6 : oF (r * p.1, p.2) = .tuple [.int (r * p.1), .int p.2] := rfl
      rw [e6] at e3
      walk_at "ev") [.d (.tuple (ns.map .int)), .d (.tuple (ps.map oF)), .d (oF (0, 1)), .no] ⟨.no, rfl⟩
  have h9 := dotF_ok h h2 hl
  change forGo _ _ _ _ _ = .nx [_, _, .d (oF (dotF ns ps)), t] S at h8
  have e7 := law_fr_eq (n := n) S (h9.1.1.mono (k := 1900) (by decide)) (h9.1.2.mono (k := 1900) (by decide)) (fr_ne h9.2)
  rw [nrm_self h9.2] at e7
  have e8 : oF (0, 1) = .tuple [.int 0, .int 1] := rfl
  rw [e8] at h8
  unfold fn_law_at f_law_at
  walk_at "ev"
end

/-! ### rows kept -/
def GR (m : Nat) (r : Rw) : Prop := r.1.length = m ∧ GN r.1 ∧ Sm 20 r.2.2 ∧ (r.2.1 = "most" ∨ r.2.1 = "less" ∨ r.2.1 = "just")
def kb (k : Str) (b : Int) (t : Fq) : Bool := !(decide (0 < sgn (t.1 * 1 - b * t.2)) || ((sgn (t.1 * 1 - b * t.2) == 0 && k == "less") || (decide (sgn (t.1 * 1 - b * t.2) < 0) && k == "just")))
theorem sgn_pos (i : Int) : 0 < sgn i ↔ 0 < i := by unfold sgn; split <;> (try split) <;> omega
theorem sgn_neg (i : Int) : sgn i < 0 ↔ i < 0 := by unfold sgn; split <;> (try split) <;> omega
theorem sgn_zero (i : Int) : sgn i = 0 ↔ i = 0 := by unfold sgn; split <;> (try split) <;> omega
theorem fr_eq_int {t : Fq} (h : Fr t) (b : Int) : t = (b, 1) ↔ t.1 * 1 - b * t.2 = 0 := by
  constructor
  · intro e; subst e; simp
  · intro e
    exact fr_uniq h (fr_int b) (by show t.1 * 1 = b * t.2; omega)
theorem str_ne {a b : Str} (h : (a == b) = false) : a ≠ b := by intro e; subst e; simp at h
theorem kb_just {b : Int} {t : Fq} (h : Fr t) : kb "just" b t = (t == (b, 1)) := by
  rw [Bool.eq_iff_iff, beq_iff_eq, fr_eq_int h b]
  have e1 : (("just" : Str) == "less") = false := by decide +kernel
  simp only [kb, e1, beq_self_eq_true, Bool.and_false, Bool.false_or, Bool.and_true, Bool.not_eq_true', Bool.or_eq_false_iff, decide_eq_false_iff_not, sgn_pos, sgn_neg]
  omega
theorem kb_most {b : Int} {t : Fq} (h : Fr t) : kb "most" b t = (decide (t.1 * 1 < b * t.2) || t == (b, 1)) := by
  rw [Bool.eq_iff_iff, Bool.or_eq_true, beq_iff_eq, fr_eq_int h b]
  have e1 : (("most" : Str) == "less") = false := by decide +kernel
  have e2 : (("most" : Str) == "just") = false := by decide +kernel
  simp only [kb, e1, e2, Bool.and_false, Bool.or_false, Bool.not_eq_true', decide_eq_false_iff_not, sgn_pos, decide_eq_true_eq]
  omega
theorem kb_less {b : Int} {t : Fq} : kb "less" b t = decide (t.1 * 1 < b * t.2) := by
  rw [Bool.eq_iff_iff]
  have e2 : (("less" : Str) == "just") = false := by decide +kernel
  simp only [kb, e2, beq_self_eq_true, Bool.and_false, Bool.or_false, Bool.and_true, Bool.not_eq_true', Bool.or_eq_false_iff, decide_eq_false_iff_not, sgn_pos, decide_eq_true_eq, beq_eq_false_iff_ne, ne_eq, sgn_zero]
  omega
section
variable {n : Nat} (hn : 2 ^ 2000 ≤ n)
include hn
/-- what a row says of a point -/
def kR (r : Rw) (ps : List Fq) : Bool := kb r.2.1 r.2.2 (dotF r.1 ps)
theorem keeps_eq (S : StD) {r : Rw} {ps : List Fq} (h : GR ps.length r) (h2 : GP ps) (hl : ps.length ≤ 8) : fn_keeps n [.d (oR r), .d (.tuple (ps.map oF))] S = .ok (.d (.bool (kR r ps))) S := by
  obtain ⟨ns, k, b⟩ := r
  obtain ⟨h3, h4, h5, h6⟩ := h
  simp only at h3 h4 h5 h6
  have e1 := dot_eq hn S h4 h2 (by omega) h3.symm
  have d := dotF_ok h4 h2 (by omega)
  unfold kR
  show fn_keeps n [.d (oR (ns, k, b)), .d (.tuple (ps.map oF))] S = .ok (.d (.bool (kb k b (dotF ns ps)))) S
  have x1 : opEq (.d (oF (dotF ns ps))) (.d (.tuple [.int b, .int 1])) = some (.d (.bool (dotF ns ps == (b, 1)))) := eqF (dotF ns ps) (b, 1)
  have x2 : fn_is_less n [.d (oF (dotF ns ps)), .d (.tuple [.int b, .int 1])] S = _ := is_less_eq (n := n) S (p := dotF ns ps) (q := (b, 1)) (d.1.mono (by decide)) ⟨h5.mono (by decide), one_sm _⟩
  have y1 := ixR0 (ns, k, b)
  have y2 := ixR1 (ns, k, b)
  have y3 := ixR2 (ns, k, b)
  simp only at y1 y2 y3 x2
  have k1 := kb_just (b := b) d.2
  have k2 := kb_most (b := b) d.2
  have k3 := kb_less (b := b) (t := dotF ns ps)
  generalize dotF ns ps = t at *
  clear h3 h4 h2 hn
  unfold fn_keeps f_keeps
  rcases h6 with rfl | rfl | rfl
  · by_cases z : t.1 * 1 < b * t.2 <;> walk_at "ev"
  · by_cases z : t.1 * 1 < b * t.2 <;> walk_at "ev"
  · walk_at "ev"
omit hn
theorem ixQ {r : Rw} (ns : List Int) (k : Str) (b : Int) : oR (ns, k, b) = .tuple [.tuple (ns.map .int), .str k, .int b] := rfl
noncomputable abbrev lkB (n : Nat) : FS := fSeq (fSet 5 (fFz (fCall 2 (fn_law_sign n) (fCons (fFz (fCall 2 (fn_law_at n) (fCons (fFz (fVar 2)) (fCons (fFz (fVar 1)) fNil)))) (fCons (fFz (fTup (fCons (fFz (fVar 4)) (fCons (fC (.int 1)) fNil)))) fNil)))))
    (fIfS (fOr (fB (f2 opGt (fVar 5) (fC (.int 0)))) (fOr (fAnd (fB (f2 opEq (fVar 5) (fC (.int 0)))) (fB (f2 opEq (fVar 3) (fC (.str "less"))))) (fAnd (fB (f2 opLt (fVar 5) (fC (.int 0)))) (fB (f2 opEq (fVar 3) (fC (.str "just")))))))
    (fRet (fC (.bool false)))
    fNext)
theorem lk_step (S : StD) {ps : List Fq} (h2 : GP ps) (hl : ps.length ≤ 8) (s d : SV) {r : Rw} (h : GR ps.length r) : lkB n [s, .d (.tuple (ps.map oF)), .d (.tuple (r.1.map .int)), .d (.str r.2.1), .d (.int r.2.2), d] S =
    if kR r ps = true then .nx [s, .d (.tuple (ps.map oF)), .d (.tuple (r.1.map .int)), .d (.str r.2.1), .d (.int r.2.2), .d (.int (sgn ((dotF r.1 ps).1 * 1 - r.2.2 * (dotF r.1 ps).2)))] S else .rt (.d (.bool false)) S := by
  obtain ⟨ns, k, bb⟩ := r
  obtain ⟨h3, h4, h5, h6⟩ := h
  simp only at h3 h4 h5 h6
  have e1 := law_at_eq (n := n) S h4 h2 (by omega) h3.symm
  have dd := dotF_ok h4 h2 (by omega)
  have x2 : fn_law_sign n [.d (oF (dotF ns ps)), .d (.tuple [.int bb, .int 1])] S = .ok (.d (.int (sgn ((dotF ns ps).1 * 1 - bb * (dotF ns ps).2)))) S := law_sign_eq (n := n) S (p := dotF ns ps) (q := (bb, 1)) (dd.1.mono (by decide)) ⟨h5.mono (by decide), one_sm _⟩
  have hk : kR (ns, k, bb) ps = kb k bb (dotF ns ps) := rfl
  rw [hk]
  unfold kb
  clear h2 h3 h4 h5
  have s1 : (("most" : Str) == "less") = false := by decide +kernel
  have s2 : (("most" : Str) == "just") = false := by decide +kernel
  have s3 : (("less" : Str) == "just") = false := by decide +kernel
  have s4 : (("just" : Str) == "less") = false := by decide +kernel
  unfold lkB
  generalize sgn ((dotF ns ps).1 * 1 - bb * (dotF ns ps).2) = z at *
  by_cases z1 : 0 < z
  · have z2 : ¬ z < 0 := by omega
    have z3 : (z == 0) = false := by simp; omega
    rcases h6 with rfl | rfl | rfl <;> walk_at "ev"
  · by_cases z2 : z < 0
    · have z3 : (z == 0) = false := by simp; omega
      rcases h6 with rfl | rfl | rfl <;> walk_at "ev"
    · have z3 : (z == 0) = true := by simp; omega
      rcases h6 with rfl | rfl | rfl <;> walk_at "ev"
theorem law_keeps_go (S : StD) {ps : List Fq} (h2 : GP ps) (hl : ps.length ≤ 8) (s : SV) : ∀ (rs : List Rw) (a b c d : SV), (∀ r ∈ rs, GR ps.length r) →
    (rs.all (fun r => kR r ps) = true → ∃ env', forGo (.tp [2, 3, 4]) (lkB n) (rs.map oR) [s, .d (.tuple (ps.map oF)), a, b, c, d] S = .nx env' S) ∧
    (rs.all (fun r => kR r ps) = false → forGo (.tp [2, 3, 4]) (lkB n) (rs.map oR) [s, .d (.tuple (ps.map oF)), a, b, c, d] S = .rt (.d (.bool false)) S) := by
  intro rs
  induction rs with
  | nil => intro a b c d _; exact ⟨fun _ => ⟨_, rfl⟩, fun z => by cases z⟩
  | cons r rs ih =>
    intro a b c d h
    have st := lk_step (n := n) S h2 hl s d (h r List.mem_cons_self)
    have hA : asgT (.tp [2, 3, 4]) (oR r) [s, .d (.tuple (ps.map oF)), a, b, c, d] = some [s, .d (.tuple (ps.map oF)), .d (.tuple (r.1.map .int)), .d (.str r.2.1), .d (.int r.2.2), d] := rfl
    have ih' := ih (.d (.tuple (r.1.map .int))) (.d (.str r.2.1)) (.d (.int r.2.2)) (.d (.int (sgn ((dotF r.1 ps).1 * 1 - r.2.2 * (dotF r.1 ps).2)))) fun q hq => h q (List.mem_cons_of_mem _ hq)
    simp only [List.map_cons, List.all_cons]
    simp only [forGo, hA, st]
    cases hk : kR r ps with
    | true => simp only [if_true, Bool.true_and]; exact ih'
    | false => exact ⟨fun z => by simp at z, fun _ => by simp⟩
theorem law_keeps_eq (S : StD) {ps : List Fq} (h2 : GP ps) (hl : ps.length ≤ 8) {m : Nat} {rs : List Rw} (h : ∀ r ∈ rs, GR ps.length r) : fn_law_keeps n [.d (oS m rs), .d (.tuple (ps.map oF))] S = .ok (.d (.bool (rs.all fun r => kR r ps))) S := by
  obtain ⟨g1, g2⟩ := law_keeps_go (n := n) S h2 hl (.d (oS m rs)) rs .no .no .no .no h
  unfold lkB at g1 g2
  unfold fn_law_keeps f_law_keeps
  cases e : rs.all fun r => kR r ps with
  | true =>
    obtain ⟨env', g1⟩ := g1 e
    clear g2 h h2 e
    walk_at "ev"
  | false =>
    have g2 := g2 e
    clear g1 h h2 e
    walk_at "ev"
include hn
theorem keeps_all_eq (S : StD) {ps : List Fq} (h2 : GP ps) (hl : ps.length ≤ 8) {m : Nat} {rs : List Rw} (h : ∀ r ∈ rs, GR ps.length r) : fn_keeps_all n [.d (oS m rs), .d (.tuple (ps.map oF))] S = .ok (.d (.bool (rs.all fun r => kR r ps))) S := by
  have h3 := lc_mapF (T := .nm 2) (fe := fFz (fCall 2 (fn_keeps n) (fCons (fFz (fVar 2)) (fCons (fFz (fVar 1)) fNil)))) (env0 := [.d (oS m rs), .d (.tuple (ps.map oF)), .no]) (S := S) oR (fun r => .bool (kR r ps)) rs fun r hr => ⟨[.d (oS m rs), .d (.tuple (ps.map oF)), .d (oR r)], rfl, by
    have := keeps_eq hn S (h r hr) h2 hl
    clear h2 h
    walk_at "ev"⟩
  have h4 := allO (rs.map fun r => kR r ps)
  rw [List.map_map, List.all_map] at h4
  have e : (id ∘ fun r => kR r ps) = fun r => kR r ps := rfl
  have e2 : (PyData.bool ∘ fun r => kR r ps) = fun r => .bool (kR r ps) := rfl
  rw [e, e2] at h4
  clear h2 h hn
  unfold fn_keeps_all f_keeps_all
  walk_at "ev"
end

/-! ### slack, points, weights -/
theorem nrm_zero {a b : Int} (hb : b ≠ 0) : (nrm a b).1 = 0 ↔ a = 0 := by
  have h1 := nrm_cross (a := a) hb
  have h2 := nrm_fr (a := a) hb
  generalize nrm a b = p at *
  constructor
  · intro e
    rw [e, Int.zero_mul] at h1
    rcases Int.mul_eq_zero.mp h1.symm with h | h
    · exact h
    · exact absurd h (fr_ne h2)
  · intro e
    rw [e, Int.zero_mul] at h1
    rcases Int.mul_eq_zero.mp h1 with h | h
    · exact h
    · exact absurd h hb
theorem sz_le {k : Nat} (h : k ≤ 8) : k ≤ sizeLine := by
  have : sizeLine = 16777216 := by decide
  omega
section
variable {n : Nat} (hn : 2 ^ 2000 ≤ n)
include hn
def slF (r : Rw) (ps : List Fq) : Fq := fsub (r.2.2, 1) (dotF r.1 ps)
theorem slack_eq (S : StD) {r : Rw} {ps : List Fq} (h : GR ps.length r) (h2 : GP ps) (hl : ps.length ≤ 8) : fn_slack n [.d (oR r), .d (.tuple (ps.map oF))] S = .ok (.d (oF (slF r ps))) S := by
  obtain ⟨ns, k, b⟩ := r
  obtain ⟨h3, h4, h5, h6⟩ := h
  simp only at h3 h4 h5 h6
  have e1 := dot_eq hn S h4 h2 (by omega) h3.symm
  have d := dotF_ok h4 h2 (by omega)
  have x2 : fn_plus n [.d (.tuple [.int b, .int 1]), .d (.tuple [.int (0 - (dotF ns ps).1), .int (dotF ns ps).2])] S = .ok (.d (oF (fadd (b, 1) (0 - (dotF ns ps).1, (dotF ns ps).2)))) S := plus_eq hn S (p := (b, 1)) (q := (0 - (dotF ns ps).1, (dotF ns ps).2)) ⟨h5.mono (by decide), one_sm _⟩ ⟨d.1.1.neg.mono (by decide), d.1.2.mono (by decide)⟩ (by show (1 : Int) ≠ 0; decide) (by have := fr_ne d.2; exact this)
  rw [fsub_eq] at x2
  have hS : slF (ns, k, b) ps = fsub (b, 1) (dotF ns ps) := rfl
  rw [hS]
  have y1 := ixR0 (ns, k, b)
  have y3 := ixR2 (ns, k, b)
  simp only at y1 y3
  generalize fsub (b, 1) (dotF ns ps) = u at *
  generalize dotF ns ps = t at *
  clear h3 h4 h2 hn
  unfold fn_slack f_slack
  walk_at "ev"
theorem sl_zero {r : Rw} {ps : List Fq} (h : GR ps.length r) (h2 : GP ps) (hl : ps.length ≤ 8) : ((slF r ps).1 == 0) = (dotF r.1 ps == (r.2.2, 1)) := by
  obtain ⟨ns, k, b⟩ := r
  obtain ⟨h3, h4, h5, h6⟩ := h
  have d := dotF_ok h4 h2 (by omega)
  show ((fsub (b, 1) (dotF ns ps)).1 == 0) = (dotF ns ps == (b, 1))
  rw [Bool.eq_iff_iff, beq_iff_eq, beq_iff_eq, fr_eq_int d.2 b]
  unfold fsub
  rw [nrm_zero (Int.mul_ne_zero (by show (1 : Int) ≠ 0; decide) (fr_ne d.2))]
  show b * (dotF ns ps).2 - (dotF ns ps).1 * 1 = 0 ↔ (dotF ns ps).1 * 1 - b * (dotF ns ps).2 = 0
  clear hn
  omega
/-- where a row is just kept -/
def tgt (rs : List Rw) (ps : List Fq) : List D := ((List.range rs.length).filter fun k => dotF (rs.getD k ([], "", 0)).1 ps == ((rs.getD k ([], "", 0)).2.2, 1)).map fun (k : Nat) => PyData.int (k : Int)
theorem tight_eq (S : StD) {ps : List Fq} (h2 : GP ps) (hl : ps.length ≤ 8) {m : Nat} {rs : List Rw} (h : ∀ r ∈ rs, GR ps.length r) (hr : rs.length ≤ 8) : fn_tight n [.d (oS m rs), .d (.tuple (ps.map oF))] S = .ok (.own (tgt rs ps)) S := by
  have h3 := lc_rng (T := .nm 2) (ft := (fB (f2 opEq (f2 opIx (fCall 2 (fn_slack n) (fCons (fFz (f2 opIx (f2 opIx (fVar 0) (fC (.int 2))) (fVar 2))) (fCons (fFz (fVar 1)) fNil))) (fC (.int 0))) (fC (.int 0))))) (fe := (fFz (fVar 2))) (env0 := [.d (oS m rs), .d (.tuple (ps.map oF)), .no]) (S := S) rs.length
    (fun k => dotF (rs.getD k ([], "", 0)).1 ps == ((rs.getD k ([], "", 0)).2.2, 1)) (fun k => .int (k : Int)) fun k hk => ⟨[.d (oS m rs), .d (.tuple (ps.map oF)), .d (.int k)], rfl, by
      have hg := h _ (List.getElem_mem hk)
      have e0 : rs.getD k ([], "", 0) = rs[k] := by simp [hk]
      have e1 := atI_map (f := oR) (xs := rs) ([], "", 0) hk
      have e2 := slack_eq hn S hg h2 hl
      have e3 := sl_zero hn hg h2 hl
      rw [e0] at e1 ⊢
      rw [← e3]
      generalize rs[k] = r at *
      clear h h2 hn hg e3 e0
      walk_at "ev", by intro _; clear h h2 hn; walk_at "ev"⟩
  have h4 := rng1_ok rs.length (sz_le hr)
  have h6 : (rs.map oR).length = rs.length := List.length_map _
  unfold tgt
  clear h h2 hn
  unfold fn_tight f_tight
  walk_at "ev"
theorem is_point_no (S : StD) {k m : Nat} {rs : List Rw} {x : D} (hx : Sh (k + 2) x) (hs : ∀ xs, x = .tuple xs → ∀ y ∈ xs, SmD 2000 y) (h : arePartsD m x = false) : fn_is_point n [.d (oS m rs), .d x] S = .ok (.d (.bool false)) S := by
  have e := are_parts_eq hn S (m := m) hx hs
  rw [h] at e
  clear hn
  unfold fn_is_point f_is_point
  walk_at "ev"
omit hn in
theorem parts_yes {ps : List Fq} (h2 : GP ps) : arePartsD ps.length (.tuple (ps.map oF)) = true := by
  simp only [arePartsD, List.length_map, beq_self_eq_true, Bool.true_and, List.all_eq_true, List.mem_map, forall_exists_index, and_imp, forall_apply_eq_imp_iff₂]
  intro p hp
  obtain ⟨-, h3, h4⟩ := h2 p hp
  simp only [oF, isPartD, Bool.and_eq_true, decide_eq_true_eq, beq_iff_eq]
  exact ⟨by omega, h4⟩
omit hn in
theorem GP.sh {ps : List Fq} (k : Nat) : Sh (k + 2) (.tuple (ps.map oF)) := Sh.tup fun x hx => by
  obtain ⟨p, _, rfl⟩ := List.mem_map.mp hx
  exact oF_sh k p
omit hn in
theorem oF_smd {p : Fq} {k : Nat} (h : Sf k p) : SmD k (oF p) := fun a b e => by
  obtain ⟨x, y⟩ := p
  simp only [oF] at e
  cases e
  exact h
omit hn in
theorem GP.smd {ps : List Fq} (h : GP ps) : ∀ xs, PyData.tuple (ps.map oF) = .tuple xs → ∀ y ∈ xs, SmD 1900 y := fun xs e y hy => by
  cases e
  obtain ⟨p, hp, rfl⟩ := List.mem_map.mp hy
  exact oF_smd ((h p hp).1.mono (by decide))
theorem is_point_yes (S : StD) {ps : List Fq} (h2 : GP ps) (hl : ps.length ≤ 8) {rs : List Rw} (h : ∀ r ∈ rs, GR ps.length r) : fn_is_point n [.d (oS ps.length rs), .d (.tuple (ps.map oF))] S = .ok (.d (.bool (rs.all fun r => kR r ps))) S := by
  have e := are_parts_eq hn S (m := ps.length) (GP.sh (ps := ps) 1) (fun xs e y hy a b z => ⟨(GP.smd h2 xs e y hy a b z).1.mono (by decide), (GP.smd h2 xs e y hy a b z).2.mono (by decide)⟩)
  rw [parts_yes h2] at e
  have e2 := keeps_all_eq hn S h2 hl (m := ps.length) h
  clear h h2 hn
  unfold fn_is_point f_is_point
  walk_at "ev"
end

/-! ### weights -/
abbrev dR : Rw := ([], "", 0)
theorem kind_ok {k : Str} (h : k = "most" ∨ k = "less" ∨ k = "just") : PyData.strOk k = true := by rcases h with rfl | rfl | rfl <;> decide +kernel
def wOk (rs : List Rw) (ws : List Fq) : Bool := (List.range rs.length).all fun k => (rs.getD k dR).2.1 == "just" || decide (0 ≤ (ws.getD k (0, 1)).1)
theorem atI_rng {f : Nat → D} {m j : Nat} (h : j < m) : atI ((List.range m).map f) (j : Int) = some (f j) := by
  rw [atI_k (by simpa using h)]
  simp
theorem none_not {α β : Type} (l : List α) (p : α → Bool) (f : α → β) : (((((l.filter fun k => !p k).map f).length : Nat) : Int) == 0) = l.all p := by
  rw [Bool.eq_iff_iff]
  simp
section
variable {n : Nat} (hn : 2 ^ 2000 ≤ n)
include hn
theorem are_weights_no (S : StD) {k m : Nat} {rs : List Rw} {x : D} (hx : Sh (k + 2) x) (hs : ∀ xs, x = .tuple xs → ∀ y ∈ xs, SmD 1900 y) (h : arePartsD rs.length x = false) : fn_are_weights n [.d (oS m rs), .d x] S = .ok (.d (.bool false)) S := by
  have e := are_parts_eq hn S (m := rs.length) hx (fun xs e y hy a b z => ⟨(hs xs e y hy a b z).1.mono (by decide), (hs xs e y hy a b z).2.mono (by decide)⟩)
  rw [h] at e
  have h6 : (rs.map oR).length = rs.length := List.length_map _
  clear hn
  unfold fn_are_weights f_are_weights
  walk_at "ev"
omit hn in
theorem law_weights_no (S : StD) {k m : Nat} {rs : List Rw} {x : D} (hx : Sh (k + 2) x) (hs : ∀ xs, x = .tuple xs → ∀ y ∈ xs, SmD 1900 y) (h : arePartsD rs.length x = false) : fn_law_weights n [.d (oS m rs), .d x] S = .ok (.d (.bool false)) S := by
  have e := law_are_frs_eq (n := n) S (m := rs.length) hx hs
  rw [h] at e
  have h6 : (rs.map oR).length = rs.length := List.length_map _
  unfold fn_law_weights f_law_weights
  walk_at "ev"
theorem are_weights_yes (S : StD) {ws : List Fq} (h2 : GP ws) {M m : Nat} {rs : List Rw} (h : ∀ r ∈ rs, GR M r) (hl : ws.length = rs.length) (hr : rs.length ≤ 8) : fn_are_weights n [.d (oS m rs), .d (.tuple (ws.map oF))] S = .ok (.d (.bool (wOk rs ws))) S := by
  have e := are_parts_eq hn S (m := ws.length) (GP.sh (ps := ws) 1) (fun xs e y hy a b z => ⟨(GP.smd h2 xs e y hy a b z).1.mono (by decide), (GP.smd h2 xs e y hy a b z).2.mono (by decide)⟩)
  rw [parts_yes h2] at e
  have h6 : (rs.map oR).length = rs.length := List.length_map _
  have h7 : (ws.map oF).length = rs.length := by simpa using hl
  have h4 := rng1_ok rs.length (sz_le hr)
  have h5 := lc_rngM (T := .nm 2) (fe := (fFz (fOrV (f2 opEq (f2 opIx (f2 opIx (f2 opIx (fVar 0) (fC (.int 2))) (fVar 2)) (fC (.int 1))) (fC (.str "just"))) (f2 opGe (f2 opIx (f2 opIx (fVar 1) (fVar 2)) (fC (.int 0))) (fC (.int 0)))))) (env0 := [.d (oS m rs), .d (.tuple (ws.map oF)), .no]) (S := S) rs.length
    (fun k => .bool ((rs.getD k dR).2.1 == "just" || decide (0 ≤ (ws.getD k (0, 1)).1))) fun k hk => ⟨[.d (oS m rs), .d (.tuple (ws.map oF)), .d (.int k)], rfl, by
      have e1 := atI_map (f := oR) (xs := rs) dR hk
      have e2 := atI_map (f := oF) (xs := ws) (0, 1) (k := k) (by omega)
      have e0 : rs.getD k dR = rs[k] := by simp [hk]
      have e3 := sEq (kind_ok (h _ (List.getElem_mem hk)).2.2.2) (b := "just") (by decide +kernel)
      rw [← e0] at e3
      generalize rs.getD k dR = r at *
      generalize ws.getD k (0, 1) = w at *
      clear h h2 hn e0
      cases e4 : r.2.1 == "just" <;> walk_at "ev"⟩
  have h8 := allO ((List.range rs.length).map fun k => (rs.getD k dR).2.1 == "just" || decide (0 ≤ (ws.getD k (0, 1)).1))
  rw [List.map_map, List.all_map] at h8
  have e5 : (List.range rs.length).all (id ∘ fun k => (rs.getD k dR).2.1 == "just" || decide (0 ≤ (ws.getD k (0, 1)).1)) = wOk rs ws := rfl
  have e6 : (PyData.bool ∘ fun k => (rs.getD k dR).2.1 == "just" || decide (0 ≤ (ws.getD k (0, 1)).1)) = fun k => .bool ((rs.getD k dR).2.1 == "just" || decide (0 ≤ (ws.getD k (0, 1)).1)) := rfl
  rw [e5, e6] at h8
  rw [hl] at e
  clear h h2 hn e5 e6
  unfold fn_are_weights f_are_weights
  walk_at "ev"
omit hn in
theorem law_weights_yes (S : StD) {ws : List Fq} (h2 : GP ws) {M m : Nat} {rs : List Rw} (h : ∀ r ∈ rs, GR M r) (hl : ws.length = rs.length) (hr : rs.length ≤ 8) : fn_law_weights n [.d (oS m rs), .d (.tuple (ws.map oF))] S = .ok (.d (.bool (wOk rs ws))) S := by
  have e := law_are_frs_eq (n := n) S (m := ws.length) (GP.sh (ps := ws) 1) (GP.smd h2)
  rw [parts_yes h2] at e
  have h6 : (rs.map oR).length = rs.length := List.length_map _
  have h7 : (ws.map oF).length = rs.length := by simpa using hl
  have h4 := rng1_ok rs.length (sz_le hr)
  have h5 := lc_rng (T := .nm 2) (ft := (fAnd (fB (f2 opNe (f2 opIx (f2 opIx (f2 opIx (fVar 0) (fC (.int 2))) (fVar 2)) (fC (.int 1))) (fC (.str "just")))) (fB (f2 opLt (f2 opIx (f2 opIx (fVar 1) (fVar 2)) (fC (.int 0))) (fC (.int 0)))))) (fe := (fFz (fVar 2))) (env0 := [.d (oS m rs), .d (.tuple (ws.map oF)), .no]) (S := S) rs.length
    (fun k => !((rs.getD k dR).2.1 == "just" || decide (0 ≤ (ws.getD k (0, 1)).1))) (fun k => .int (k : Int)) fun k hk => ⟨[.d (oS m rs), .d (.tuple (ws.map oF)), .d (.int k)], rfl, by
      have e1 := atI_map (f := oR) (xs := rs) dR hk
      have e2 := atI_map (f := oF) (xs := ws) (0, 1) (k := k) (by omega)
      have e0 : rs.getD k dR = rs[k] := by simp [hk]
      have e3 := sNe (kind_ok (h _ (List.getElem_mem hk)).2.2.2) (b := "just") (by decide +kernel)
      rw [← e0] at e3
      generalize rs.getD k dR = r at *
      generalize ws.getD k (0, 1) = w at *
      clear h h2 e0
      have e5 : (!decide (0 ≤ w.1)) = decide (w.1 < 0) := by rw [Bool.eq_iff_iff]; simp
      cases e4 : r.2.1 == "just" <;> walk_at "ev", by intro _; clear h h2; walk_at "ev"⟩
  have h8 := none_not (List.range rs.length) (fun k => (rs.getD k dR).2.1 == "just" || decide (0 ≤ (ws.getD k (0, 1)).1)) (fun (k : Nat) => PyData.int (k : Int))
  change _ = wOk rs ws at h8
  rw [hl] at e
  clear h h2
  unfold fn_law_weights f_law_weights
  walk_at "ev"
/-! ### weighing -/
def fk (rs : List Rw) (ws : List Fq) (j i : Nat) : Fq := fmul (ws.getD i (0, 1)) ((rs.getD i dR).1.getD j 0, 1)
def fnd (rs : List Rw) (ws : List Fq) (k j : Nat) : Fq := ((List.range k).map (fk rs ws j)).foldl fadd (0, 1)
def bk (rs : List Rw) (ws : List Fq) (i : Nat) : Fq := fmul (ws.getD i (0, 1)) ((rs.getD i dR).2.2, 1)
def bnd (rs : List Rw) (ws : List Fq) (k : Nat) : Fq := ((List.range k).map (bk rs ws)).foldl fadd (0, 1)
def lss (rs : List Rw) (ws : List Fq) (k : Nat) : Bool := (List.range k).any fun i => (rs.getD i dR).2.1 == "less" && decide (0 < (ws.getD i (0, 1)).1)
omit hn
theorem fnd_succ (rs : List Rw) (ws : List Fq) (k j : Nat) : fnd rs ws (k + 1) j = fadd (fnd rs ws k j) (fk rs ws j k) := by
  unfold fnd
  rw [List.range_succ, List.map_append, List.map_singleton, List.foldl_append, List.foldl_cons, List.foldl_nil]
theorem bnd_succ (rs : List Rw) (ws : List Fq) (k : Nat) : bnd rs ws (k + 1) = fadd (bnd rs ws k) (bk rs ws k) := by
  unfold bnd
  rw [List.range_succ, List.map_append, List.map_singleton, List.foldl_append, List.foldl_cons, List.foldl_nil]
theorem lss_succ (rs : List Rw) (ws : List Fq) (k : Nat) : lss rs ws (k + 1) = (lss rs ws k || ((rs.getD k dR).2.1 == "less" && decide (0 < (ws.getD k (0, 1)).1))) := by
  unfold lss
  rw [List.range_succ, List.any_append]
  simp
theorem GR.get {m : Nat} {rs : List Rw} (h : ∀ r ∈ rs, GR m r) (k : Nat) : GN (rs.getD k dR).1 ∧ Sm 20 (rs.getD k dR).2.2 := by
  by_cases hk : k < rs.length
  · have e : rs.getD k dR = rs[k] := by simp [hk]
    rw [e]
    have := h _ (List.getElem_mem hk)
    exact ⟨this.2.1, this.2.2.1⟩
  · have e : rs.getD k dR = dR := by simp [hk]
    rw [e]
    exact ⟨fun i hi => absurd hi (by simp), zero_sm 20⟩
theorem fk_ok {m : Nat} {rs : List Rw} {ws : List Fq} (h : ∀ r ∈ rs, GR m r) (h2 : GP ws) (j i : Nat) : Sf 30 (fk rs ws j i) ∧ Fr (fk rs ws j i) :=
  ⟨fmul_sf (j := 10) (k := 20) (h2.get i).1 ⟨(GR.get h i).1.get j, one_sm 19⟩, fmul_fr (h2.get i).2 (fr_int _)⟩
theorem bk_ok {m : Nat} {rs : List Rw} {ws : List Fq} (h : ∀ r ∈ rs, GR m r) (h2 : GP ws) (i : Nat) : Sf 30 (bk rs ws i) ∧ Fr (bk rs ws i) :=
  ⟨fmul_sf (j := 10) (k := 20) (h2.get i).1 ⟨(GR.get h i).2, one_sm 19⟩, fmul_fr (h2.get i).2 (fr_int _)⟩
theorem fnd_ok {m : Nat} {rs : List Rw} {ws : List Fq} (h : ∀ r ∈ rs, GR m r) (h2 : GP ws) {k : Nat} (hk : k ≤ 8) (j : Nat) : Sf 300 (fnd rs ws k j) ∧ Fr (fnd rs ws k j) := by
  have := sum_ok ((List.range k).map (fk rs ws j)) (0, 1) 1 (sf01 0) fr01 fun p hp => by
    obtain ⟨i, _, rfl⟩ := List.mem_map.mp hp
    exact fk_ok h h2 j i
  refine ⟨this.1.mono ?_, this.2⟩
  simp only [List.length_map, List.length_range]
  omega
theorem bnd_ok {m : Nat} {rs : List Rw} {ws : List Fq} (h : ∀ r ∈ rs, GR m r) (h2 : GP ws) {k : Nat} (hk : k ≤ 8) : Sf 300 (bnd rs ws k) ∧ Fr (bnd rs ws k) := by
  have := sum_ok ((List.range k).map (bk rs ws)) (0, 1) 1 (sf01 0) fr01 fun p hp => by
    obtain ⟨i, _, rfl⟩ := List.mem_map.mp hp
    exact bk_ok h h2 i
  refine ⟨this.1.mono ?_, this.2⟩
  simp only [List.length_map, List.length_range]
  omega
def fL (rs : List Rw) (ws : List Fq) (m k : Nat) : List D := (List.range m).map fun j => oF (fnd rs ws k j)
theorem rep_ok (x : D) (m : Nat) (hm : m ≤ 8) : opRep (.own [x]) (.d (.int m)) = some (.own ((List.range m).map fun _ => x)) := by
  have h0 : sizeLine = 16777216 := by decide
  have h1 : repD (.list [x]) (.int m) = some (.own (List.replicate (m : Int).toNat [x]).flatten) := by
    unfold repD
    exact if_pos ⟨by omega, by omega, by simp; omega⟩
  have h2 : (List.replicate (m : Int).toNat [x]).flatten = (List.range m).map fun _ => x := by
    rw [Int.toNat_natCast]
    simp [List.map_const']
  rw [h2] at h1
  exact h1
noncomputable abbrev wgB (n : Nat) : FS := (fSeq (fSet 6 (fFz (f2 opIx (f2 opIx (fVar 0) (fC (.int 2))) (fVar 2))))
    (fSeq (fSet 3 (fFz (fLc [7] (.nm 7) (fRng rng1 (fCons (f2 opIx (fVar 0) (fC (.int 1))) fNil)) fYes (fFz (fCall 2 (fn_plus n) (fCons (fFz (f2 opIx (fVar 3) (fVar 7))) (fCons (fFz (fCall 2 (fn_times n) (fCons (fFz (f2 opIx (fVar 1) (fVar 2))) (fCons (fFz (fTup (fCons (fFz (f2 opIx (f2 opIx (fVar 6) (fC (.int 0))) (fVar 7))) (fCons (fC (.int 1)) fNil)))) fNil)))) fNil)))))))
    (fSeq (fSet 4 (fFz (fCall 2 (fn_plus n) (fCons (fFz (fVar 4)) (fCons (fFz (fCall 2 (fn_times n) (fCons (fFz (f2 opIx (fVar 1) (fVar 2))) (fCons (fFz (fTup (fCons (fFz (f2 opIx (fVar 6) (fC (.int 2)))) (fCons (fC (.int 1)) fNil)))) fNil)))) fNil)))))
    (fSet 5 (fFz (fOrV (fVar 5) (fAndV (f2 opEq (f2 opIx (fVar 6) (fC (.int 1))) (fC (.str "less"))) (f2 opGt (f2 opIx (f2 opIx (fVar 1) (fVar 2)) (fC (.int 0))) (fC (.int 0))))))))))
include hn
theorem wg_step (S : StD) {ws : List Fq} (h2 : GP ws) {m : Nat} {rs : List Rw} (h : ∀ r ∈ rs, GR m r) (hl : ws.length = rs.length) (hr : rs.length ≤ 8) (hm : m ≤ 8) {k : Nat} (hk : k < rs.length) (t6 t7 : SV) :
    wgB n [.d (oS m rs), .d (.tuple (ws.map oF)), .d (.int k), .d (.list (fL rs ws m k)), .d (oF (bnd rs ws k)), .d (.bool (lss rs ws k)), t6, t7] S =
      .nx [.d (oS m rs), .d (.tuple (ws.map oF)), .d (.int k), .d (.list (fL rs ws m (k + 1))), .d (oF (bnd rs ws (k + 1))), .d (.bool (lss rs ws (k + 1))), .d (oR (rs.getD k dR)), t7] S := by
  have e1 := atI_map (f := oR) (xs := rs) dR hk
  have e2 := atI_map (f := oF) (xs := ws) (0, 1) (k := k) (by omega)
  have e0 : rs.getD k dR = rs[k] := by simp [hk]
  have hg := h _ (List.getElem_mem hk)
  rw [← e0] at hg
  have e3 := sEq (kind_ok hg.2.2.2) (b := "less") (by decide +kernel)
  have hw := h2.get k
  have h4 := rng1_ok m (sz_le hm)
  have b1 := bnd_ok h h2 (k := k) (by omega)
  have b2 := bk_ok h h2 k
  have c1 : fn_times n [.d (oF (ws.getD k (0, 1))), .d (.tuple [.int (rs.getD k dR).2.2, .int 1])] S = .ok (.d (oF (bk rs ws k))) S := times_eq hn S (p := ws.getD k (0, 1)) (q := ((rs.getD k dR).2.2, 1)) (hw.1.mono (by decide)) ⟨hg.2.2.1.mono (by decide), one_sm _⟩ (fr_ne hw.2) (by show (1 : Int) ≠ 0; decide)
  have c2 := plus_eq hn S (b1.1.mono (k := 900) (by decide)) (b2.1.mono (k := 900) (by decide)) (fr_ne b1.2) (fr_ne b2.2)
  rw [← bnd_succ] at c2
  have c3 := lss_succ rs ws k
  have h5 := lc_rngM (T := .nm 7) (fe := (fFz (fCall 2 (fn_plus n) (fCons (fFz (f2 opIx (fVar 3) (fVar 7))) (fCons (fFz (fCall 2 (fn_times n) (fCons (fFz (f2 opIx (fVar 1) (fVar 2))) (fCons (fFz (fTup (fCons (fFz (f2 opIx (f2 opIx (fVar 6) (fC (.int 0))) (fVar 7))) (fCons (fC (.int 1)) fNil)))) fNil)))) fNil)))))
    (env0 := [.d (oS m rs), .d (.tuple (ws.map oF)), .d (.int k), .d (.list (fL rs ws m k)), .d (oF (bnd rs ws k)), .d (.bool (lss rs ws k)), .d (oR (rs.getD k dR)), .no]) (S := S) m (fun j => oF (fnd rs ws (k + 1) j)) fun j hj => ⟨[.d (oS m rs), .d (.tuple (ws.map oF)), .d (.int k), .d (.list (fL rs ws m k)), .d (oF (bnd rs ws k)), .d (.bool (lss rs ws k)), .d (oR (rs.getD k dR)), .d (.int j)], rfl, by
      have a1 := fnd_ok h h2 (k := k) (by omega) j
      have a2 := fk_ok h h2 j k
      have a3 := plus_eq hn S (a1.1.mono (k := 900) (by decide)) (a2.1.mono (k := 900) (by decide)) (fr_ne a1.2) (fr_ne a2.2)
      rw [← fnd_succ] at a3
      have a4 : fn_times n [.d (oF (ws.getD k (0, 1))), .d (.tuple [.int ((rs.getD k dR).1.getD j 0), .int 1])] S = .ok (.d (oF (fk rs ws j k))) S := times_eq hn S (p := ws.getD k (0, 1)) (q := ((rs.getD k dR).1.getD j 0, 1)) (hw.1.mono (by decide)) ⟨(hg.2.1.get j).mono (by decide), one_sm _⟩ (fr_ne hw.2) (by show (1 : Int) ≠ 0; decide)
      have a5 : atI (fL rs ws m k) (j : Int) = some (oF (fnd rs ws k j)) := atI_rng hj
      have a6 := atI_map (f := PyData.int) (xs := (rs.getD k dR).1) 0 (k := j) (by rw [hg.1]; exact hj)
      generalize rs.getD k dR = r at *
      generalize ws.getD k (0, 1) = w at *
      clear h h2 hn hl hr hm hk hj hw hg b1 b2 c1 c2 c3 a1 a2 h4 e0
      walk_at "ev"⟩
  have c4 : fL rs ws m (k + 1) = (List.range m).map fun j => oF (fnd rs ws (k + 1) j) := rfl
  rw [← c4] at h5
  rw [c3]
  generalize fL rs ws m (k + 1) = z1 at *
  generalize bnd rs ws (k + 1) = z2 at *
  generalize bk rs ws k = z3 at *
  generalize rs.getD k dR = r at *
  generalize ws.getD k (0, 1) = w at *
  clear h h2 hn hl hr hm hk hw hg b1 b2 e0 c3 c4
  unfold wgB
  cases d1 : lss rs ws k
  · rw [d1] at h5
    cases d2 : r.2.1 == "less" <;> walk_at "ev"
  · rw [d1] at h5
    walk_at "ev"
end

section
variable {n : Nat} (hn : 2 ^ 2000 ≤ n)
noncomputable abbrev lwB (n : Nat) : FS := (fSeq (fSetT (.tp [6, 7, 8]) (f2 opIx (f2 opIx (fVar 0) (fC (.int 2))) (fVar 2)))
    (fSeq (fSet 3 (fFz (fLc [9] (.nm 9) (fRng rng1 (fCons (f2 opIx (fVar 0) (fC (.int 1))) fNil)) fYes (fFz (fCall 2 (fn_law_add n) (fCons (fFz (f2 opIx (fVar 3) (fVar 9))) (fCons (fFz (fCall 2 (fn_law_mul n) (fCons (fFz (f2 opIx (fVar 1) (fVar 2))) (fCons (fFz (fTup (fCons (fFz (f2 opIx (fVar 6) (fVar 9))) (fCons (fC (.int 1)) fNil)))) fNil)))) fNil)))))))
    (fSeq (fSet 4 (fFz (fCall 2 (fn_law_add n) (fCons (fFz (fVar 4)) (fCons (fFz (fCall 2 (fn_law_mul n) (fCons (fFz (f2 opIx (fVar 1) (fVar 2))) (fCons (fFz (fTup (fCons (fFz (fVar 8)) (fCons (fC (.int 1)) fNil)))) fNil)))) fNil)))))
    (fSet 5 (fFz (fOrV (fVar 5) (fAndV (f2 opEq (fVar 7) (fC (.str "less"))) (f2 opGt (f2 opIx (f2 opIx (fVar 1) (fVar 2)) (fC (.int 0))) (fC (.int 0))))))))))
theorem lw_step (S : StD) {ws : List Fq} (h2 : GP ws) {m : Nat} {rs : List Rw} (h : ∀ r ∈ rs, GR m r) (hl : ws.length = rs.length) (hr : rs.length ≤ 8) (hm : m ≤ 8) {k : Nat} (hk : k < rs.length) (t6 t7 t8 t9 : SV) :
    lwB n [.d (oS m rs), .d (.tuple (ws.map oF)), .d (.int k), .d (.list (fL rs ws m k)), .d (oF (bnd rs ws k)), .d (.bool (lss rs ws k)), t6, t7, t8, t9] S =
      .nx [.d (oS m rs), .d (.tuple (ws.map oF)), .d (.int k), .d (.list (fL rs ws m (k + 1))), .d (oF (bnd rs ws (k + 1))), .d (.bool (lss rs ws (k + 1))), .d (.tuple ((rs.getD k dR).1.map .int)), .d (.str (rs.getD k dR).2.1), .d (.int (rs.getD k dR).2.2), t9] S := by
  have e1 := atI_map (f := oR) (xs := rs) dR hk
  have e2 := atI_map (f := oF) (xs := ws) (0, 1) (k := k) (by omega)
  have e0 : rs.getD k dR = rs[k] := by simp [hk]
  have hg := h _ (List.getElem_mem hk)
  rw [← e0] at hg
  have e3 := sEq (kind_ok hg.2.2.2) (b := "less") (by decide +kernel)
  have hw := h2.get k
  have h4 := rng1_ok m (sz_le hm)
  have b1 := bnd_ok h h2 (k := k) (by omega)
  have b2 := bk_ok h h2 k
  have c1 : fn_law_mul n [.d (oF (ws.getD k (0, 1))), .d (.tuple [.int (rs.getD k dR).2.2, .int 1])] S = .ok (.d (oF (bk rs ws k))) S := law_mul_eq (n := n) S (p := ws.getD k (0, 1)) (q := ((rs.getD k dR).2.2, 1)) (hw.1.mono (by decide)) ⟨hg.2.2.1.mono (by decide), one_sm _⟩ (fr_ne hw.2) (by show (1 : Int) ≠ 0; decide)
  have c2 := law_add_eq (n := n) S (b1.1.mono (k := 900) (by decide)) (b2.1.mono (k := 900) (by decide)) (fr_ne b1.2) (fr_ne b2.2)
  rw [← bnd_succ] at c2
  have c3 := lss_succ rs ws k
  have h5 := lc_rngM (T := .nm 9) (fe := (fFz (fCall 2 (fn_law_add n) (fCons (fFz (f2 opIx (fVar 3) (fVar 9))) (fCons (fFz (fCall 2 (fn_law_mul n) (fCons (fFz (f2 opIx (fVar 1) (fVar 2))) (fCons (fFz (fTup (fCons (fFz (f2 opIx (fVar 6) (fVar 9))) (fCons (fC (.int 1)) fNil)))) fNil)))) fNil)))))
    (env0 := [.d (oS m rs), .d (.tuple (ws.map oF)), .d (.int k), .d (.list (fL rs ws m k)), .d (oF (bnd rs ws k)), .d (.bool (lss rs ws k)), .d (.tuple ((rs.getD k dR).1.map .int)), .d (.str (rs.getD k dR).2.1), .d (.int (rs.getD k dR).2.2), .no]) (S := S) m (fun j => oF (fnd rs ws (k + 1) j)) fun j hj => ⟨[.d (oS m rs), .d (.tuple (ws.map oF)), .d (.int k), .d (.list (fL rs ws m k)), .d (oF (bnd rs ws k)), .d (.bool (lss rs ws k)), .d (.tuple ((rs.getD k dR).1.map .int)), .d (.str (rs.getD k dR).2.1), .d (.int (rs.getD k dR).2.2), .d (.int j)], rfl, by
      have a1 := fnd_ok h h2 (k := k) (by omega) j
      have a2 := fk_ok h h2 j k
      have a3 := law_add_eq (n := n) S (a1.1.mono (k := 900) (by decide)) (a2.1.mono (k := 900) (by decide)) (fr_ne a1.2) (fr_ne a2.2)
      rw [← fnd_succ] at a3
      have a4 : fn_law_mul n [.d (oF (ws.getD k (0, 1))), .d (.tuple [.int ((rs.getD k dR).1.getD j 0), .int 1])] S = .ok (.d (oF (fk rs ws j k))) S := law_mul_eq (n := n) S (p := ws.getD k (0, 1)) (q := ((rs.getD k dR).1.getD j 0, 1)) (hw.1.mono (by decide)) ⟨(hg.2.1.get j).mono (by decide), one_sm _⟩ (fr_ne hw.2) (by show (1 : Int) ≠ 0; decide)
      have a5 : atI (fL rs ws m k) (j : Int) = some (oF (fnd rs ws k j)) := atI_rng hj
      have a6 := atI_map (f := PyData.int) (xs := (rs.getD k dR).1) 0 (k := j) (by rw [hg.1]; exact hj)
      generalize rs.getD k dR = r at *
      generalize ws.getD k (0, 1) = w at *
      clear h h2 hl hr hm hk hj hw hg b1 b2 c1 c2 c3 a1 a2 h4 e0
      walk_at "ev"⟩
  have c4 : fL rs ws m (k + 1) = (List.range m).map fun j => oF (fnd rs ws (k + 1) j) := rfl
  rw [← c4] at h5
  rw [c3]
  generalize fL rs ws m (k + 1) = z1 at *
  generalize bnd rs ws (k + 1) = z2 at *
  generalize bk rs ws k = z3 at *
  generalize rs.getD k dR = r at *
  generalize ws.getD k (0, 1) = w at *
  have hA : ∀ (x0 x1 x2 x3 x4 x5 : SV), asgT (.tp [6, 7, 8]) (oR r) [x0, x1, x2, x3, x4, x5, t6, t7, t8, t9] = some [x0, x1, x2, x3, x4, x5, .d (.tuple (r.1.map .int)), .d (.str r.2.1), .d (.int r.2.2), t9] := fun _ _ _ _ _ _ => rfl
  clear h h2 hl hr hm hk hw hg b1 b2 e0 c3 c4
  unfold lwB
  cases d1 : lss rs ws k
  · rw [d1] at h5
    cases d2 : r.2.1 == "less" <;> walk_at "ev"
  · rw [d1] at h5

    walk_at "ev"
theorem fL0 (rs : List Rw) (ws : List Fq) (m : Nat) : fL rs ws m 0 = (List.range m).map fun _ => PyData.tuple [.int 0, .int 1] := rfl
include hn
theorem weighed_eq (S : StD) {ws : List Fq} (h2 : GP ws) {m : Nat} {rs : List Rw} (h : ∀ r ∈ rs, GR m r) (hl : ws.length = rs.length) (hr : rs.length ≤ 8) (hm : m ≤ 8) :
    fn_weighed n [.d (oS m rs), .d (.tuple (ws.map oF))] S = .ok (.d (.tuple [.tuple (fL rs ws m rs.length), oF (bnd rs ws rs.length), .bool (lss rs ws rs.length)])) S := by
  obtain ⟨env', ⟨t2, t6, t7, rfl⟩, h8⟩ := for_rng (T := .nm 2) (body := wgB n) (S := S) rs.length (fun k env => ∃ t2 t6 t7, env = [.d (oS m rs), .d (.tuple (ws.map oF)), t2, .d (.list (fL rs ws m k)), .d (oF (bnd rs ws k)), .d (.bool (lss rs ws k)), t6, t7])
    (fun k env hk ⟨t2, t6, t7, e⟩ => by
      subst e
      exact ⟨_, _, rfl, wg_step hn S h2 h hl hr hm hk t6 t7, _, _, _, rfl⟩) [.d (oS m rs), .d (.tuple (ws.map oF)), .no, .d (.list (fL rs ws m 0)), .d (oF (bnd rs ws 0)), .d (.bool (lss rs ws 0)), .no, .no] ⟨_, _, _, rfl⟩
  have h3 := rep_ok (.tuple [.int 0, .int 1]) m hm
  have h4 := rng1_ok rs.length (sz_le hr)
  have h7 : (ws.map oF).length = rs.length := by simpa using hl
  rw [fL0] at h8
  have e1 : oF (bnd rs ws 0) = .tuple [.int 0, .int 1] := rfl
  have e2 : lss rs ws 0 = false := rfl
  rw [e1, e2] at h8
  generalize fL rs ws m rs.length = z1 at *
  generalize bnd rs ws rs.length = z2 at *
  generalize lss rs ws rs.length = z3 at *
  have hA : asgT (.tp [3, 4, 5]) (.tuple [.list ((List.range m).map fun _ => PyData.tuple [.int 0, .int 1]), .tuple [.int 0, .int 1], .bool false]) [.d (oS m rs), .d (.tuple (ws.map oF)), .no, .no, .no, .no, .no, .no] = some [.d (oS m rs), .d (.tuple (ws.map oF)), .no, .d (.list ((List.range m).map fun _ => PyData.tuple [.int 0, .int 1])), .d (.tuple [.int 0, .int 1]), .d (.bool false), .no, .no] := rfl
  clear h h2 hn hl hr hm e1 e2
  unfold wgB at h8
  unfold fn_weighed f_weighed

  walk_at "ev"
omit hn
theorem law_weigh_eq (S : StD) {ws : List Fq} (h2 : GP ws) {m : Nat} {rs : List Rw} (h : ∀ r ∈ rs, GR m r) (hl : ws.length = rs.length) (hr : rs.length ≤ 8) (hm : m ≤ 8) :
    fn_law_weigh n [.d (oS m rs), .d (.tuple (ws.map oF))] S = .ok (.d (.tuple [.list (fL rs ws m rs.length), oF (bnd rs ws rs.length), .bool (lss rs ws rs.length)])) S := by
  obtain ⟨env', ⟨t2, t6, t7, t8, t9, rfl⟩, h8⟩ := for_rng (T := .nm 2) (body := lwB n) (S := S) rs.length (fun k env => ∃ t2 t6 t7 t8 t9, env = [.d (oS m rs), .d (.tuple (ws.map oF)), t2, .d (.list (fL rs ws m k)), .d (oF (bnd rs ws k)), .d (.bool (lss rs ws k)), t6, t7, t8, t9])
    (fun k env hk ⟨t2, t6, t7, t8, t9, e⟩ => by
      subst e
      exact ⟨_, _, rfl, lw_step S h2 h hl hr hm hk t6 t7 t8 t9, _, _, _, _, _, rfl⟩) [.d (oS m rs), .d (.tuple (ws.map oF)), .no, .d (.list (fL rs ws m 0)), .d (oF (bnd rs ws 0)), .d (.bool (lss rs ws 0)), .no, .no, .no, .no] ⟨_, _, _, _, _, rfl⟩
  have h3 := rep_ok (.tuple [.int 0, .int 1]) m hm
  have h4 := rng1_ok rs.length (sz_le hr)
  have h7 : (rs.map oR).length = rs.length := List.length_map _
  rw [fL0] at h8
  have e1 : oF (bnd rs ws 0) = .tuple [.int 0, .int 1] := rfl
  have e2 : lss rs ws 0 = false := rfl
  rw [e1, e2] at h8
  generalize fL rs ws m rs.length = z1 at *
  generalize bnd rs ws rs.length = z2 at *
  generalize lss rs ws rs.length = z3 at *
  have hA : asgT (.tp [3, 4, 5]) (.tuple [.list ((List.range m).map fun _ => PyData.tuple [.int 0, .int 1]), .tuple [.int 0, .int 1], .bool false]) [.d (oS m rs), .d (.tuple (ws.map oF)), .no, .no, .no, .no, .no, .no, .no, .no] = some [.d (oS m rs), .d (.tuple (ws.map oF)), .no, .d (.list ((List.range m).map fun _ => PyData.tuple [.int 0, .int 1])), .d (.tuple [.int 0, .int 1]), .d (.bool false), .no, .no, .no, .no] := rfl
  clear h h2 hl hr hm e1 e2
  unfold lwB at h8
  unfold fn_law_weigh f_law_weigh

  walk_at "ev"
end

section
variable {n : Nat} (hn : 2 ^ 2000 ≤ n)
def barB (rs : List Rw) (ws : List Fq) (m : Nat) : Bool := (List.range m).all (fun j => (fnd rs ws rs.length j).1 == 0) && (decide ((bnd rs ws rs.length).1 < 0) || ((bnd rs ws rs.length).1 == 0 && lss rs ws rs.length))
theorem bars_lc {S : StD} {fe : FE} {i : Nat} {env0 : EnvD} (rs : List Rw) (ws : List Fq) (m k : Nat) (he : fe = fFz (f2 opEq (f2 opIx (fVar i) (fC (.int 0))) (fC (.int 0)))) (hi : i < env0.length) :
    lcGo (.nm i) fYes fe env0 (fL rs ws m k) S = .ok ((List.range m).map fun j => .bool ((fnd rs ws k j).1 == 0)) S := by
  subst he
  refine lc_mapF (fun j => oF (fnd rs ws k j)) (fun j => .bool ((fnd rs ws k j).1 == 0)) (List.range m) fun j hj => ⟨env0.set i (.d (oF (fnd rs ws k j))), by simp [asgT, setE, hi], ?_⟩
  have h3 : (env0.set i (.d (oF (fnd rs ws k j))))[i]? = some (.d (oF (fnd rs ws k j))) := by simp [hi]
  generalize env0.set i (.d (oF (fnd rs ws k j))) = e at *
  walk_at "ev"
theorem bars_lc2 {S : StD} {ft : FT} {fe : FE} {i : Nat} {env0 : EnvD} (rs : List Rw) (ws : List Fq) (m k : Nat) (ht : ft = fB (f2 opNe (f2 opIx (fVar i) (fC (.int 0))) (fC (.int 0)))) (he : fe = fFz (fVar i)) (hi : i < env0.length) :
    lcGo (.nm i) ft fe env0 (fL rs ws m k) S = .ok (((List.range m).filter fun j => !((fnd rs ws k j).1 == 0)).map fun j => oF (fnd rs ws k j)) S := by
  subst he ht
  refine lc_pureF (fun j => oF (fnd rs ws k j)) (fun j => !((fnd rs ws k j).1 == 0)) (fun j => oF (fnd rs ws k j)) (List.range m) fun j hj => ⟨env0.set i (.d (oF (fnd rs ws k j))), by simp [asgT, setE, hi], ?_, ?_⟩
  · have h3 : (env0.set i (.d (oF (fnd rs ws k j))))[i]? = some (.d (oF (fnd rs ws k j))) := by simp [hi]
    generalize env0.set i (.d (oF (fnd rs ws k j))) = e at *
    walk_at "ev"
  · intro _
    have h3 : (env0.set i (.d (oF (fnd rs ws k j))))[i]? = some (.d (oF (fnd rs ws k j))) := by simp [hi]
    generalize env0.set i (.d (oF (fnd rs ws k j))) = e at *
    walk_at "ev"
include hn
theorem is_barred_no (S : StD) {m : Nat} {rs : List Rw} {x : D} (h : fn_are_weights n [.d (oS m rs), .d x] S = .ok (.d (.bool false)) S) : fn_is_barred n [.d (oS m rs), .d x] S = .ok (.d (.bool false)) S := by
  clear hn
  unfold fn_is_barred f_is_barred
  walk_at "ev"
omit hn
theorem law_bars_no (S : StD) {m : Nat} {rs : List Rw} {x : D} (h : fn_law_weights n [.d (oS m rs), .d x] S = .ok (.d (.bool false)) S) : fn_law_bars n [.d (oS m rs), .d x] S = .ok (.d (.bool false)) S := by
  unfold fn_law_bars f_law_bars
  walk_at "ev"
include hn
theorem is_barred_yes (S : StD) {ws : List Fq} (h2 : GP ws) {m : Nat} {rs : List Rw} (h : ∀ r ∈ rs, GR m r) (hl : ws.length = rs.length) (hr : rs.length ≤ 8) (hm : m ≤ 8) (hw : wOk rs ws = true) :
    fn_is_barred n [.d (oS m rs), .d (.tuple (ws.map oF))] S = .ok (.d (.bool (barB rs ws m))) S := by
  have e1 := are_weights_yes hn S h2 h hl hr (m := m)
  rw [hw] at e1
  have e2 := weighed_eq hn S h2 h hl hr hm
  have e3 := bars_lc (S := S) (i := 5) (env0 := [.d (oS m rs), .d (.tuple (ws.map oF)), .d (.tuple (fL rs ws m rs.length)), .d (oF (bnd rs ws rs.length)), .d (.bool (lss rs ws rs.length)), .no]) rs ws m rs.length rfl (by simp)
  have e4 := allO ((List.range m).map fun j => (fnd rs ws rs.length j).1 == 0)
  rw [List.map_map, List.all_map] at e4
  have e5 : (PyData.bool ∘ fun j => (fnd rs ws rs.length j).1 == 0) = fun j => .bool ((fnd rs ws rs.length j).1 == 0) := rfl
  have e6 : (id ∘ fun j => (fnd rs ws rs.length j).1 == 0) = fun j => (fnd rs ws rs.length j).1 == 0 := rfl
  rw [e5, e6] at e4
  unfold barB
  generalize (List.range m).all (fun j => (fnd rs ws rs.length j).1 == 0) = z1 at *
  generalize (List.range m).map (fun j => PyData.bool ((fnd rs ws rs.length j).1 == 0)) = z2 at *
  generalize fL rs ws m rs.length = z3 at *
  generalize bnd rs ws rs.length = z4 at *
  generalize lss rs ws rs.length = z5 at *
  clear h h2 hn hl hr hm hw e5 e6
  unfold fn_is_barred f_is_barred
  cases z1
  · walk_at "ev"
  · by_cases y1 : z4.1 < 0
    · walk_at "ev"
    · cases y2 : z4.1 == 0 <;> walk_at "ev"
omit hn
theorem law_bars_yes (S : StD) {ws : List Fq} (h2 : GP ws) {m : Nat} {rs : List Rw} (h : ∀ r ∈ rs, GR m r) (hl : ws.length = rs.length) (hr : rs.length ≤ 8) (hm : m ≤ 8) (hw : wOk rs ws = true) :
    fn_law_bars n [.d (oS m rs), .d (.tuple (ws.map oF))] S = .ok (.d (.bool (barB rs ws m))) S := by
  have e1 := law_weights_yes (n := n) S h2 h hl hr (m := m)
  rw [hw] at e1
  have e2 := law_weigh_eq (n := n) S h2 h hl hr hm
  have e3 := bars_lc2 (S := S) (i := 5) (env0 := [.d (oS m rs), .d (.tuple (ws.map oF)), .d (.list (fL rs ws m rs.length)), .d (oF (bnd rs ws rs.length)), .d (.bool (lss rs ws rs.length)), .no]) rs ws m rs.length rfl rfl (by simp)
  have e4 := none_not (List.range m) (fun j => (fnd rs ws rs.length j).1 == 0) (fun j => oF (fnd rs ws rs.length j))
  unfold barB
  generalize (List.range m).all (fun j => (fnd rs ws rs.length j).1 == 0) = z1 at *
  generalize (((List.range m).filter fun j => !((fnd rs ws rs.length j).1 == 0)).map fun j => oF (fnd rs ws rs.length j)) = z2 at *
  generalize fL rs ws m rs.length = z3 at *
  generalize bnd rs ws rs.length = z4 at *
  generalize lss rs ws rs.length = z5 at *
  clear h h2 hl hr hm hw
  unfold fn_law_bars f_law_bars
  cases z1
  · walk_at "ev"
  · by_cases y1 : z4.1 < 0
    · walk_at "ev"
    · cases y2 : z4.1 == 0 <;> walk_at "ev"
/-! ### shows_row -/
def shB (k : Str) (e : Int) (b : Fq) (l : Bool) : Bool := !(k == "just") && (decide (b.1 * 1 < e * b.2) || (b == (e, 1) && (k == "most" || l)))
def topsL (rs : List Rw) (ws : List Fq) (m : Nat) : List Int := (List.range m).map fun j => (fnd rs ws rs.length j).1
theorem shows_no (S : StD) {m : Nat} {rs : List Rw} {x r : D} (h : fn_are_weights n [.d (oS m rs), .d x] S = .ok (.d (.bool false)) S) : fn_shows_row n [.d (oS m rs), .d r, .d x] S = .ok (.d (.bool false)) S := by
  unfold fn_shows_row f_shows_row
  walk_at "ev"
include hn
theorem shows_yes (S : StD) {ws : List Fq} (h2 : GP ws) {m : Nat} {rs : List Rw} (h : ∀ r ∈ rs, GR m r) (hl : ws.length = rs.length) (hr : rs.length ≤ 8) (hm : m ≤ 8) (hw : wOk rs ws = true)
    (h1 : ∀ j, j < m → (fnd rs ws rs.length j).2 = 1) {k : Str} (hk : k = "most" ∨ k = "less" ∨ k = "just") {e : Int} (he : Sm 400 e) :
    fn_shows_row n [.d (oS m rs), .d (oR (topsL rs ws m, k, e)), .d (.tuple (ws.map oF))] S = .ok (.d (.bool (shB k e (bnd rs ws rs.length) (lss rs ws rs.length)))) S := by
  have e1 := are_weights_yes hn S h2 h hl hr (m := m)
  rw [hw] at e1
  have e2 := weighed_eq hn S h2 h hl hr hm
  have hb := bnd_ok h h2 hr
  have y0 := ixR0 (topsL rs ws m, k, e)
  have y1 := ixR1 (topsL rs ws m, k, e)
  have y2 := ixR2 (topsL rs ws m, k, e)
  simp only at y0 y1 y2
  have e3 := lc_mapF (T := .nm 6) (fe := (fFz (fTup (fCons (fFz (fVar 6)) (fCons (fC (.int 1)) fNil))))) (env0 := [.d (oS m rs), .d (oR (topsL rs ws m, k, e)), .d (.tuple (ws.map oF)), .d (.tuple (fL rs ws m rs.length)), .d (oF (bnd rs ws rs.length)), .d (.bool (lss rs ws rs.length)), .no]) (S := S) PyData.int (fun i => oF (i, 1)) (topsL rs ws m) fun i hi =>
    ⟨[.d (oS m rs), .d (oR (topsL rs ws m, k, e)), .d (.tuple (ws.map oF)), .d (.tuple (fL rs ws m rs.length)), .d (oF (bnd rs ws rs.length)), .d (.bool (lss rs ws rs.length)), .d (.int i)], rfl, by
      clear h h2 hn
      walk_at "ev"
      rfl⟩
  have e4 : (topsL rs ws m).map (fun i => oF (i, 1)) = fL rs ws m rs.length := by
    unfold topsL fL
    rw [List.map_map]
    refine List.map_congr_left fun j hj => ?_
    have := h1 j (List.mem_range.mp hj)
    show oF ((fnd rs ws rs.length j).1, 1) = oF (fnd rs ws rs.length j)
    rw [← this]
  rw [e4] at e3
  have e5 : opNe (.d (.tuple (fL rs ws m rs.length))) (.d (.tuple (fL rs ws m rs.length))) = some (.d (.bool false)) := ne_same (k := 3) (Sh.tup fun x hx => by
    obtain ⟨j, _, rfl⟩ := List.mem_map.mp hx
    exact oF_sh 1 _)
  have x1 : opEq (.d (oF (bnd rs ws rs.length))) (.d (.tuple [.int e, .int 1])) = some (.d (.bool (bnd rs ws rs.length == (e, 1)))) := eqF _ (e, 1)
  have x2 : fn_is_less n [.d (oF (bnd rs ws rs.length)), .d (.tuple [.int e, .int 1])] S = _ := is_less_eq (n := n) S (p := bnd rs ws rs.length) (q := (e, 1)) (hb.1.mono (by decide)) ⟨he.mono (by decide), one_sm _⟩
  simp only at x2
  have s1 : (("most" : Str) == "just") = false := by decide +kernel
  have s2 : (("less" : Str) == "just") = false := by decide +kernel
  have s3 : (("less" : Str) == "most") = false := by decide +kernel
  unfold shB
  generalize fL rs ws m rs.length = z3 at *
  generalize bnd rs ws rs.length = z4 at *
  generalize lss rs ws rs.length = z5 at *
  clear h h2 hn hl hr hm hw e4 hb he h1
  unfold fn_shows_row f_shows_row
  rcases hk with rfl | rfl | rfl
  · by_cases q1 : z4.1 * 1 < e * z4.2
    · walk_at "ev"
    · cases q2 : z4 == (e, 1) <;> walk_at "ev"
  · by_cases q1 : z4.1 * 1 < e * z4.2
    · walk_at "ev"
    · cases q2 : z4 == (e, 1) <;> walk_at "ev"
  · walk_at "ev"
end

/-! ### draws -/
section
variable {n : Nat}
theorem sm_big {i : Int} (h : i.natAbs ≤ 1000000) : i.natAbs < big := big_of (k := 20) (by omega)
theorem pick_ok {S : StD} {xs : List D} (h : Good S) (h1 : xs ≠ []) (h2 : xs.length ≤ 1000) : ∃ x S', x ∈ xs ∧ fn_law_pick n [.st, .d (.list xs)] S = .ok (.d x) S' ∧ Good S' := by
  have h3 : 1 ≤ (xs.length : Int) := by have := List.length_pos_iff.mpr h1; omega
  obtain ⟨r, S', e, r0, r1, g⟩ := take_ok h h3 (by omega) n
  obtain ⟨k, rfl⟩ : ∃ k : Nat, r = (k : Int) := ⟨r.toNat, by omega⟩
  have hk : k < xs.length := by omega
  have e2 := atI_k hk
  refine ⟨xs[k], S', List.getElem_mem hk, ?_, g⟩
  clear h h1 h2 h3 r0 r1 g
  unfold fn_law_pick f_law_pick
  walk_at "ev"
theorem drawn_ok {S : StD} (h : Good S) : ∃ p S', fn_law_drawn n [.st] S = .ok (.d (oF p)) S' ∧ Sf 10 p ∧ Fr p ∧ Good S' := by
  obtain ⟨a, S1, e1, a0, a1, g1⟩ := take_ok h (most := 25) (by decide) (by decide) n
  obtain ⟨b, S2, e2, b0, b1, g2⟩ := take_ok g1 (most := 6) (by decide) (by decide) n
  have s1 : Sm 10 (a - 12) := by unfold Sm; rw [show 2 ^ 10 = 1024 by decide]; omega
  have s2 : Sm 10 (1 + b) := by unfold Sm; rw [show 2 ^ 10 = 1024 by decide]; omega
  have e3 := law_fr_eq (n := n) S2 (s1.mono (k := 1900) (by decide)) (s2.mono (k := 1900) (by decide)) (by omega)
  refine ⟨nrm (a - 12) (1 + b), S2, ?_, nrm_sf s1 s2, nrm_fr (by omega), g2⟩
  clear h g1 g2 s1 s2 a0 a1 b0 b1
  unfold fn_law_drawn f_law_drawn
  walk_at "ev"
/-- draws in a list -/
theorem draws_lc {fe : FE} {T : Tg} {env0 : EnvD} (ok : D → Prop) (xs : List D) {S : StD} (h : Good S) (hx : ∀ x S, x ∈ xs → Good S → ∃ env1 y S', asgT T x env0 = some env1 ∧ fe env1 S = .ok (.d y) S' ∧ ok y ∧ Good S') :
    ∃ ys S', lcGo T fYes fe env0 xs S = .ok ys S' ∧ (∀ y ∈ ys, ok y) ∧ ys.length = xs.length ∧ Good S' := by
  obtain ⟨ys, S', h1, ⟨h2, h3⟩, h4⟩ := lc_st (T := T) (fe := fe) (env0 := env0) (fun acc S => (∀ y ∈ acc, ok y) ∧ Good S) xs (fun x acc S hm ⟨ha, hg⟩ => by
    obtain ⟨e, y, S', a1, a2, a3, a4⟩ := hx x S hm hg
    refine ⟨e, y, S', a1, a2, fun z hz => ?_, a4⟩
    rcases List.mem_append.mp hz with hz | hz
    · exact ha z hz
    · rw [List.mem_singleton.mp hz]; exact a3) [] S ⟨fun y hy => absurd hy (by simp), h⟩
  exact ⟨ys, S', h1, by simpa using h2, h4, h3⟩
theorem ints_of {ok : Int → Prop} : ∀ {ys : List D}, (∀ y ∈ ys, ∃ i, y = .int i ∧ ok i) → ∃ ns : List Int, ys = ns.map .int ∧ ns.length = ys.length ∧ ∀ i ∈ ns, ok i
  | [], _ => ⟨[], rfl, rfl, fun i hi => absurd hi (by simp)⟩
  | y :: ys, h => by
    obtain ⟨i, e, hi⟩ := h y List.mem_cons_self
    obtain ⟨ns, e2, hl, h2⟩ := ints_of fun z hz => h z (List.mem_cons_of_mem _ hz)
    subst e
    refine ⟨i :: ns, by rw [e2]; rfl, by simp [hl], fun j hj => ?_⟩
    rcases List.mem_cons.mp hj with rfl | hj
    · exact hi
    · exact h2 j hj
theorem rng_mem {x : D} {m : Nat} (h : x ∈ rngD 0 1 m) : ∃ k : Nat, x = .int (k : Int) ∧ k < m := by
  rw [rngD_get] at h
  obtain ⟨k, hk, rfl⟩ := List.mem_map.mp h
  exact ⟨k, rfl, List.mem_range.mp hk⟩
theorem sum_small {c : Nat} : ∀ (l : List Int), (∀ i ∈ l, i.natAbs ≤ c) → l.sum.natAbs ≤ l.length * c
  | [], _ => by simp
  | x :: l, h => by
    have h1 := h x List.mem_cons_self
    have h2 := sum_small l fun i hi => h i (List.mem_cons_of_mem _ hi)
    rw [List.sum_cons, List.length_cons, Nat.succ_mul]
    have := Int.natAbs_add_le x l.sum
    omega
noncomputable abbrev syB (n : Nat) : FS := (fSeq (fSet 9 (fFz (fN opTuple (fCons (fLc [13] (.nm 13) (fRng rng1 (fCons (fVar 4) fNil)) fYes (fFz (f2 opSub (fCall 2 (fn_law_take n) (fCons (fFz (fVar 0)) (fCons (fFz (f2 opAdd (f2 opMulI (fC (.int 2)) (fVar 7)) (fC (.int 1)))) fNil))) (fVar 7)))) fNil))))
    (fSeq (fSet 10 (fFz (fCall 2 (fn_law_pick n) (fCons (fFz (fVar 0)) (fCons (fFz (fIf (fTru (fVar 3)) (fLst (fCons (fC (.str "most")) (fCons (fC (.str "most")) (fCons (fC (.str "most")) (fCons (fC (.str "just")) fNil))))) (fLst (fCons (fC (.str "most")) (fCons (fC (.str "most")) (fCons (fC (.str "less")) (fCons (fC (.str "just")) fNil))))))) fNil)))))
    (fSeq (fSet 11 (fFz (fN opSum (fCons (fLc [13] (.nm 13) (fRng rng1 (fCons (fVar 4) fNil)) fYes (fFz (f2 opMulI (f2 opIx (fVar 9) (fVar 13)) (f2 opIx (fVar 8) (fVar 13))))) fNil))))
    (fSeq (fSet 12 (fFz (fIf (fAnd (fB (f2 opEq (fVar 10) (fC (.str "just")))) (fB (f2 opGt (fCall 2 (fn_law_take n) (fCons (fFz (fVar 0)) (fCons (fC (.int 4)) fNil))) (fC (.int 0))))) (fC (.int 0)) (fCall 2 (fn_law_pick n) (fCons (fFz (fVar 0)) (fCons (fFz (fLst (fCons (fC (.int 0)) (fCons (fC (.int 1)) (fCons (fC (.int 2)) (fCons (fC (.int 5)) (fCons (fFz (f1 opNeg (fC (.int 1)))) fNil))))))) fNil))))))
    (fM1 5 opApp (fFz (fTup (fCons (fFz (fVar 9)) (fCons (fFz (fVar 10)) (fCons (fFz (f2 opAdd (fVar 11) (fVar 12))) fNil)))))))))) 
/-- the gap of a row -/
theorem gap_ok {S : StD} (h : Good S) (k : Str) (hk : k = "most" ∨ k = "less" ∨ k = "just") (a b c d e f g h' i j m' l : SV) : ∃ v S', v.natAbs ≤ 5 ∧ Good S' ∧ (fIf (fAnd (fB (f2 opEq (fVar 10) (fC (.str "just")))) (fB (f2 opGt (fCall 2 (fn_law_take n) (fCons (fFz (fVar 0)) (fCons (fC (.int 4)) fNil))) (fC (.int 0))))) (fC (.int 0)) (fCall 2 (fn_law_pick n) (fCons (fFz (fVar 0)) (fCons (fFz (fLst (fCons (fC (.int 0)) (fCons (fC (.int 1)) (fCons (fC (.int 2)) (fCons (fC (.int 5)) (fCons (fFz (f1 opNeg (fC (.int 1)))) fNil))))))) fNil))))
    [.st, a, b, c, d, e, f, g, h', i, .d (.str k), j, m', l] S = .ok (.d (.int v)) S' := by
  have fin : ∀ S, Good S → ∃ v S', v.natAbs ≤ 5 ∧ Good S' ∧ fn_law_pick n [.st, .d (.list [.int 0, .int 1, .int 2, .int 5, .int (-1)])] S = .ok (.d (.int v)) S' := by
    intro S h
    obtain ⟨x, S', hx, e1, g1⟩ := pick_ok (n := n) (xs := [.int 0, .int 1, .int 2, .int 5, .int (-1)]) h (by simp) (by simp)
    simp only [List.mem_cons, List.not_mem_nil, or_false] at hx
    rcases hx with rfl | rfl | rfl | rfl | rfl <;> exact ⟨_, S', by decide, g1, e1⟩
  obtain ⟨t, S1, e1, t0, t1, g1⟩ := take_ok h (most := 4) (by decide) (by decide) n
  rcases hk with rfl | rfl | rfl
  · obtain ⟨v, S', hv, g2, e2⟩ := fin S h
    refine ⟨v, S', hv, g2, ?_⟩
    clear fin
    walk_at "ev"
  · obtain ⟨v, S', hv, g2, e2⟩ := fin S h
    refine ⟨v, S', hv, g2, ?_⟩
    clear fin
    walk_at "ev"
  · by_cases ht : 0 < t
    · refine ⟨0, S1, by decide, g1, ?_⟩
      clear fin
      walk_at "ev"
    · obtain ⟨v, S', hv, g2, e2⟩ := fin S1 g1
      refine ⟨v, S', hv, g2, ?_⟩
      clear fin
      walk_at "ev"
theorem sy_step {S : StD} (hS : Good S) {m top : Nat} (hm : m ≤ 8) (ht : 1 ≤ top ∧ top ≤ 5) {sd : List Int} (hs : sd.length = 8 ∧ ∀ i ∈ sd, i.natAbs ≤ 4) (found : List Rw) (hf : found.length ≤ 1000) (q1 q2 t6 t9 t10 t11 t12 : SV) :
    ∃ r S' u9 u10 u11 u12, Good S' ∧ GR m r ∧ syB n [.st, q1, q2, .d (.bool false), .d (.int m), .own (found.map oR), t6, .d (.int top), .d (.list (sd.map .int)), t9, t10, t11, t12, .no] S =
      .nx [.st, q1, q2, .d (.bool false), .d (.int m), .own ((found ++ [r]).map oR), t6, .d (.int top), .d (.list (sd.map .int)), u9, u10, u11, u12, .no] S' := by
  have h4 := rng1_ok m (sz_le hm)
  have z1 : opMulI (.d (.int 2)) (.d (.int (top : Int))) = some (.d (.int (2 * (top : Int)))) := mul_ok (sm_big (by decide)) (sm_big (by omega))
  obtain ⟨ys, S1, a1, a2, a3, g1⟩ := draws_lc (T := .nm 13) (fe := (fFz (f2 opSub (fCall 2 (fn_law_take n) (fCons (fFz (fVar 0)) (fCons (fFz (f2 opAdd (f2 opMulI (fC (.int 2)) (fVar 7)) (fC (.int 1)))) fNil))) (fVar 7))))
    (env0 := [.st, q1, q2, .d (.bool false), .d (.int m), .own (found.map oR), t6, .d (.int top), .d (.list (sd.map .int)), t9, t10, t11, t12, .no]) (fun y => ∃ i : Int, y = .int i ∧ i.natAbs ≤ 5) (rngD 0 1 m) hS fun x S hx g => by
      obtain ⟨r, S', e, r0, r1, g'⟩ := take_ok g (most := 2 * (top : Int) + 1) (by omega) (by omega) n
      refine ⟨[.st, q1, q2, .d (.bool false), .d (.int m), .own (found.map oR), t6, .d (.int top), .d (.list (sd.map .int)), t9, t10, t11, t12, .d x], .int (r - top), S', rfl, ?_, ⟨_, rfl, by omega⟩, g'⟩
      clear g g' r0 r1 hx hs hm ht hf h4 hS
      walk_at "ev"
  obtain ⟨ns, rfl, hl, hb⟩ := ints_of a2
  have hl2 : ns.length = m := by rw [hl, a3]; simp [rngD]
  obtain ⟨k, S2, hk, e2, g2⟩ := pick_ok (n := n) (xs := [.str "most", .str "most", .str "less", .str "just"]) g1 (by simp) (by simp)
  obtain ⟨kk, rfl, hkk⟩ : ∃ kk : Str, k = .str kk ∧ (kk = "most" ∨ kk = "less" ∨ kk = "just") := by
    simp only [List.mem_cons, List.not_mem_nil, or_false] at hk
    rcases hk with rfl | rfl | rfl | rfl <;> exact ⟨_, rfl, by simp⟩
  have h5 := lc_rngM (T := .nm 13) (fe := (fFz (f2 opMulI (f2 opIx (fVar 9) (fVar 13)) (f2 opIx (fVar 8) (fVar 13))))) (env0 := [.st, q1, q2, .d (.bool false), .d (.int m), .own (found.map oR), t6, .d (.int top), .d (.list (sd.map .int)), .d (.tuple (ns.map .int)), .d (.str kk), t11, t12, .no]) (S := S2) m (fun k => .int (ns.getD k 0 * sd.getD k 0)) fun k hk => by
    have b1 := atI_map (f := PyData.int) (xs := ns) 0 (k := k) (by omega)
    have b2 := atI_map (f := PyData.int) (xs := sd) 0 (k := k) (by omega)
    have c1 : (ns.getD k 0).natAbs ≤ 5 := by
      have e : ns.getD k 0 = ns[k] := by rw [List.getD_eq_getElem?_getD, List.getElem?_eq_getElem (by omega)]; rfl
      rw [e]; exact hb _ (List.getElem_mem _)
    have c2 : (sd.getD k 0).natAbs ≤ 4 := by
      have e : sd.getD k 0 = sd[k] := by rw [List.getD_eq_getElem?_getD, List.getElem?_eq_getElem (by omega)]; rfl
      rw [e]; exact hs.2 _ (List.getElem_mem _)
    have c3 := mul_ok (i := ns.getD k 0) (j := sd.getD k 0) (sm_big (by omega)) (sm_big (by omega))
    refine ⟨[.st, q1, q2, .d (.bool false), .d (.int m), .own (found.map oR), t6, .d (.int top), .d (.list (sd.map .int)), .d (.tuple (ns.map .int)), .d (.str kk), t11, t12, .d (.int k)], rfl, ?_⟩
    generalize ns.getD k 0 = u1 at *
    generalize sd.getD k 0 = u2 at *
    clear hs hm ht hf h4 hS hl hb hl2 a1 a2 a3 hk hkk c1 c2
    walk_at "ev"
  have h6 : (List.range m).map (fun k => PyData.int (ns.getD k 0 * sd.getD k 0)) = ((List.range m).map fun k => ns.getD k 0 * sd.getD k 0).map PyData.int := by rw [List.map_map]; rfl
  rw [h6] at h5
  have h7 := sumO ((List.range m).map fun k => ns.getD k 0 * sd.getD k 0)
  have h8 : ((List.range m).map fun k => ns.getD k 0 * sd.getD k 0).sum.natAbs ≤ 160 := by
    have := sum_small (c := 20) ((List.range m).map fun k => ns.getD k 0 * sd.getD k 0) fun i hi => by
      obtain ⟨k, hk, rfl⟩ := List.mem_map.mp hi
      have hk := List.mem_range.mp hk
      have c1 : (ns.getD k 0).natAbs ≤ 5 := by
        have e : ns.getD k 0 = ns[k] := by rw [List.getD_eq_getElem?_getD, List.getElem?_eq_getElem (by omega)]; rfl
        rw [e]; exact hb _ (List.getElem_mem _)
      have c2 : (sd.getD k 0).natAbs ≤ 4 := by
        have e : sd.getD k 0 = sd[k] := by rw [List.getD_eq_getElem?_getD, List.getElem?_eq_getElem (by omega)]; rfl
        rw [e]; exact hs.2 _ (List.getElem_mem _)
      rw [Int.natAbs_mul]
      exact Nat.mul_le_mul c1 c2
    simp only [List.length_map, List.length_range] at this
    omega
  generalize ((List.range m).map fun k => ns.getD k 0 * sd.getD k 0).sum = near at *
  generalize ((List.range m).map fun k => ns.getD k 0 * sd.getD k 0) = prods at *
  obtain ⟨v, S3, hv, g3, e3⟩ := gap_ok (n := n) g2 kk hkk q1 q2 (.d (.bool false)) (.d (.int m)) (.own (found.map oR)) t6 (.d (.int top)) (.d (.list (sd.map .int))) (.d (.tuple (ns.map .int))) (.d (.int near)) t12 .no
  have hP : ∀ i : Int, i.natAbs ≤ 1000 → Sm 20 i := fun i hi => by unfold Sm; rw [show 2 ^ 20 = 1048576 by decide]; omega
  refine ⟨(ns, kk, near + v), S3, .d (.tuple (ns.map .int)), .d (.str kk), .d (.int near), .d (.int v), g3, ⟨hl2, fun i hi => hP i (by have := hb i hi; omega), hP _ (by show (near + v).natAbs ≤ 1000; omega), hkk⟩, ?_⟩
  have h9 := app_ok (xs := found.map oR) (y := oR (ns, kk, near + v)) (by simpa using hf)
  have h10 : (found.map oR) ++ [oR (ns, kk, near + v)] = (found ++ [(ns, kk, near + v)]).map oR := by simp
  rw [h10] at h9
  simp only [ixQ] at h9
  generalize (found ++ [(ns, kk, near + v)]).map oR = fnew at *
  clear hs hm ht hf hS hl hb hl2 a2 a3 hkk hP h6 h8 h10 hv hk
  unfold syB
  refine (seq_nx (env' := [.st, q1, q2, .d (.bool false), .d (.int m), .own (found.map oR), t6, .d (.int top), .d (.list (sd.map .int)), .d (.tuple (ns.map .int)), t10, t11, t12, .no]) (S' := S1) ?_).trans ?_
  · clear e2 e3 h5 h7 h9
    walk_at "ev"
  refine (seq_nx (env' := [.st, q1, q2, .d (.bool false), .d (.int m), .own (found.map oR), t6, .d (.int top), .d (.list (sd.map .int)), .d (.tuple (ns.map .int)), .d (.str kk), t11, t12, .no]) (S' := S2) ?_).trans ?_
  · clear e3 h5 h7 h9 a1
    walk_at "ev"
  refine (seq_nx (env' := [.st, q1, q2, .d (.bool false), .d (.int m), .own (found.map oR), t6, .d (.int top), .d (.list (sd.map .int)), .d (.tuple (ns.map .int)), .d (.str kk), .d (.int near), t12, .no]) (S' := S2) ?_).trans ?_
  · clear e3 e2 h9 a1
    walk_at "ev"
  refine (seq_nx (env' := [.st, q1, q2, .d (.bool false), .d (.int m), .own (found.map oR), t6, .d (.int top), .d (.list (sd.map .int)), .d (.tuple (ns.map .int)), .d (.str kk), .d (.int near), .d (.int v), .no]) (S' := S3) ?_).trans ?_
  · simp only [fSet, fFz, e3]
    clear e3 e2 h9 a1 h5 h7
    walk_at "ev"
  · clear e3 e2 a1 h5 h7
    walk_at "ev"
end

/-! ### a drawn system -/
section
variable {n : Nat}
theorem law_system_eq {S : StD} (hS : Good S) : ∃ m rs S', fn_law_system n [.st, .d (.int 4), .d (.int 6), .d (.bool false)] S = .ok (.d (oS m rs)) S' ∧ Good S' ∧ 1 ≤ m ∧ m ≤ 4 ∧ rs.length ≤ 6 ∧ ∀ r ∈ rs, GR m r := by
  obtain ⟨a, S1, e1, a0, a1, g1⟩ := take_ok hS (most := 4) (by decide) (by decide) n
  obtain ⟨m, rfl⟩ : ∃ m : Nat, a = (m : Int) := ⟨a.toNat, by omega⟩
  obtain ⟨t, S2, ht, e2, g2⟩ := pick_ok (n := n) (xs := [.int 1, .int 2, .int 5]) g1 (by simp) (by simp)
  obtain ⟨top, rfl, t0, t1⟩ : ∃ top : Nat, t = .int (top : Int) ∧ 1 ≤ top ∧ top ≤ 5 := by
    simp only [List.mem_cons, List.not_mem_nil, or_false] at ht
    rcases ht with rfl | rfl | rfl
    · exact ⟨1, rfl, by decide, by decide⟩
    · exact ⟨2, rfl, by decide, by decide⟩
    · exact ⟨5, rfl, by decide, by decide⟩
  have h8 := rng1_ok 8 (sz_le (by decide))
  have h88 : ((8 : Nat) : Int) = 8 := rfl
  rw [h88] at h8
  have hm : (1 : Int) + (m : Int) = ((1 + m : Nat) : Int) := by omega
  obtain ⟨ys, S3, b1, b2, b3, g3⟩ := draws_lc (T := .nm 13) (fe := (fFz (f2 opSub (fCall 2 (fn_law_take n) (fCons (fFz (fVar 0)) (fCons (fC (.int 9)) fNil))) (fC (.int 4)))))
    (env0 := [.st, .d (.int 4), .d (.int 6), .d (.bool false), .d (.int ((1 + m : Nat) : Int)), .no, .no, .no, .no, .no, .no, .no, .no, .no]) (fun y => ∃ i : Int, y = .int i ∧ i.natAbs ≤ 4) (rngD 0 1 8) g2 fun x S hx g => by
      obtain ⟨r, S', e, r0, r1, g'⟩ := take_ok g (most := 9) (by decide) (by decide) n
      refine ⟨[.st, .d (.int 4), .d (.int 6), .d (.bool false), .d (.int ((1 + m : Nat) : Int)), .no, .no, .no, .no, .no, .no, .no, .no, .d x], .int (r - 4), S', rfl, ?_, ⟨_, rfl, by omega⟩, g'⟩
      clear g g' r0 r1 hx h8
      walk_at "ev"
  obtain ⟨sd, rfl, hl, hb⟩ := ints_of b2
  have hl2 : sd.length = 8 := by rw [hl, b3]; simp [rngD]
  obtain ⟨c, S4, e4, c0, c1, g4⟩ := take_ok g3 (most := 7) (by decide) (by decide) n
  obtain ⟨L, rfl⟩ : ∃ L : Nat, c = (L : Int) := ⟨c.toNat, by omega⟩
  obtain ⟨env', S5, ⟨found, t6, t9, t10, t11, t12, rfl, q1, q2, g5⟩, q3⟩ := for_rngS (T := .nm 6) (body := syB n) L (fun k env S => ∃ (found : List Rw) (t6 t9 t10 t11 t12 : SV), env = [.st, .d (.int 4), .d (.int 6), .d (.bool false), .d (.int ((1 + m : Nat) : Int)), .own (found.map oR), t6, .d (.int top), .d (.list (sd.map .int)), t9, t10, t11, t12, .no] ∧ found.length = k ∧ (∀ r ∈ found, GR (1 + m) r) ∧ Good S)
    (fun k env S hk ⟨found, t6, t9, t10, t11, t12, e, f1, f2, f3⟩ => by
      subst e
      obtain ⟨r, S', u9, u10, u11, u12, s1, s2, s3⟩ := sy_step (n := n) f3 (m := 1 + m) (top := top) (by omega) ⟨t0, t1⟩ ⟨hl2, hb⟩ found (by omega) (.d (.int 4)) (.d (.int 6)) (.d (.int k)) t9 t10 t11 t12
      exact ⟨_, _, S', rfl, s3, found ++ [r], _, _, _, _, _, rfl, by simp [f1], fun q hq => by
        rcases List.mem_append.mp hq with hq | hq
        · exact f2 q hq
        · rw [List.mem_singleton.mp hq]; exact s2, s1⟩)
    [.st, .d (.int 4), .d (.int 6), .d (.bool false), .d (.int ((1 + m : Nat) : Int)), .own [], .no, .d (.int top), .d (.list (sd.map .int)), .no, .no, .no, .no, .no] S4 ⟨[], _, _, _, _, _, rfl, rfl, fun r hr => absurd hr (by simp), g4⟩
  refine ⟨1 + m, found, S5, ?_, g5, by omega, by omega, by omega, q2⟩
  have h4 := rng1_ok L (sz_le (by omega))
  unfold syB at q3
  have hO : oS (1 + m) found = .tuple [.str "rows", .int ((1 + m : Nat) : Int), .tuple (found.map oR)] := rfl
  rw [hO]
  clear hS g1 g2 g3 g4 g5 ht hb hl hl2 b2 b3 q1 q2 hO a0 a1 c0 c1 t0 t1 h88
  unfold fn_law_system f_law_system
  walk_at "ev"
end

/-! ### scaled -/
def lcS (c : Int) (p : Fq) : Int := c * p.2 / (Int.gcd c p.2 : Int)
def lcmF (ps : List Fq) : Int := ps.foldl lcS 1
def fnums (ps : List Fq) : List Int := ps.map fun p => p.1 * (lcmF ps / p.2)
def gS (s : Nat) (x : Int) : Nat := Int.gcd s x
def gF (xs : List Int) : Nat := xs.foldl gS 0
def toldF (ps : List Fq) : List Int := if gF (fnums ps) = 0 then fnums ps else (fnums ps).map fun x => x / (gF (fnums ps) : Int)
theorem lcS_ok {c : Int} {p : Fq} {k : Nat} (hc : 0 < c) (hk : Sm k c) (hp : 0 < p.2) (hs : Sm 10 p.2) : 0 < lcS c p ∧ Sm (k + 10) (lcS c p) ∧ c ∣ lcS c p ∧ p.2 ∣ lcS c p := by
  unfold lcS
  have hg : 0 < Int.gcd c p.2 := gcd_pos' (by omega)
  obtain ⟨a, ha⟩ := Int.gcd_dvd_left (a := c) (b := p.2)
  obtain ⟨b, hb⟩ := Int.gcd_dvd_right (a := c) (b := p.2)
  have e1 : c * p.2 / (Int.gcd c p.2 : Int) = c * b := by
    have : c * p.2 = (Int.gcd c p.2 : Int) * (c * b) := by
      conv => lhs; rw [hb]
      grind
    rw [this, Int.mul_ediv_cancel_left _ (by omega)]
  have hb0 : 0 < b := by
    rw [hb] at hp
    exact Int.pos_of_mul_pos_right hp (by omega)
  have e2 : c * b = p.2 * a := by
    have h1 : (Int.gcd c p.2 : Int) * (c * b) = (Int.gcd c p.2 : Int) * (p.2 * a) := by
      have h2 : (Int.gcd c p.2 : Int) * b = p.2 := hb.symm
      have h3 : (Int.gcd c p.2 : Int) * a = c := ha.symm
      generalize (Int.gcd c p.2 : Int) = g at *
      grind
    exact Int.eq_of_mul_eq_mul_left (by omega) h1
  rw [e1]
  refine ⟨Int.mul_pos hc hb0, Sm.mul hk ?_, ⟨b, rfl⟩, ⟨a, e2⟩⟩
  have : b ≤ p.2 := Int.le_of_dvd hp ⟨_, by rw [Int.mul_comm]; exact hb⟩
  unfold Sm at *
  omega
theorem lcF_ok : ∀ (ps : List Fq) (c : Int) (k : Nat), 0 < c → Sm k c → (∀ p ∈ ps, Sf 10 p ∧ Fr p) → 0 < ps.foldl lcS c ∧ Sm (k + ps.length * 10) (ps.foldl lcS c) ∧ c ∣ ps.foldl lcS c ∧ ∀ p ∈ ps, p.2 ∣ ps.foldl lcS c := by
  intro ps
  induction ps with
  | nil => intro c k h1 h2 _; exact ⟨h1, h2.mono (by omega), Int.dvd_refl c, fun p hp => absurd hp (by simp)⟩
  | cons p ps ih =>
    intro c k h1 h2 h3
    have hp := h3 p List.mem_cons_self
    obtain ⟨a1, a2, a3, a4⟩ := lcS_ok h1 h2 hp.2.1 hp.1.2
    obtain ⟨b1, b2, b3, b4⟩ := ih (lcS c p) (k + 10) a1 a2 fun q hq => h3 q (List.mem_cons_of_mem _ hq)
    refine ⟨b1, b2.mono (by simp only [List.length_cons]; omega), Int.dvd_trans a3 b3, fun q hq => ?_⟩
    rcases List.mem_cons.mp hq with rfl | hq
    · exact Int.dvd_trans a4 b3
    · exact b4 q hq
theorem gS_sm {k s : Nat} {x : Int} (h : Sm k s) (hx : Sm k x) : Sm k (gS s x) := by
  unfold gS
  by_cases h0 : s = 0
  · subst h0
    unfold Sm at *
    simpa using hx
  · have := Nat.le_of_dvd (by omega) (Int.gcd_dvd_natAbs_left (s : Int) x)
    unfold Sm at *
    simp only [Int.natAbs_natCast] at *
    omega
theorem gF_go : ∀ (xs : List Int) (s : Nat), (xs.foldl gS s ∣ s) ∧ (∀ x ∈ xs, ((xs.foldl gS s : Nat) : Int) ∣ x) ∧ ∀ d : Nat, d ∣ s → (∀ x ∈ xs, (d : Int) ∣ x) → d ∣ xs.foldl gS s := by
  intro xs
  induction xs with
  | nil => intro s; exact ⟨Nat.dvd_refl s, fun x hx => absurd hx (by simp), fun d h _ => h⟩
  | cons x xs ih =>
    intro s
    obtain ⟨a1, a2, a3⟩ := ih (gS s x)
    have g1 : gS s x ∣ s := by have := Int.gcd_dvd_natAbs_left (s : Int) x; simpa [gS] using this
    have g2 : ((gS s x : Nat) : Int) ∣ x := Int.gcd_dvd_right ..
    refine ⟨Nat.dvd_trans a1 g1, fun y hy => ?_, fun d h1 h2 => a3 d ?_ fun y hy => h2 y (List.mem_cons_of_mem _ hy)⟩
    · rcases List.mem_cons.mp hy with rfl | hy
      · exact Int.dvd_trans (Int.natCast_dvd_natCast.mpr a1) g2
      · exact a2 y hy
    · have h3 : (d : Int) ∣ (s : Int) := Int.natCast_dvd_natCast.mpr h1
      have : (d : Int) ∣ (Int.gcd (s : Int) x : Int) := Int.dvd_coe_gcd h3 (h2 x List.mem_cons_self)
      exact Int.natCast_dvd_natCast.mp this
section
variable {n : Nat} (hn : 2 ^ 2000 ≤ n)
include hn
theorem sc_loop1 (S : StD) (r t3 t4 t5 : SV) : ∀ (ps : List Fq) (c : Int) (k : Nat) (t : SV), 0 < c → Sm k c → (∀ p ∈ ps, Sf 10 p ∧ Fr p) → k + ps.length * 10 ≤ 800 →
    ∃ t', forGo (.nm 2) (fSet 1 (fFz (f2 opFdiv (f2 opMulI (fVar 1) (f2 opIx (fVar 2) (fC (.int 1)))) (fCall 2 (fn_divisor n) (fCons (fFz (fVar 1)) (fCons (fFz (f2 opIx (fVar 2) (fC (.int 1)))) fNil)))))) (ps.map oF) [r, .d (.int c), t, t3, t4, t5] S = .nx [r, .d (.int (ps.foldl lcS c)), t', t3, t4, t5] S := by
  intro ps
  induction ps with
  | nil => intro c k t _ _ _ _; exact ⟨t, rfl⟩
  | cons p ps ih =>
    intro c k t h1 h2 h3 h4
    have hp := h3 p List.mem_cons_self
    simp only [List.length_cons] at h4
    obtain ⟨a1, a2, a3, a4⟩ := lcS_ok h1 h2 hp.2.1 hp.1.2
    obtain ⟨t', h6⟩ := ih (lcS c p) (k + 10) (.d (oF p)) a1 a2 (fun q hq => h3 q (List.mem_cons_of_mem _ hq)) (by omega)
    have h7 := div_eq n S c p.2 (fuel hn (hp.1.2.mono (by decide)))
    have hg : 0 < Int.gcd c p.2 := gcd_pos' (fr_ne hp.2)
    have hg2 : Sm 10 (Int.gcd c p.2 : Int) := by
      have := Nat.le_of_dvd (by have := fr_ne hp.2; omega) (Int.gcd_dvd_natAbs_right c p.2)
      have := hp.1.2
      unfold Sm at *
      simp only [Int.natAbs_natCast]
      omega
    have h8 := mul_ok (i := c) (j := p.2) (big_of (h2.mono (k := 900) (by omega))) (big_of hp.1.2)
    have h9 : opFdiv (.d (.int (c * p.2))) (.d (.int (Int.gcd c p.2 : Int))) = some (.d (.int (lcS c p))) := fdiv_ok (by omega) (big9_of hg2)
    refine ⟨t', ?_⟩
    rw [List.map_cons, forGo, List.foldl_cons]
    generalize lcS c p = c2 at *
    clear ih h1 h2 h3 h4 a1 a2 a3 a4 hg hg2 hp
    walk_at "ev"
theorem sc_loop2 (S : StD) (r t1 t2 t3 : SV) : ∀ (xs : List Int) (s : Nat) (t : SV), Sm 800 s → (∀ x ∈ xs, Sm 800 x) →
    ∃ t', forGo (.nm 5) (fSet 4 (fFz (fCall 2 (fn_divisor n) (fCons (fFz (fVar 4)) (fCons (fFz (fVar 5)) fNil))))) (xs.map .int) [r, t1, t2, t3, .d (.int s), t] S = .nx [r, t1, t2, t3, .d (.int (xs.foldl gS s : Nat)), t'] S := by
  intro xs
  induction xs with
  | nil => intro s t _ _; exact ⟨t, rfl⟩
  | cons x xs ih =>
    intro s t h1 h2
    have hx := h2 x List.mem_cons_self
    obtain ⟨t', h6⟩ := ih (gS s x) (.d (.int x)) (gS_sm h1 hx) fun y hy => h2 y (List.mem_cons_of_mem _ hy)
    have h7 : fn_divisor n [.d (.int s), .d (.int x)] S = .ok (.d (.int (gS s x : Nat))) S := div_eq n S s x (fuel hn (hx.mono (by decide)))
    refine ⟨t', ?_⟩
    rw [List.map_cons, forGo, List.foldl_cons]
    generalize gS s x = s2 at *
    clear ih h1 h2 hx
    walk_at "ev"
theorem fnums_sm {ps : List Fq} (h : GP ps) (hl : ps.length ≤ 8) : ∀ x ∈ fnums ps, Sm 100 x := fun x hx => by
  obtain ⟨b1, b2, b3, b4⟩ := lcF_ok ps 1 1 (by decide) (one_sm 0) h
  obtain ⟨p, hp, rfl⟩ := List.mem_map.mp hx
  refine (Sm.mul (h p hp).1.1 (k := 90) ?_).mono (by decide)
  obtain ⟨q, hq⟩ := b4 p hp
  have h0 := (h p hp).2.1
  show Sm 90 (lcmF ps / p.2)
  unfold lcmF
  rw [hq, Int.mul_ediv_cancel_left _ (by omega)]
  have hq0 : 0 < q := by
    rw [hq] at b1
    exact Int.pos_of_mul_pos_right b1 h0
  have : q ≤ ps.foldl lcS 1 := Int.le_of_dvd b1 ⟨_, by rw [Int.mul_comm]; exact hq⟩
  have b5 : Sm 90 (ps.foldl lcS 1) := b2.mono (by omega)
  unfold Sm at *
  omega
theorem scaled_eq (S : StD) {ps : List Fq} (h : GP ps) (hl : ps.length ≤ 8) : fn_scaled n [.d (.list (ps.map oF))] S = .ok (.d (.tuple ((toldF ps).map .int))) S := by
  obtain ⟨t2, e1⟩ := sc_loop1 hn S (.d (.list (ps.map oF))) .no .no .no ps 1 1 .no (by decide) (one_sm 0) h (by omega)
  obtain ⟨b1, b2, b3, b4⟩ := lcF_ok ps 1 1 (by decide) (one_sm 0) h
  change forGo _ _ _ _ _ = .nx [_, .d (.int (lcmF ps)), t2, .no, .no, .no] S at e1
  have hf := fnums_sm hn h hl
  have hL : Sm 90 (lcmF ps) := b2.mono (by omega)
  have e2 := lc_mapF (T := .nm 2) (fe := (fFz (f2 opMulI (f2 opIx (fVar 2) (fC (.int 0))) (f2 opFdiv (fVar 1) (f2 opIx (fVar 2) (fC (.int 1))))))) (env0 := [.d (.list (ps.map oF)), .d (.int (lcmF ps)), .no, .no, .no, .no]) (S := S) oF (fun p => .int (p.1 * (lcmF ps / p.2))) ps fun p hp =>
    ⟨[.d (.list (ps.map oF)), .d (.int (lcmF ps)), .d (oF p), .no, .no, .no], rfl, by
      have h0 := h p hp
      have h1 := fdiv_ok (i := lcmF ps) h0.2.1 (big9_of h0.1.2)
      have h2 : Sm 90 (lcmF ps / p.2) := by
        have : (lcmF ps / p.2).natAbs ≤ (lcmF ps).natAbs := Int.natAbs_ediv_le_natAbs _ _
        unfold Sm at *
        omega
      have h3 := mul_ok (big_of h0.1.1) (big_of h2)
      generalize lcmF ps / p.2 = z at *
      clear h hn hl e1 b1 b2 b3 b4 hf hL h0 h2
      walk_at "ev"⟩
  have e3 : (ps.map fun p => PyData.int (p.1 * (lcmF ps / p.2))) = (fnums ps).map .int := by unfold fnums; rw [List.map_map]; rfl
  rw [e3] at e2
  obtain ⟨t5, e4⟩ := sc_loop2 hn S (.d (.list (ps.map oF))) (.d (.int (lcmF ps))) t2 (.d (.list ((fnums ps).map .int))) (fnums ps) 0 .no (zero_sm 800) fun x hx => (hf x hx).mono (by decide)
  change forGo _ _ _ _ _ = .nx [_, _, _, _, .d (.int (gF (fnums ps) : Nat)), t5] S at e4
  have z0 : ((0 : Nat) : Int) = 0 := rfl
  rw [z0] at e4
  unfold toldF
  by_cases hg : gF (fnums ps) = 0
  · rw [hg] at e4
    simp only [hg, if_true]
    generalize (fnums ps).map PyData.int = fz at *
    generalize lcmF ps = L at *
    clear h hn hl b1 b2 b3 b4 hf hL e3 hg
    unfold fn_scaled f_scaled
    walk_at "ev"
  · simp only [hg, if_false]
    have hg2 : Sm 800 (gF (fnums ps) : Nat) := by
      have go : ∀ (xs : List Int) (s : Nat), Sm 800 s → (∀ x ∈ xs, Sm 800 x) → Sm 800 (xs.foldl gS s : Nat) := by
        intro xs
        induction xs with
        | nil => intro s h _; exact h
        | cons x xs ih => intro s h h2; exact ih _ (gS_sm h (h2 x List.mem_cons_self)) fun y hy => h2 y (List.mem_cons_of_mem _ hy)
      exact go (fnums ps) 0 (zero_sm 800) fun x hx => (hf x hx).mono (by decide)
    have e5 := lc_mapF (T := .nm 5) (fe := (fFz (f2 opFdiv (fVar 5) (fVar 4)))) (env0 := [.d (.list (ps.map oF)), .d (.int (lcmF ps)), t2, .d (.list ((fnums ps).map .int)), .d (.int (gF (fnums ps) : Nat)), .no]) (S := S) PyData.int (fun x => .int (x / (gF (fnums ps) : Int))) (fnums ps) fun x hx =>
      ⟨[.d (.list (ps.map oF)), .d (.int (lcmF ps)), t2, .d (.list ((fnums ps).map .int)), .d (.int (gF (fnums ps) : Nat)), .d (.int x)], rfl, by
        have h1 := fdiv_ok (i := x) (j := (gF (fnums ps) : Nat)) (by omega) (big9_of hg2)
        generalize gF (fnums ps) = g at *
        clear h hn hl e1 b1 b2 b3 b4 hf hL e2 e4 e3 hg hg2
        walk_at "ev"⟩
    have e6 : ((fnums ps).map fun x => PyData.int (x / (gF (fnums ps) : Int))) = ((fnums ps).map fun x => x / (gF (fnums ps) : Int)).map .int := by rw [List.map_map]; rfl
    rw [e6] at e5
    have e7 : (((gF (fnums ps) : Nat) : Int) == 0) = false := by simp; omega
    generalize ((fnums ps).map fun x => x / (gF (fnums ps) : Int)).map PyData.int = fy at *
    generalize (fnums ps).map PyData.int = fz at *
    generalize gF (fnums ps) = g at *
    generalize lcmF ps = L at *
    clear h hn hl b1 b2 b3 b4 hf hL e3 hg e6 hg2
    unfold fn_scaled f_scaled
    walk_at "ev"
end

noncomputable def z_law_reckons_1 (n : Nat) : FS := (fPar 7 8 (fCons (fFz (fCall 1 (fn_law_drawn n) (fCons (fFz (fVar 0)) fNil))) (fCons (fFz (fCall 1 (fn_law_drawn n) (fCons (fFz (fVar 0)) fNil))) fNil)))
noncomputable def z_law_reckons_2 (n : Nat) : FS := (fPar 9 10 (fCons (fFz (f2 opSub (fCall 2 (fn_law_take n) (fCons (fFz (fVar 0)) (fCons (fC (.int 41)) fNil))) (fC (.int 20)))) (fCons (fFz (fCall 2 (fn_law_pick n) (fCons (fFz (fVar 0)) (fCons (fFz (fLst (fCons (fC (.int 1)) (fCons (fFz (f1 opNeg (fC (.int 2)))) (fCons (fC (.int 3)) (fCons (fC (.int 6)) (fCons (fFz (f1 opNeg (fC (.int 7)))) fNil))))))) fNil)))) fNil)))
noncomputable def z_law_reckons_3 (n : Nat) : FS := (fIfS (fOr (fB (f2 opNe (fCall 2 (fn_part n) (fCons (fFz (fVar 9)) (fCons (fFz (fVar 10)) fNil))) (fCall 2 (fn_law_fr n) (fCons (fFz (fVar 9)) (fCons (fFz (fVar 10)) fNil))))) (fOr (fB (f2 opNe (fCall 2 (fn_plus n) (fCons (fFz (fVar 7)) (fCons (fFz (fVar 8)) fNil))) (fCall 2 (fn_law_add n) (fCons (fFz (fVar 7)) (fCons (fFz (fVar 8)) fNil))))) (fOr (fB (f2 opNe (fCall 2 (fn_minus n) (fCons (fFz (fVar 7)) (fCons (fFz (fVar 8)) fNil))) (fCall 2 (fn_law_sub n) (fCons (fFz (fVar 7)) (fCons (fFz (fVar 8)) fNil))))) (fB (f2 opNe (fCall 2 (fn_times n) (fCons (fFz (fVar 7)) (fCons (fFz (fVar 8)) fNil))) (fCall 2 (fn_law_mul n) (fCons (fFz (fVar 7)) (fCons (fFz (fVar 8)) fNil))))))))
    (fRet (fC (.bool false)))
    fNext)
noncomputable def z_law_reckons_4 (n : Nat) : FS := (fIfS (fAnd (fB (f2 opNe (f2 opIx (fVar 8) (fC (.int 0))) (fC (.int 0)))) (fB (f2 opNe (fCall 2 (fn_over n) (fCons (fFz (fVar 7)) (fCons (fFz (fVar 8)) fNil))) (fCall 2 (fn_law_fr n) (fCons (fFz (f2 opMulI (f2 opIx (fVar 7) (fC (.int 0))) (f2 opIx (fVar 8) (fC (.int 1))))) (fCons (fFz (f2 opMulI (f2 opIx (fVar 7) (fC (.int 1))) (f2 opIx (fVar 8) (fC (.int 0))))) fNil))))))
    (fRet (fC (.bool false)))
    fNext)
noncomputable def z_law_reckons_5 (n : Nat) : FS := (fIfS (fOr (fB (f2 opNe (fCall 2 (fn_is_less n) (fCons (fFz (fVar 7)) (fCons (fFz (fVar 8)) fNil))) (f2 opLt (fCall 2 (fn_law_sign n) (fCons (fFz (fVar 7)) (fCons (fFz (fVar 8)) fNil))) (fC (.int 0))))) (fOr (fB (f2 opNe (fCall 1 (fn_is_whole_part n) (fCons (fFz (fVar 7)) fNil)) (f2 opEq (f2 opIx (fVar 7) (fC (.int 1))) (fC (.int 1))))) (fB (f2 opNe (fCall 1 (fn_whole_below n) (fCons (fFz (fVar 7)) fNil)) (f2 opFdiv (f2 opIx (fVar 7) (fC (.int 0))) (f2 opIx (fVar 7) (fC (.int 1))))))))
    (fRet (fC (.bool false)))
    fNext)
noncomputable def z_law_reckons_6 (n : Nat) : FS := (fIfS (fOr (fB (f2 opNe (fCall 1 (fn_whole_above n) (fCons (fFz (fVar 7)) fNil)) (f2 opAdd (f2 opFdiv (f2 opIx (fVar 7) (fC (.int 0))) (f2 opIx (fVar 7) (fC (.int 1)))) (fIf (fB (f2 opGt (f2 opIx (fVar 7) (fC (.int 1))) (fC (.int 1)))) (fC (.int 1)) (fC (.int 0)))))) (fOr (fB (f2 opNe (fCall 1 (fn_total n) (fCons (fFz (fLst (fCons (fFz (fVar 7)) (fCons (fFz (fVar 8)) (fCons (fFz (fVar 7)) fNil))))) fNil)) (fCall 2 (fn_law_add n) (fCons (fFz (fCall 2 (fn_law_add n) (fCons (fFz (fVar 7)) (fCons (fFz (fVar 8)) fNil)))) (fCons (fFz (fVar 7)) fNil))))) (fB (f2 opNe (fCall 1 (fn_total n) (fCons (fFz (fLst fNil)) fNil)) (fTup (fCons (fC (.int 0)) (fCons (fC (.int 1)) fNil)))))))
    (fRet (fC (.bool false)))
    fNext)
noncomputable def z_law_reckons_7 (n : Nat) : FS := (fSet 1 (fFz (fLc [12] (.nm 12) (fRng rng1 (fCons (fC (.int 4)) fNil)) fYes (fFz (fCall 1 (fn_law_drawn n) (fCons (fFz (fVar 0)) fNil))))))
noncomputable def z_law_reckons_8 (n : Nat) : FS := (fSet 2 (fFz (f2 opIx (fVar 1) (fC (.int 0)))))
noncomputable def z_law_reckons_9 (n : Nat) : FS := (fFor (.nm 3) (fIt (fVar 1))
    (fSet 2 (fFz (fIf (fB (f2 opLt (fCall 2 (fn_law_sign n) (fCons (fFz (fVar 3)) (fCons (fFz (fVar 2)) fNil))) (fC (.int 0)))) (fVar 3) (fVar 2)))))
noncomputable def z_law_reckons_10 (n : Nat) : FS := (fSet 4 (fFz (fCall 1 (fn_scaled n) (fCons (fFz (fN opList (fCons (fVar 1) fNil))) fNil))))
noncomputable def z_law_reckons_11 (n : Nat) : FS := (fSet 5 (fFz (fLc [12] (.nm 12) (fRng rng1 (fCons (fC (.int 4)) fNil)) (fB (f2 opNe (f2 opIx (f2 opIx (fVar 1) (fVar 12)) (fC (.int 0))) (fC (.int 0)))) (fFz (fVar 12)))))
noncomputable def z_law_reckons_12 (n : Nat) : FS := (fIfS (fOr (fB (f2 opNe (fCall 1 (fn_least_of n) (fCons (fFz (fN opList (fCons (fVar 1) fNil))) fNil)) (fVar 2))) (fB (f2 (isN true) (fCall 1 (fn_least_of n) (fCons (fFz (fLst fNil)) fNil)) (fC .none))))
    (fRet (fC (.bool false)))
    fNext)
noncomputable def z_law_reckons_13 (n : Nat) : FS := (fIfS (fB (f2 opGt (fN opLen (fCons (fVar 5) fNil)) (fC (.int 0))))
    (fSeq (fSet 11 (fFz (fLc [12] (.nm 12) (fRng rng2 (fCons (fC (.int 1)) (fCons (fC (.int 800)) fNil))) (fB (f2 opEq (fN opLen (fCons (fLc [13] (.nm 13) (fIt (fVar 4)) (fB (f2 opNe (f2 opMod (fN opInt (fCons (fN opAbs (fCons (fVar 13) fNil)) fNil)) (fVar 12)) (fC (.int 0)))) (fFz (fVar 13))) fNil)) (fC (.int 0)))) (fFz (fVar 12)))))
    (fSeq (fIfS (fOr (fB (f2 opNe (fVar 11) (fLst (fCons (fC (.int 1)) fNil)))) (fB (f2 opLe (f2 opMulI (f2 opIx (fVar 4) (f2 opIx (fVar 5) (fC (.int 0)))) (f2 opIx (f2 opIx (fVar 1) (f2 opIx (fVar 5) (fC (.int 0)))) (fC (.int 0)))) (fC (.int 0)))))
    (fRet (fC (.bool false)))
    fNext)
    (fIfS (fB (f2 opGt (fN opLen (fCons (fLc [12] (.nm 12) (fRng rng1 (fCons (fC (.int 4)) fNil)) (fB (f2 opNe (fCall 2 (fn_law_fr n) (fCons (fFz (f2 opMulI (f2 opIx (f2 opIx (fVar 1) (fVar 12)) (fC (.int 0))) (f2 opIx (fVar 4) (f2 opIx (fVar 5) (fC (.int 0)))))) (fCons (fFz (f2 opIx (f2 opIx (fVar 1) (fVar 12)) (fC (.int 1)))) fNil))) (fCall 2 (fn_law_fr n) (fCons (fFz (f2 opMulI (f2 opIx (fVar 4) (fVar 12)) (f2 opIx (f2 opIx (fVar 1) (f2 opIx (fVar 5) (fC (.int 0)))) (fC (.int 0))))) (fCons (fFz (f2 opIx (f2 opIx (fVar 1) (f2 opIx (fVar 5) (fC (.int 0)))) (fC (.int 1)))) fNil))))) (fFz (fVar 12))) fNil)) (fC (.int 0))))
    (fRet (fC (.bool false)))
    fNext)))
    (fIfS (fB (f2 opNe (fVar 4) (fTup (fCons (fC (.int 0)) (fCons (fC (.int 0)) (fCons (fC (.int 0)) (fCons (fC (.int 0)) fNil)))))))
    (fRet (fC (.bool false)))
    fNext))
noncomputable def z_law_reckons_14 (n : Nat) : FS := (fFor (.nm 6) (fIt (fFz (fLst (fCons (fFz (fTup (fCons (fFz (fVar 9)) (fCons (fFz (fVar 10)) fNil)))) (fCons (fFz (fVar 7)) (fCons (fFz (fN opList (fCons (fVar 7) fNil))) (fCons (fFz (fTup (fCons (fFz (fVar 9)) (fCons (fC (.int 0)) fNil)))) (fCons (fFz (fTup (fCons (fFz (fVar 9)) fNil))) (fCons (fFz (fTup (fCons (fFz (f2 opIx (fVar 7) (fC (.int 0)))) (fCons (fFz (f2 opIx (fVar 7) (fC (.int 1)))) (fCons (fC (.int 1)) fNil))))) (fCons (fC .none) (fCons (fFz (fTup (fCons (fC (.bool true)) (fCons (fC (.int 2)) fNil)))) (fCons (fFz (fTup (fCons (fFz (f2 opIx (fVar 7) (fC (.int 0)))) (fCons (fC (.bool true)) fNil)))) (fCons (fFz (fTup (fCons (fFz (f2 opMulI (fC (.int 2)) (fVar 9))) (fCons (fC (.int 2)) fNil)))) fNil)))))))))))))
    (fIfS (fB (f2 opNe (fCall 1 (fn_is_part n) (fCons (fFz (fVar 6)) fNil)) (fCall 1 (fn_law_is_fr n) (fCons (fFz (fVar 6)) fNil))))
    (fRet (fC (.bool false)))
    fNext))
noncomputable def z_law_reckons_15 (n : Nat) : FS := (fFor (.nm 6) (fIt (fFz (fLst (fCons (fFz (fN opTuple (fCons (fVar 1) fNil))) (fCons (fFz (fVar 1)) (fCons (fFz (fN opTuple (fCons (fSl (fVar 1) (fPart (fC (.int 1))) fNo) fNil))) (fCons (fFz (f2 opAdd (fN opTuple (fCons (fSl (fVar 1) fNo (fPart (fC (.int 3)))) fNil)) (fTup (fCons (fFz (fTup (fCons (fC (.int 2)) (fCons (fC (.int 4)) fNil)))) fNil)))) (fCons (fC .none) (fCons (fFz (f2 opAdd (fN opTuple (fCons (fSl (fVar 1) fNo (fPart (fC (.int 3)))) fNil)) (fTup (fCons (fC .none) fNil)))) fNil)))))))))
    (fIfS (fB (f2 opNe (fCall 2 (fn_are_parts n) (fCons (fFz (fVar 6)) (fCons (fC (.int 4)) fNil))) (fCall 2 (fn_law_are_frs n) (fCons (fFz (fVar 6)) (fCons (fC (.int 4)) fNil)))))
    (fRet (fC (.bool false)))
    fNext))
noncomputable def z_law_reckons_16 (n : Nat) : FS := (fRet (fAndV (f2 opEq (fCall 2 (fn_divisor n) (fCons (fFz (fVar 9)) (fCons (fC (.int 0)) fNil))) (fN opAbs (fCons (fVar 9) fNil))) (fAndV (f2 opEq (fCall 2 (fn_divisor n) (fCons (fC (.int 12)) (fCons (fFz (f1 opNeg (fC (.int 18)))) fNil))) (fC (.int 6))) (f2 opEq (fCall 2 (fn_dot n) (fCons (fFz (fTup (fCons (fC (.int 3)) (fCons (fFz (f1 opNeg (fC (.int 2)))) fNil)))) (fCons (fFz (fTup (fCons (fFz (fVar 7)) (fCons (fFz (fVar 8)) fNil)))) fNil))) (fCall 2 (fn_law_at n) (fCons (fFz (fTup (fCons (fC (.int 3)) (fCons (fFz (f1 opNeg (fC (.int 2)))) fNil)))) (fCons (fFz (fTup (fCons (fFz (fVar 7)) (fCons (fFz (fVar 8)) fNil)))) fNil)))))))
theorem z_law_reckons_eq (n : Nat) : f_law_reckons n = fSeq (z_law_reckons_1 n) (fSeq (z_law_reckons_2 n) (fSeq (z_law_reckons_3 n) (fSeq (z_law_reckons_4 n) (fSeq (z_law_reckons_5 n) (fSeq (z_law_reckons_6 n) (fSeq (z_law_reckons_7 n) (fSeq (z_law_reckons_8 n) (fSeq (z_law_reckons_9 n) (fSeq (z_law_reckons_10 n) (fSeq (z_law_reckons_11 n) (fSeq (z_law_reckons_12 n) (fSeq (z_law_reckons_13 n) (fSeq (z_law_reckons_14 n) (fSeq (z_law_reckons_15 n) (z_law_reckons_16 n))))))))))))))) := rfl
noncomputable def z_law_1 (n : Nat) : FS := (fIfS (fOr (fNot (fTru (fCall 1 (fn_law_reckons n) (fCons (fFz (fVar 1)) fNil)))) (fB (f2 opNe (fTup (fCons (fFz (fC (.int 1000000))) (fCons (fFz (fC (.int 24))) (fCons (fFz (fC (.int 8))) (fCons (fFz (fC D_KINDS)) fNil))))) (fTup (fCons (fC (.int 1000000)) (fCons (fC (.int 24)) (fCons (fC (.int 8)) (fCons (fFz (fTup (fCons (fC (.str "most")) (fCons (fC (.str "less")) (fCons (fC (.str "just")) fNil))))) fNil))))))))
    (fRet (fC (.bool false)))
    fNext)
noncomputable def z_law_2 (n : Nat) : FS := (fSet 2 (fFz (fCall 4 (fn_law_system n) (fCons (fFz (fVar 1)) (fCons (fC (.int 4)) (fCons (fC (.int 6)) (fCons (fC (.bool false)) fNil)))))))
noncomputable def z_law_3 (n : Nat) : FS := (fSetT (.tp [12, 13]) (fTup (fCons (fFz (f2 opIx (fVar 2) (fC (.int 1)))) (fCons (fFz (f2 opIx (fVar 2) (fC (.int 2)))) fNil))))
noncomputable def z_law_4 (n : Nat) : FS := (fSet 3 (fFz (fIf (fB (f2 opGt (fN opLen (fCons (fVar 13) fNil)) (fC (.int 0)))) (fCall 2 (fn_law_pick n) (fCons (fFz (fVar 1)) (fCons (fFz (fN opList (fCons (fVar 13) fNil))) fNil))) (fTup (fCons (fFz (f2 opRepT (fTup (fCons (fC (.int 1)) fNil)) (fVar 12))) (fCons (fC (.str "most")) (fCons (fC (.int 3)) fNil)))))))
noncomputable def z_law_5 (n : Nat) : FS := (fSet 4 (fFz (fLst (fCons (fFz (fN opList (fCons (fVar 3) fNil))) (fCons (fFz (fSl (fVar 3) fNo (fPart (fC (.int 2))))) (fCons (fFz (f2 opAdd (fTup (fCons (fFz (fN opList (fCons (f2 opIx (fVar 3) (fC (.int 0))) fNil))) fNil)) (fSl (fVar 3) (fPart (fC (.int 1))) fNo))) (fCons (fFz (fTup (fCons (fFz (f2 opIx (fVar 3) (fC (.int 0)))) (fCons (fC (.str "least")) (fCons (fFz (f2 opIx (fVar 3) (fC (.int 2)))) fNil))))) (fCons (fFz (fTup (fCons (fFz (f2 opIx (fVar 3) (fC (.int 0)))) (fCons (fC .none) (fCons (fFz (f2 opIx (fVar 3) (fC (.int 2)))) fNil))))) (fCons (fFz (f2 opAdd (fSl (fVar 3) fNo (fPart (fC (.int 2)))) (fTup (fCons (fC (.bool true)) fNil)))) (fCons (fC .none) fNil))))))))))
noncomputable def z_law_6 (n : Nat) : FS := (fSet 4 (fFz (f2 opAdd (fVar 4) (fLst (fCons (fFz (f2 opAdd (fSl (fVar 3) fNo (fPart (fC (.int 2)))) (fTup (fCons (fC (.int 1000001)) fNil)))) (fCons (fFz (f2 opAdd (fTup (fCons (fFz (f2 opAdd (f2 opIx (fVar 3) (fC (.int 0))) (fTup (fCons (fC (.int 0)) fNil)))) fNil)) (fSl (fVar 3) (fPart (fC (.int 1))) fNo))) fNil))))))
noncomputable def z_law_7 (n : Nat) : FS := (fFor (.nm 5) (fIt (fFz (f2 opAdd (fVar 4) (fLst (fCons (fFz (fVar 3)) (fCons (fFz (fTup (fCons (fFz (f2 opRepT (fTup (fCons (fC (.int 1000000)) fNil)) (fVar 12))) (fCons (fC (.str "less")) (fCons (fFz (f1 opNeg (fC (.int 1000000)))) fNil))))) (fCons (fFz (f2 opAdd (fTup (fCons (fFz (f2 opAdd (fTup (fCons (fC (.bool true)) fNil)) (fSl (f2 opIx (fVar 3) (fC (.int 0))) (fPart (fC (.int 1))) fNo))) fNil)) (fSl (fVar 3) (fPart (fC (.int 1))) fNo))) (fCons (fFz (f2 opAdd (fTup (fCons (fFz (f2 opRepT (fTup (fCons (fC .none) fNil)) (fVar 12))) fNil)) (fSl (fVar 3) (fPart (fC (.int 1))) fNo))) fNil))))))))
    (fIfS (fOr (fB (f2 opNe (fCall 2 (fn_is_row n) (fCons (fFz (fVar 5)) (fCons (fFz (fVar 12)) fNil))) (fCall 2 (fn_law_is_row n) (fCons (fFz (fVar 5)) (fCons (fFz (fVar 12)) fNil))))) (fB (f2 opNe (fCall 1 (fn_is_system n) (fCons (fFz (fTup (fCons (fC (.str "rows")) (fCons (fFz (fVar 12)) (fCons (fFz (f2 opAdd (fSl (fVar 13) fNo (fPart (fC (.int 2)))) (fTup (fCons (fFz (fVar 5)) fNil)))) fNil))))) fNil)) (fCall 1 (fn_law_is_system n) (fCons (fFz (fTup (fCons (fC (.str "rows")) (fCons (fFz (fVar 12)) (fCons (fFz (f2 opAdd (fSl (fVar 13) fNo (fPart (fC (.int 2)))) (fTup (fCons (fFz (fVar 5)) fNil)))) fNil))))) fNil)))))
    (fRet (fC (.bool false)))
    fNext))
noncomputable def z_law_8 (n : Nat) : FS := (fSet 4 (fFz (fLst (fCons (fFz (fVar 2)) (fCons (fFz (fN opList (fCons (fVar 2) fNil))) (fCons (fFz (fSl (fVar 2) fNo (fPart (fC (.int 2))))) (fCons (fFz (f2 opAdd (fTup (fCons (fC (.str "row")) fNil)) (fSl (fVar 2) (fPart (fC (.int 1))) fNo))) (fCons (fFz (fTup (fCons (fC (.str "rows")) (fCons (fFz (fVar 12)) (fCons (fFz (fN opList (fCons (fVar 13) fNil))) fNil))))) (fCons (fFz (fTup (fCons (fC (.str "rows")) (fCons (fFz (f2 opAdd (fVar 12) (fC (.int 1)))) (fCons (fFz (f2 opAdd (fVar 13) (fTup (fCons (fFz (fVar 3)) fNil)))) fNil))))) (fCons (fFz (fTup (fCons (fC (.str "rows")) (fCons (fC (.int 0)) (fCons (fFz (fTup fNil)) fNil))))) fNil))))))))))
noncomputable def z_law_9 (n : Nat) : FS := (fFor (.nm 6) (fIt (fFz (f2 opAdd (fVar 4) (fLst (fCons (fFz (fTup (fCons (fC (.str "rows")) (fCons (fC (.int 9)) (fCons (fFz (fTup fNil)) fNil))))) (fCons (fFz (fTup (fCons (fC (.str "rows")) (fCons (fC (.int 8)) (fCons (fFz (fTup fNil)) fNil))))) (fCons (fFz (fTup (fCons (fC (.str "rows")) (fCons (fC (.bool true)) (fCons (fFz (fTup fNil)) fNil))))) (fCons (fFz (fTup (fCons (fC (.str "rows")) (fCons (fFz (fVar 12)) (fCons (fFz (f2 opRepT (fTup (fCons (fFz (fVar 3)) fNil)) (fC (.int 25)))) fNil))))) (fCons (fFz (fTup (fCons (fC (.str "rows")) (fCons (fFz (fVar 12)) (fCons (fFz (f2 opRepT (fTup (fCons (fFz (fVar 3)) fNil)) (fC (.int 24)))) fNil))))) (fCons (fC .none) fNil))))))))))
    (fIfS (fB (f2 opNe (fCall 1 (fn_is_system n) (fCons (fFz (fVar 6)) fNil)) (fCall 1 (fn_law_is_system n) (fCons (fFz (fVar 6)) fNil))))
    (fRet (fC (.bool false)))
    fNext))
noncomputable def z_law_10 (n : Nat) : FS := (fSet 7 (fFz (fIf (fB (f2 opEq (fCall 2 (fn_law_take n) (fCons (fFz (fVar 1)) (fCons (fC (.int 2)) fNil))) (fC (.int 0)))) (fN opTuple (fCons (fLc [10] (.nm 10) (fRng rng1 (fCons (fVar 12) fNil)) fYes (fFz (fCall 1 (fn_law_drawn n) (fCons (fFz (fVar 1)) fNil)))) fNil)) (fN opTuple (fCons (fLc [10] (.nm 10) (fRng rng1 (fCons (fVar 12) fNil)) fYes (fFz (fTup (fCons (fFz (f2 opSub (fCall 2 (fn_law_take n) (fCons (fFz (fVar 1)) (fCons (fC (.int 9)) fNil))) (fC (.int 4)))) (fCons (fC (.int 1)) fNil))))) fNil)))))
noncomputable def z_law_11 (n : Nat) : FS := (fSet 8 (fFz (fCall 2 (fn_law_keeps n) (fCons (fFz (fVar 2)) (fCons (fFz (fVar 7)) fNil)))))
noncomputable def z_law_12 (n : Nat) : FS := (fIfS (fOr (fB (f2 opNe (fCall 2 (fn_keeps_all n) (fCons (fFz (fVar 2)) (fCons (fFz (fVar 7)) fNil))) (fVar 8))) (fB (f2 opNe (fCall 2 (fn_tight n) (fCons (fFz (fVar 2)) (fCons (fFz (fVar 7)) fNil))) (fLc [10] (.nm 10) (fRng rng1 (fCons (fN opLen (fCons (fVar 13) fNil)) fNil)) (fB (f2 opEq (fCall 2 (fn_law_at n) (fCons (fFz (f2 opIx (f2 opIx (fVar 13) (fVar 10)) (fC (.int 0)))) (fCons (fFz (fVar 7)) fNil))) (fTup (fCons (fFz (f2 opIx (f2 opIx (fVar 13) (fVar 10)) (fC (.int 2)))) (fCons (fC (.int 1)) fNil))))) (fFz (fVar 10))))))
    (fRet (fC (.bool false)))
    fNext)
noncomputable def z_law_13 (n : Nat) : FS := (fIfS (fB (f2 opGt (fN opLen (fCons (fLc [5] (.nm 5) (fIt (fVar 13)) (fOr (fB (f2 opNe (fCall 2 (fn_keeps n) (fCons (fFz (fVar 5)) (fCons (fFz (fVar 7)) fNil))) (fCall 2 (fn_law_keeps n) (fCons (fFz (fTup (fCons (fC (.str "rows")) (fCons (fFz (fVar 12)) (fCons (fFz (fTup (fCons (fFz (fVar 5)) fNil))) fNil))))) (fCons (fFz (fVar 7)) fNil))))) (fB (f2 opNe (fCall 2 (fn_slack n) (fCons (fFz (fVar 5)) (fCons (fFz (fVar 7)) fNil))) (fCall 2 (fn_law_sub n) (fCons (fFz (fTup (fCons (fFz (f2 opIx (fVar 5) (fC (.int 2)))) (fCons (fC (.int 1)) fNil)))) (fCons (fFz (fCall 2 (fn_law_at n) (fCons (fFz (f2 opIx (fVar 5) (fC (.int 0)))) (fCons (fFz (fVar 7)) fNil)))) fNil)))))) (fFz (fVar 5))) fNil)) (fC (.int 0))))
    (fRet (fC (.bool false)))
    fNext)
noncomputable def z_law_14 (n : Nat) : FS := (fFor (.nm 6) (fIt (fFz (fLst (fCons (fFz (fVar 7)) (fCons (fFz (fN opList (fCons (fVar 7) fNil))) (fCons (fFz (fSl (fVar 7) (fPart (fC (.int 1))) fNo)) (fCons (fC .none) (fCons (fFz (f2 opAdd (fSl (fVar 7) fNo (fPart (f1 opNeg (fC (.int 1))))) (fTup (fCons (fFz (fTup (fCons (fC (.int 2)) (fCons (fC (.int 4)) fNil)))) fNil)))) (fCons (fFz (f2 opAdd (fSl (fVar 7) fNo (fPart (f1 opNeg (fC (.int 1))))) (fTup (fCons (fC (.int 3)) fNil)))) fNil)))))))))
    (fIfS (fB (f2 opNe (fCall 2 (fn_is_point n) (fCons (fFz (fVar 2)) (fCons (fFz (fVar 6)) fNil))) (fAndV (fIsi "tuple" (fVar 6)) (fAndV (fCall 2 (fn_law_are_frs n) (fCons (fFz (fVar 6)) (fCons (fFz (fVar 12)) fNil))) (fVar 8)))))
    (fRet (fC (.bool false)))
    fNext))
noncomputable def z_law_15 (n : Nat) : FS := (fSet 9 (fFz (fN opTuple (fCons (fLc [10] (.nm 10) (fRng rng1 (fCons (fN opLen (fCons (fVar 13) fNil)) fNil)) fYes (fFz (fCall 2 (fn_law_pick n) (fCons (fFz (fVar 1)) (fCons (fFz (fLst (fCons (fFz (fTup (fCons (fC (.int 0)) (fCons (fC (.int 1)) fNil)))) (fCons (fFz (fTup (fCons (fC (.int 1)) (fCons (fC (.int 1)) fNil)))) (fCons (fFz (fTup (fCons (fC (.int 2)) (fCons (fC (.int 3)) fNil)))) (fCons (fFz (fTup (fCons (fFz (f1 opNeg (fC (.int 1)))) (fCons (fC (.int 1)) fNil)))) fNil)))))) fNil))))) fNil))))
noncomputable def z_law_16 (n : Nat) : FS := (fFor (.nm 6) (fIt (fFz (fLst (fCons (fFz (fVar 9)) (fCons (fFz (fSl (fVar 9) (fPart (fC (.int 1))) fNo)) (fCons (fFz (fN opList (fCons (fVar 9) fNil))) (fCons (fC .none) (fCons (fFz (fN opTuple (fCons (fLc [10] (.nm 10) (fRng rng1 (fCons (fN opLen (fCons (fVar 13) fNil)) fNil)) fYes (fFz (fIf (fB (f2 opEq (fVar 10) (fC (.int 0)))) (fTup (fCons (fC (.int 1)) (fCons (fC (.int 1)) fNil))) (fTup (fCons (fC (.int 0)) (fCons (fC (.int 1)) fNil)))))) fNil))) (fCons (fFz (f2 opAdd (fVar 9) (fTup (fCons (fFz (fTup (fCons (fC (.int 1)) (fCons (fC (.int 2)) fNil)))) fNil)))) (fCons (fFz (f2 opAdd (fSl (fVar 9) fNo (fPart (f1 opNeg (fC (.int 1))))) (fTup (fCons (fFz (fTup (fCons (fC (.int 0)) (fCons (fC (.int 2)) fNil)))) fNil)))) fNil))))))))))
    (fIfS (fOr (fB (f2 opNe (fCall 2 (fn_are_weights n) (fCons (fFz (fVar 2)) (fCons (fFz (fVar 6)) fNil))) (fCall 2 (fn_law_weights n) (fCons (fFz (fVar 2)) (fCons (fFz (fVar 6)) fNil))))) (fB (f2 opNe (fCall 2 (fn_is_barred n) (fCons (fFz (fVar 2)) (fCons (fFz (fVar 6)) fNil))) (fCall 2 (fn_law_bars n) (fCons (fFz (fVar 2)) (fCons (fFz (fVar 6)) fNil))))))
    (fRet (fC (.bool false)))
    fNext))
noncomputable def z_law_17 (n : Nat) : FS := (fIfS (fTru (fCall 2 (fn_law_weights n) (fCons (fFz (fVar 2)) (fCons (fFz (fVar 9)) fNil))))
    (fSeq (fSetT (.tp [14, 15, 16]) (fCall 2 (fn_law_weigh n) (fCons (fFz (fVar 2)) (fCons (fFz (fVar 9)) fNil))))
    (fSeq (fIfS (fB (f2 opNe (fCall 2 (fn_weighed n) (fCons (fFz (fVar 2)) (fCons (fFz (fVar 9)) fNil))) (fTup (fCons (fFz (fN opTuple (fCons (fVar 14) fNil))) (fCons (fFz (fVar 15)) (fCons (fFz (fVar 16)) fNil))))))
    (fRet (fC (.bool false)))
    fNext)
    (fIfS (fB (f2 opEq (fN opLen (fCons (fLc [5] (.nm 5) (fIt (fVar 14)) (fB (f2 opNe (f2 opIx (fVar 5) (fC (.int 1))) (fC (.int 1)))) (fFz (fVar 5))) fNil)) (fC (.int 0))))
    (fSeq (fSet 17 (fFz (f2 opSub (f2 opAdd (f2 opFdiv (f2 opIx (fVar 15) (fC (.int 0))) (f2 opIx (fVar 15) (fC (.int 1)))) (fCall 2 (fn_law_take n) (fCons (fFz (fVar 1)) (fCons (fC (.int 3)) fNil)))) (fC (.int 1)))))
    (fFor (.nm 18) (fIt (fFz (fTup (fCons (fC (.str "most")) (fCons (fC (.str "less")) (fCons (fC (.str "just")) fNil))))))
    (fSeq (fSet 19 (fFz (fCall 2 (fn_law_sign n) (fCons (fFz (fVar 15)) (fCons (fFz (fTup (fCons (fFz (fVar 17)) (fCons (fC (.int 1)) fNil)))) fNil)))))
    (fSeq (fSet 20 (fFz (fAndV (f2 opNe (fVar 18) (fC (.str "just"))) (fOrV (f2 opLt (fVar 19) (fC (.int 0))) (fAndV (f2 opEq (fVar 19) (fC (.int 0))) (fOrV (f2 opEq (fVar 18) (fC (.str "most"))) (fVar 16)))))))
    (fIfS (fOr (fB (f2 opNe (fCall 3 (fn_shows_row n) (fCons (fFz (fVar 2)) (fCons (fFz (fTup (fCons (fFz (fN opTuple (fCons (fLc [5] (.nm 5) (fIt (fVar 14)) fYes (fFz (f2 opIx (fVar 5) (fC (.int 0))))) fNil))) (fCons (fFz (fVar 18)) (fCons (fFz (fVar 17)) fNil))))) (fCons (fFz (fVar 9)) fNil)))) (fVar 20))) (fB (f2 (isBo true) (fCall 3 (fn_shows_row n) (fCons (fFz (fVar 2)) (fCons (fFz (fTup (fCons (fFz (f2 opIx (fVar 3) (fC (.int 0)))) (fCons (fC (.str "most")) (fCons (fFz (f2 opIx (fVar 3) (fC (.int 2)))) fNil))))) (fCons (fC .none) fNil)))) (fC (.bool false)))))
    (fRet (fC (.bool false)))
    fNext)))))
    fNext)))
    fNext)
noncomputable def z_law_18 (n : Nat) : FS := (fSet 10 (fFz (fIf (fB (f2 opGt (fN opLen (fCons (fVar 13) fNil)) (fC (.int 0)))) (fCall 2 (fn_law_take n) (fCons (fFz (fVar 1)) (fCons (fFz (fN opLen (fCons (fVar 13) fNil))) fNil))) (fC (.int 0)))))
noncomputable def z_law_19 (n : Nat) : FS := (fIfS (fOr (fB (f2 opNe (fCall 2 (fn_with_row n) (fCons (fFz (fVar 2)) (fCons (fFz (fVar 3)) fNil))) (fTup (fCons (fC (.str "rows")) (fCons (fFz (fVar 12)) (fCons (fFz (f2 opAdd (fVar 13) (fTup (fCons (fFz (fVar 3)) fNil)))) fNil)))))) (fAnd (fB (f2 opGt (fN opLen (fCons (fVar 13) fNil)) (fC (.int 0)))) (fB (f2 opNe (fCall 2 (fn_without n) (fCons (fFz (fVar 2)) (fCons (fFz (fVar 10)) fNil))) (fTup (fCons (fC (.str "rows")) (fCons (fFz (fVar 12)) (fCons (fFz (f2 opAdd (fSl (fVar 13) fNo (fPart (fVar 10))) (fSl (fVar 13) (fPart (f2 opAdd (fVar 10) (fC (.int 1)))) fNo))) fNil))))))))
    (fRet (fC (.bool false)))
    fNext)
noncomputable def z_law_20 (n : Nat) : FS := (fIfS (fB (f2 opNe (fCall 1 (fn_loosened n) (fCons (fFz (fVar 2)) fNil)) (fTup (fCons (fC (.str "rows")) (fCons (fFz (fVar 12)) (fCons (fFz (fN opTuple (fCons (fLc [5] (.nm 5) (fIt (fVar 13)) fYes (fFz (fTup (fCons (fFz (f2 opIx (fVar 5) (fC (.int 0)))) (fCons (fFz (fIf (fB (f2 opEq (f2 opIx (fVar 5) (fC (.int 1))) (fC (.str "less")))) (fC (.str "most")) (f2 opIx (fVar 5) (fC (.int 1))))) (fCons (fFz (f2 opIx (fVar 5) (fC (.int 2)))) fNil)))))) fNil))) fNil))))))
    (fRet (fC (.bool false)))
    fNext)
noncomputable def z_law_21 (n : Nat) : FS := (fIfS (fAnd (fB (f2 opNe (f2 opIx (fVar 3) (fC (.int 1))) (fC (.str "just")))) (fB (f2 opEq (fCall 2 (fn_keeps n) (fCons (fFz (fCall 1 (fn_turned n) (fCons (fFz (fVar 3)) fNil))) (fCons (fFz (fVar 7)) fNil))) (fCall 2 (fn_keeps n) (fCons (fFz (fVar 3)) (fCons (fFz (fVar 7)) fNil))))))
    (fRet (fC (.bool false)))
    fNext)
noncomputable def z_law_22 (n : Nat) : FS := (fSet 11 (fFz (fLst (fCons (fFz (fCall 3 (fn_is_whole n) (fCons (fC (.int 3)) (fCons (fC (.int 0)) (fCons (fC (.int 3)) fNil))))) (fCons (fFz (fCall 3 (fn_is_whole n) (fCons (fC (.int 4)) (fCons (fC (.int 0)) (fCons (fC (.int 3)) fNil))))) (fCons (fFz (fCall 3 (fn_is_whole n) (fCons (fC (.bool true)) (fCons (fC (.int 0)) (fCons (fC (.int 3)) fNil))))) (fCons (fFz (fCall 3 (fn_are_numbers n) (fCons (fFz (fTup (fCons (fC (.int 1)) (fCons (fFz (f1 opNeg (fC (.int 2)))) fNil)))) (fCons (fC (.int 2)) (fCons (fC (.int 2)) fNil))))) (fCons (fFz (fCall 3 (fn_are_numbers n) (fCons (fFz (fTup (fCons (fC (.int 1)) (fCons (fC (.int 3)) fNil)))) (fCons (fC (.int 2)) (fCons (fC (.int 2)) fNil))))) (fCons (fFz (fCall 3 (fn_are_numbers n) (fCons (fFz (fLst (fCons (fC (.int 1)) fNil))) (fCons (fC (.int 1)) (fCons (fC (.int 2)) fNil))))) fNil)))))))))
noncomputable def z_law_23 (n : Nat) : FS := (fRet (f2 opEq (fVar 11) (fLst (fCons (fC (.bool true)) (fCons (fC (.bool false)) (fCons (fC (.bool false)) (fCons (fC (.bool true)) (fCons (fC (.bool false)) (fCons (fC (.bool false)) fNil)))))))))
theorem z_law_eq (n : Nat) : f_law n = fSeq (z_law_1 n) (fSeq (z_law_2 n) (fSeq (z_law_3 n) (fSeq (z_law_4 n) (fSeq (z_law_5 n) (fSeq (z_law_6 n) (fSeq (z_law_7 n) (fSeq (z_law_8 n) (fSeq (z_law_9 n) (fSeq (z_law_10 n) (fSeq (z_law_11 n) (fSeq (z_law_12 n) (fSeq (z_law_13 n) (fSeq (z_law_14 n) (fSeq (z_law_15 n) (fSeq (z_law_16 n) (fSeq (z_law_17 n) (fSeq (z_law_18 n) (fSeq (z_law_19 n) (fSeq (z_law_20 n) (fSeq (z_law_21 n) (fSeq (z_law_22 n) (z_law_23 n)))))))))))))))))))))) := rfl

/-! ### facts of scaled rows -/
theorem told_len (ps : List Fq) : (toldF ps).length = ps.length := by
  unfold toldF
  split <;> simp [fnums]
theorem fnums_get {ps : List Fq} {k : Nat} (hk : k < ps.length) : (fnums ps).getD k 0 = (ps.getD k (0, 1)).1 * (lcmF ps / (ps.getD k (0, 1)).2) := by
  simp [fnums, hk]
theorem fnums_mem {ps : List Fq} {k : Nat} (hk : k < ps.length) : (fnums ps).getD k 0 ∈ fnums ps := by
  have hl : k < (fnums ps).length := by simpa [fnums] using hk
  rw [List.getD_eq_getElem?_getD, List.getElem?_eq_getElem hl]
  exact List.getElem_mem hl
theorem lcm_at {ps : List Fq} (h : GP ps) {k : Nat} (hk : k < ps.length) : ∃ q : Int, 0 < q ∧ lcmF ps = (ps.getD k (0, 1)).2 * q ∧ lcmF ps / (ps.getD k (0, 1)).2 = q := by
  obtain ⟨b1, b2, b3, b4⟩ := lcF_ok ps 1 1 (by decide) (one_sm 0) h
  have hm : ps.getD k (0, 1) ∈ ps := by
    rw [List.getD_eq_getElem?_getD, List.getElem?_eq_getElem hk]
    exact List.getElem_mem hk
  obtain ⟨q, hq⟩ := b4 _ hm
  have h0 := (h _ hm).2.1
  have hq0 : 0 < q := by
    rw [hq] at b1
    exact Int.pos_of_mul_pos_right b1 h0
  refine ⟨q, hq0, hq, ?_⟩
  show ps.foldl lcS 1 / _ = q
  rw [hq, Int.mul_ediv_cancel_left _ (by omega)]
theorem told_zero {ps : List Fq} (h : ∀ p ∈ ps, p.1 = 0) : toldF ps = List.replicate ps.length 0 := by
  have h1 : fnums ps = List.replicate ps.length 0 := by
    unfold fnums
    rw [List.eq_replicate_iff]
    refine ⟨by simp, fun x hx => ?_⟩
    obtain ⟨p, hp, rfl⟩ := List.mem_map.mp hx
    rw [h p hp, Int.zero_mul]
  have h2 : gF (fnums ps) = 0 := by
    have := (gF_go (fnums ps) 0).2.2 0 (Nat.dvd_refl 0) fun x hx => by
      rw [h1] at hx
      rw [List.eq_of_mem_replicate hx]
      exact Int.dvd_refl 0
    simpa [gF] using this
  unfold toldF
  rw [if_pos h2, h1]
theorem told_nz {ps : List Fq} (h : GP ps) {l : Nat} (hl : l < ps.length) (hz : (ps.getD l (0, 1)).1 ≠ 0) : gF (fnums ps) ≠ 0 := by
  intro e
  have h1 := (gF_go (fnums ps) 0).2.1 _ (fnums_mem hl)
  change ((gF (fnums ps) : Nat) : Int) ∣ _ at h1
  rw [e, fnums_get hl] at h1
  obtain ⟨q, q0, q1, q2⟩ := lcm_at h hl
  rw [q2] at h1
  have h2 := Int.zero_dvd.mp h1
  rcases Int.mul_eq_zero.mp h2 with h3 | h3
  · exact hz h3
  · omega
theorem told_get {ps : List Fq} {k : Nat} (hk : k < ps.length) : (gF (fnums ps) : Int) * (toldF ps).getD k 0 = (fnums ps).getD k 0 ∨ gF (fnums ps) = 0 := by
  by_cases e : gF (fnums ps) = 0
  · exact .inr e
  · left
    have hk2 : k < (fnums ps).length := by simpa [fnums] using hk
    have h1 := (gF_go (fnums ps) 0).2.1 _ (fnums_mem hk)
    change ((gF (fnums ps) : Nat) : Int) ∣ _ at h1
    have h2 : (toldF ps).getD k 0 = (fnums ps).getD k 0 / (gF (fnums ps) : Int) := by
      unfold toldF
      rw [if_neg e, List.getD_eq_getElem?_getD, List.getD_eq_getElem?_getD, List.getElem?_map, List.getElem?_eq_getElem hk2]
      rfl
    rw [h2]
    exact Int.mul_ediv_cancel' h1
theorem told_cop {ps : List Fq} (h : GP ps) {l : Nat} (hl : l < ps.length) (hz : (ps.getD l (0, 1)).1 ≠ 0) {d : Nat} (hd : ∀ x ∈ toldF ps, (d : Int) ∣ x) : d = 1 := by
  have hg := told_nz h hl hz
  have h1 : ∀ x ∈ fnums ps, ((d * gF (fnums ps) : Nat) : Int) ∣ x := fun x hx => by
    obtain ⟨k, hk, rfl⟩ := List.getElem_of_mem hx
    have hk' : k < ps.length := by simpa [fnums] using hk
    rcases told_get hk' with h2 | h2
    · have e : (fnums ps).getD k 0 = (fnums ps)[k] := by rw [List.getD_eq_getElem?_getD, List.getElem?_eq_getElem hk]; rfl
      rw [← e, ← h2]
      have hk3 : k < (toldF ps).length := by rw [told_len]; exact hk'
      obtain ⟨c, hc⟩ := hd ((toldF ps).getD k 0) (by rw [List.getD_eq_getElem?_getD, List.getElem?_eq_getElem hk3]; exact List.getElem_mem hk3)
      rw [hc]
      refine ⟨c, ?_⟩
      rw [Int.natCast_mul]
      generalize (gF (fnums ps) : Int) = g
      grind
    · exact absurd h2 hg
  have h3 := (gF_go (fnums ps) 0).2.2 (d * gF (fnums ps)) (Nat.dvd_zero _) h1
  change d * gF (fnums ps) ∣ gF (fnums ps) at h3
  have h4 := Nat.le_of_dvd (by omega) h3
  have h5 : 0 < gF (fnums ps) := by omega
  rcases Nat.lt_or_ge d 2 with h6 | h6
  · rcases Nat.eq_zero_or_pos d with h7 | h7
    · subst h7
      rw [Nat.zero_mul] at h3
      have := Nat.eq_zero_of_zero_dvd h3
      omega
    · omega
  · have := Nat.mul_le_mul_right (gF (fnums ps)) h6
    omega
theorem told_sign {ps : List Fq} (h : GP ps) {l : Nat} (hl : l < ps.length) (hz : (ps.getD l (0, 1)).1 ≠ 0) : 0 < (toldF ps).getD l 0 * (ps.getD l (0, 1)).1 := by
  have hg := told_nz h hl hz
  rcases told_get hl with h1 | h1
  · rw [fnums_get hl] at h1
    obtain ⟨q, q0, q1, q2⟩ := lcm_at h hl
    rw [q2] at h1
    generalize (toldF ps).getD l 0 = t at *
    generalize (ps.getD l (0, 1)).1 = a at *
    have hg0 : (0 : Int) < (gF (fnums ps) : Int) := by omega
    generalize (gF (fnums ps) : Int) = g at *
    have h2 : g * (t * a) = a * a * q := by grind
    have h3 : 0 < a * a := by
      rcases Int.lt_or_lt_of_ne hz with h | h
      · exact Int.mul_pos_of_neg_of_neg h h
      · exact Int.mul_pos h h
    have h4 : 0 < g * (t * a) := by rw [h2]; exact Int.mul_pos h3 q0
    exact Int.pos_of_mul_pos_right h4 hg0
  · exact absurd h1 hg
theorem told_cross {ps : List Fq} (h : GP ps) {l k : Nat} (hl : l < ps.length) (hk : k < ps.length) (hz : (ps.getD l (0, 1)).1 ≠ 0) :
    nrm ((ps.getD k (0, 1)).1 * (toldF ps).getD l 0) (ps.getD k (0, 1)).2 = nrm ((toldF ps).getD k 0 * (ps.getD l (0, 1)).1) (ps.getD l (0, 1)).2 := by
  have hg := told_nz h hl hz
  have d1 := fr_ne (h.get k).2
  have d2 := fr_ne (h.get l).2
  refine nrm_congr d1 d2 ?_
  rcases told_get hl with h1 | h1
  · rcases told_get hk with h2 | h2
    · rw [fnums_get hl] at h1
      rw [fnums_get hk] at h2
      obtain ⟨q, q0, q1, q2⟩ := lcm_at h hl
      obtain ⟨r, r0, r1, r2⟩ := lcm_at h hk
      rw [q2] at h1
      rw [r2] at h2
      generalize (toldF ps).getD l 0 = tl at *
      generalize (toldF ps).getD k 0 = tk at *
      have hg0 : (gF (fnums ps) : Int) ≠ 0 := by omega
      generalize (gF (fnums ps) : Int) = g at *
      generalize ps.getD l (0, 1) = pl at *
      generalize ps.getD k (0, 1) = pk at *
      generalize lcmF ps = c at *
      have e : g * (pk.1 * tl * pl.2) = g * (tk * pl.1 * pk.2) := by
        have e1 : g * (pk.1 * tl * pl.2) = pk.1 * (g * tl) * pl.2 := by grind
        have e2 : g * (tk * pl.1 * pk.2) = (g * tk) * pl.1 * pk.2 := by grind
        rw [e1, e2, h1, h2]
        have e3 : pk.1 * (pl.1 * q) * pl.2 = pk.1 * pl.1 * (pl.2 * q) := by grind
        have e4 : pk.1 * r * pl.1 * pk.2 = pk.1 * pl.1 * (pk.2 * r) := by grind
        rw [e3, e4, ← q1, ← r1]
      exact Int.eq_of_mul_eq_mul_left hg0 e
    · exact absurd h2 hg
  · exact absurd h1 hg
theorem told_sm {n : Nat} (hn : 2 ^ 2000 ≤ n) {ps : List Fq} (h : GP ps) (hl : ps.length ≤ 8) : ∀ x ∈ toldF ps, Sm 100 x := fun x hx => by
  unfold toldF at hx
  split at hx
  · exact fnums_sm hn h hl x hx
  · obtain ⟨y, hy, rfl⟩ := List.mem_map.mp hx
    have h1 := fnums_sm hn h hl y hy
    have := Int.natAbs_ediv_le_natAbs y (gF (fnums ps) : Int)
    unfold Sm at *
    omega
/-! ### the least, from above -/
def lsF (b x : Fq) : Fq := if x.1 * b.2 < b.1 * x.2 then x else b
theorem above_eq {p : Fq} (h : Fr p) : 0 - (0 - p.1) / p.2 = p.1 / p.2 + if 1 < p.2 then 1 else 0 := by
  obtain ⟨a, b⟩ := p
  obtain ⟨h1, h2⟩ := h
  simp only at h1 h2 ⊢
  have e1 := Int.mul_ediv_add_emod a b
  have e2 := Int.mul_ediv_add_emod (0 - a) b
  have m1 := Int.emod_nonneg a (show b ≠ 0 by omega)
  have m2 := Int.emod_lt_of_pos a h1
  have m3 := Int.emod_nonneg (0 - a) (show b ≠ 0 by omega)
  have m4 := Int.emod_lt_of_pos (0 - a) h1
  by_cases hb : b = 1
  · subst hb
    simp
  · have hb1 : 1 < b := by omega
    rw [if_pos hb1]
    have hne : a % b ≠ 0 := by
      intro e
      have hd : b ∣ a := Int.dvd_of_emod_eq_zero e
      have : Int.gcd a b = b.natAbs := by
        rw [Int.gcd_comm]
        exact Int.gcd_eq_natAbs_left_iff_dvd.mpr hd
      omega
    generalize a / b = x at *
    generalize (0 - a) / b = y at *
    generalize a % b = r at *
    generalize (0 - a) % b = s at *
    have e3 : b * (x + y) = 0 - (r + s) := by grind
    have : x + y = -1 := by
      have h5 : b * (x + y) < 0 := by omega
      have h6 : -(2 * b) < b * (x + y) := by omega
      have h7 : x + y < 0 := by
        rcases (by omega : x + y < 0 ∨ 0 ≤ x + y) with h | h
        · exact h
        · have := Int.mul_nonneg (show 0 ≤ b by omega) h; omega
      have h8 : -2 < x + y := by
        rcases (by omega : -2 < x + y ∨ x + y ≤ -2) with h | h
        · exact h
        · have := Int.mul_le_mul_of_nonneg_left h (show 0 ≤ b by omega)
          have e : b * -2 = -(2 * b) := by grind
          omega
      omega
    omega

/-! ### the law's reckoning, row by row -/
theorem fadd_one {p : Fq} (h : Fr p) : fadd (0, 1) p = p := by
  have e1 : (0 : Int) * p.2 + p.1 * 1 = p.1 := by omega
  have e2 : (1 : Int) * p.2 = p.2 := by omega
  show nrm (0 * p.2 + p.1 * 1) (1 * p.2) = p
  rw [e1, e2, nrm_self h]
section
variable {n : Nat} (hn : 2 ^ 2000 ≤ n)
abbrev rE (a1 a2 a3 a4 a5 a6 a7 a8 a9 a10 a11 : SV) : EnvD := [.st, a1, a2, a3, a4, a5, a6, a7, a8, a9, a10, a11, .no, .no]
abbrev rE0 : EnvD := rE .no .no .no .no .no .no .no .no .no .no .no
abbrev rE2 (p q : Fq) (a b : Int) : EnvD := rE .no .no .no .no .no .no (.d (oF p)) (.d (oF q)) (.d (.int a)) (.d (.int b)) .no
theorem r1 {S : StD} (h : Good S) : ∃ p q S', z_law_reckons_1 n rE0 S = .nx (rE .no .no .no .no .no .no (.d (oF p)) (.d (oF q)) .no .no .no) S' ∧ Sf 10 p ∧ Fr p ∧ Sf 10 q ∧ Fr q ∧ Good S' := by
  obtain ⟨p, S1, e1, a1, a2, g1⟩ := drawn_ok (n := n) h
  obtain ⟨q, S2, e2, b1, b2, g2⟩ := drawn_ok (n := n) g1
  refine ⟨p, q, S2, ?_, a1, a2, b1, b2, g2⟩
  clear h g1 g2 a1 a2 b1 b2
  unfold z_law_reckons_1
  walk_at "ev"
theorem r2 {S : StD} (h : Good S) (p q : Fq) : ∃ a b S', z_law_reckons_2 n (rE .no .no .no .no .no .no (.d (oF p)) (.d (oF q)) .no .no .no) S = .nx (rE2 p q a b) S' ∧ a.natAbs ≤ 20 ∧ b ≠ 0 ∧ b.natAbs ≤ 7 ∧ Good S' := by
  obtain ⟨a, S1, e1, a0, a1, g1⟩ := take_ok h (most := 41) (by decide) (by decide) n
  obtain ⟨b, S2, hb, e2, g2⟩ := pick_ok (n := n) (xs := [.int 1, .int (-2), .int 3, .int 6, .int (-7)]) g1 (by simp) (by simp)
  obtain ⟨b', rfl, b0, b1⟩ : ∃ b' : Int, b = .int b' ∧ b' ≠ 0 ∧ b'.natAbs ≤ 7 := by
    simp only [List.mem_cons, List.not_mem_nil, or_false] at hb
    rcases hb with rfl | rfl | rfl | rfl | rfl <;> exact ⟨_, rfl, by decide, by decide⟩
  refine ⟨a - 20, b', S2, ?_, by omega, b0, b1, g2⟩
  clear h g1 g2 hb a0 a1 b0 b1
  unfold z_law_reckons_2
  walk_at "ev"
theorem sm_of {i : Int} {k : Nat} (h : i.natAbs ≤ 1000) : Sm (k + 10) i := (show Sm 10 i by unfold Sm; rw [show 2 ^ 10 = 1024 by decide]; omega).mono (by omega)
include hn
theorem r3 {S : StD} {p q : Fq} {a b : Int} (hp : Sf 10 p) (fp : Fr p) (hq : Sf 10 q) (fq : Fr q) (ha : a.natAbs ≤ 20) (hb : b ≠ 0) (hb2 : b.natAbs ≤ 7) : z_law_reckons_3 n (rE2 p q a b) S = .nx (rE2 p q a b) S := by
  have e1 := part_eq hn S (sm_of (k := 1990) (i := a) (by omega)) (sm_of (k := 1990) (i := b) (by omega)) hb
  have e2 := law_fr_eq (n := n) S (sm_of (k := 1890) (i := a) (by omega)) (sm_of (k := 1890) (i := b) (by omega)) hb
  have hp' : Q9 p := hp.mono (by decide)
  have hq' : Q9 q := hq.mono (by decide)
  have e3 := plus_eq hn S hp' hq' (fr_ne fp) (fr_ne fq)
  have e4 := law_add_eq (n := n) S hp' hq' (fr_ne fp) (fr_ne fq)
  have e5 := minus_eq hn S hp' hq' (fr_ne fp) (fr_ne fq)
  have e6 := law_sub_eq (n := n) S hp' hq' (fr_ne fp) (fr_ne fq)
  have e7 := times_eq hn S hp' hq' (fr_ne fp) (fr_ne fq)
  have e8 := law_mul_eq (n := n) S hp' hq' (fr_ne fp) (fr_ne fq)
  clear hp hq fp fq ha hb hb2 hn hp' hq'
  unfold z_law_reckons_3
  walk_at "ev"
theorem r4 {S : StD} {p q : Fq} {a b : Int} (hp : Sf 10 p) (fp : Fr p) (hq : Sf 10 q) : z_law_reckons_4 n (rE2 p q a b) S = .nx (rE2 p q a b) S := by
  unfold z_law_reckons_4
  by_cases h0 : q.1 = 0
  · clear hn hp fp hq
    walk_at "ev"
  · have h1 : (q.1 == 0) = false := by simpa using h0
    have e1 := over_eq hn S (hp.mono (k := 900) (by decide)) (hq.mono (k := 900) (by decide)) (fr_ne fp) h0
    have m1 := mul_ok (big_of hp.1) (big_of hq.2)
    have m2 := mul_ok (big_of hp.2) (big_of hq.1)
    have e2 : fn_law_fr n [.d (.int (p.1 * q.2)), .d (.int (p.2 * q.1))] S = .ok (.d (oF (fdiv p q))) S := law_fr_eq (n := n) S ((hp.1.mul hq.2).mono (by decide)) ((hp.2.mul hq.1).mono (by decide)) (Int.mul_ne_zero (fr_ne fp) h0)
    clear hn hp fp hq h0
    walk_at "ev"
theorem r5 {S : StD} {p q : Fq} {a b : Int} (hp : Sf 10 p) (fp : Fr p) (hq : Sf 10 q) : z_law_reckons_5 n (rE2 p q a b) S = .nx (rE2 p q a b) S := by
  have e1 := is_less_eq (n := n) S (hp.mono (k := 900) (by decide)) (hq.mono (k := 900) (by decide))
  have e2 := law_sign_eq (n := n) S (hp.mono (k := 900) (by decide)) (hq.mono (k := 900) (by decide))
  have e3 := is_whole_part_eq (n := n) S p
  have e4 := whole_below_eq (n := n) S (hp.mono (k := 900) (by decide)) fp.1
  have e5 := fdiv_ok (i := p.1) fp.1 (big9_of hp.2)
  have e6 : decide (sgn (p.1 * q.2 - q.1 * p.2) < 0) = decide (p.1 * q.2 < q.1 * p.2) := by
    rw [decide_eq_decide, sgn_neg]
    omega
  rw [← e6] at e1
  generalize sgn (p.1 * q.2 - q.1 * p.2) = z at *
  generalize p.1 / p.2 = y at *
  clear hn hp fp hq e6
  unfold z_law_reckons_5
  walk_at "ev"
theorem r6 {S : StD} {p q : Fq} {a b : Int} (hp : Sf 10 p) (fp : Fr p) (hq : Sf 10 q) (fq : Fr q) : z_law_reckons_6 n (rE2 p q a b) S = .nx (rE2 p q a b) S := by
  have hp' : Q9 p := hp.mono (by decide)
  have hq' : Q9 q := hq.mono (by decide)
  have e1 := whole_above_eq (n := n) S hp' fp.1
  rw [above_eq fp] at e1
  have e2 := fdiv_ok (i := p.1) fp.1 (big9_of hp.2)
  have e3 := total_eq hn S (m := 10) (ps := [p, q, p]) (fun r hr => by
    simp only [List.mem_cons, List.not_mem_nil, or_false] at hr
    rcases hr with rfl | rfl | rfl
    · exact ⟨hp, fr_ne fp⟩
    · exact ⟨hq, fr_ne fq⟩
    · exact ⟨hp, fr_ne fp⟩) (by simp)
  have e4 := total_eq hn S (m := 10) (ps := []) (fun r hr => absurd hr (by simp)) (by simp)
  have e5 := law_add_eq (n := n) S hp' hq' (fr_ne fp) (fr_ne fq)
  have s1 := fadd_sf hp hq
  have e6 := law_add_eq (n := n) S (p := fadd p q) (q := p) (s1.mono (by decide)) hp' (fr_ne (fadd_fr fp fq)) (fr_ne fp)
  have e7 := fadd_one fp
  simp only [List.map_cons, List.map_nil, List.foldl_cons, List.foldl_nil, e7] at e3 e4
  have e8 := neF (0, 1) (0, 1)
  have e9 : oF (0, 1) = .tuple [.int 0, .int 1] := rfl
  rw [e9] at e4 e8
  generalize fadd (fadd p q) p = z1 at *
  generalize fadd p q = z2 at *
  generalize p.1 / p.2 = y at *
  clear hn hp fp hq fq hp' hq' s1 e7 e9
  unfold z_law_reckons_6
  by_cases h1 : 1 < p.2 <;> walk_at "ev"
omit hn
abbrev rE3 (p q : Fq) (a b : Int) (ps : List Fq) (a2 a3 a4 a5 : SV) : EnvD := rE (.d (.list (ps.map oF))) a2 a3 a4 a5 .no (.d (oF p)) (.d (oF q)) (.d (.int a)) (.d (.int b)) .no
theorem r7 {S : StD} (h : Good S) (p q : Fq) (a b : Int) : ∃ ps S', z_law_reckons_7 n (rE2 p q a b) S = .nx (rE3 p q a b ps .no .no .no .no) S' ∧ ps.length = 4 ∧ GP ps ∧ Good S' := by
  have h4 := rng1_ok 4 (sz_le (by decide))
  rw [show ((4 : Nat) : Int) = 4 from rfl] at h4
  obtain ⟨ys, S1, a1, a2, a3, g1⟩ := draws_lc (T := .nm 12) (fe := (fFz (fCall 1 (fn_law_drawn n) (fCons (fFz (fVar 0)) fNil)))) (env0 := rE2 p q a b) (fun y => ∃ p, y = oF p ∧ Sf 10 p ∧ Fr p) (rngD 0 1 4) h fun x S hx g => by
    obtain ⟨r, S', e, r0, r1, g'⟩ := drawn_ok (n := n) g
    refine ⟨[.st, .no, .no, .no, .no, .no, .no, .d (oF p), .d (oF q), .d (.int a), .d (.int b), .no, .d x, .no], oF r, S', rfl, ?_, ⟨r, rfl, r0, r1⟩, g'⟩
    clear g g' r0 r1 hx h4 h
    walk_at "ev"
  obtain ⟨ps, rfl, h5, h6⟩ : ∃ ps : List Fq, ys = ps.map oF ∧ ps.length = ys.length ∧ GP ps := by
    clear a1 a3
    induction ys with
    | nil => exact ⟨[], rfl, rfl, fun p hp => absurd hp (by simp)⟩
    | cons y ys ih =>
      obtain ⟨p, rfl, h1, h2⟩ := a2 y List.mem_cons_self
      obtain ⟨ps, e, h3, h4⟩ := ih fun z hz => a2 z (List.mem_cons_of_mem _ hz)
      subst e
      refine ⟨p :: ps, rfl, by rw [List.length_cons, List.length_cons, List.length_map], fun q hq => ?_⟩
      rcases List.mem_cons.mp hq with rfl | hq
      · exact ⟨h1, h2⟩
      · exact h4 q hq
  refine ⟨ps, S1, ?_, by rw [h5, a3]; simp [rngD], h6, g1⟩
  clear h g1 a2 a3 h5 h6
  unfold z_law_reckons_7
  walk_at "ev"
end

section
variable {n : Nat} (hn : 2 ^ 2000 ≤ n)
def lsL (ps : List Fq) : Fq := ps.foldl lsF (ps.getD 0 (0, 1))
def leadL (ps : List Fq) : List Nat := (List.range 4).filter fun k => !((ps.getD k (0, 1)).1 == 0)
def ldD (ps : List Fq) : D := .list ((leadL ps).map fun (k : Nat) => PyData.int (k : Int))
theorem r8 {S : StD} {p q : Fq} {a b : Int} {ps : List Fq} (h : ps.length = 4) : z_law_reckons_8 n (rE3 p q a b ps .no .no .no .no) S = .nx (rE3 p q a b ps (.d (oF (ps.getD 0 (0, 1)))) .no .no .no) S := by
  have e : atI (ps.map oF) 0 = some (oF (ps.getD 0 (0, 1))) := atI_map (f := oF) (xs := ps) (0, 1) (k := 0) (by omega)
  unfold z_law_reckons_8
  clear h
  walk_at "ev"
theorem ls_go {S : StD} {p q : Fq} {a b : Int} {ps : List Fq} (a4 a5 : SV) : ∀ (xs : List Fq) (c : Fq) (t : SV), Sf 10 c → (∀ x ∈ xs, Sf 10 x) → ∃ t', forGo (.nm 3) (fSet 2 (fFz (fIf (fB (f2 opLt (fCall 2 (fn_law_sign n) (fCons (fFz (fVar 3)) (fCons (fFz (fVar 2)) fNil))) (fC (.int 0)))) (fVar 3) (fVar 2)))) (xs.map oF) (rE3 p q a b ps (.d (oF c)) t a4 a5) S =
    .nx (rE3 p q a b ps (.d (oF (xs.foldl lsF c))) t' a4 a5) S := by
  intro xs
  induction xs with
  | nil => intro c t _ _; exact ⟨t, rfl⟩
  | cons x xs ih =>
    intro c t hc hx
    have h1 := hx x List.mem_cons_self
    have e1 := law_sign_eq (n := n) S (h1.mono (k := 900) (by decide)) (hc.mono (k := 900) (by decide))
    have hl : Sf 10 (lsF c x) := by unfold lsF; split <;> assumption
    obtain ⟨t', ih⟩ := ih (lsF c x) (.d (oF x)) hl fun y hy => hx y (List.mem_cons_of_mem _ hy)
    refine ⟨t', ?_⟩
    rw [List.map_cons, forGo, List.foldl_cons, ← ih]
    have e2 : sgn (x.1 * c.2 - c.1 * x.2) < 0 ↔ x.1 * c.2 < c.1 * x.2 := by rw [sgn_neg]; omega
    clear ih hl hc hx h1
    by_cases h2 : x.1 * c.2 < c.1 * x.2
    · have e3 : lsF c x = x := if_pos h2
      have e4 := e2.mpr h2
      clear e2
      generalize sgn (x.1 * c.2 - c.1 * x.2) = z at *
      rw [e3]
      walk_at "ev"
    · have e3 : lsF c x = c := if_neg h2
      have e4 : ¬ _ := fun z => h2 (e2.mp z)
      clear e2
      generalize sgn (x.1 * c.2 - c.1 * x.2) = z at *
      rw [e3]
      walk_at "ev"
theorem r9 {S : StD} {p q : Fq} {a b : Int} {ps : List Fq} (h : ps.length = 4) (hg : GP ps) : ∃ t, z_law_reckons_9 n (rE3 p q a b ps (.d (oF (ps.getD 0 (0, 1)))) .no .no .no) S = .nx (rE3 p q a b ps (.d (oF (lsL ps))) t .no .no) S := by
  obtain ⟨t, e⟩ := ls_go (n := n) (S := S) (p := p) (q := q) (a := a) (b := b) (ps := ps) .no .no ps (ps.getD 0 (0, 1)) .no (hg.get 0).1 fun x hx => (hg x hx).1
  change _ = SR.nx (rE3 p q a b ps (.d (oF (lsL ps))) t .no .no) S at e
  refine ⟨t, ?_⟩
  generalize lsL ps = z at *
  generalize ps.getD 0 (0, 1) = y at *
  clear h hg
  unfold z_law_reckons_9
  walk_at "ev"
include hn
theorem r10 {S : StD} {p q : Fq} {a b : Int} {ps : List Fq} (h : ps.length = 4) (hg : GP ps) (a2 a3 : SV) : z_law_reckons_10 n (rE3 p q a b ps a2 a3 .no .no) S = .nx (rE3 p q a b ps a2 a3 (.d (.tuple ((toldF ps).map .int))) .no) S := by
  have e := scaled_eq hn S hg (by omega)
  generalize (toldF ps).map PyData.int = z at *
  clear hn h hg
  unfold z_law_reckons_10
  walk_at "ev"
omit hn
theorem r11 {S : StD} {p q : Fq} {a b : Int} {ps : List Fq} (h : ps.length = 4) (a2 a3 a4 : SV) : z_law_reckons_11 n (rE3 p q a b ps a2 a3 a4 .no) S = .nx (rE3 p q a b ps a2 a3 a4 (.d (ldD ps))) S := by
  have h4 := rng1_ok 4 (sz_le (by decide))
  rw [show ((4 : Nat) : Int) = 4 from rfl] at h4
  have h5 := lc_rng (T := .nm 12) (ft := (fB (f2 opNe (f2 opIx (f2 opIx (fVar 1) (fVar 12)) (fC (.int 0))) (fC (.int 0))))) (fe := (fFz (fVar 12))) (env0 := rE3 p q a b ps a2 a3 a4 .no) (S := S) 4 (fun k => !((ps.getD k (0, 1)).1 == 0)) (fun k => .int (k : Int)) fun k hk => by
    have e := atI_map (f := oF) (xs := ps) (0, 1) (k := k) (by omega)
    refine ⟨[.st, .d (.list (ps.map oF)), a2, a3, a4, .no, .no, .d (oF p), .d (oF q), .d (.int a), .d (.int b), .no, .d (.int k), .no], rfl, ?_, ?_⟩
    · clear h h4
      walk_at "ev"
    · intro _
      clear h h4 e
      walk_at "ev"
  have e5 : ldD ps = .list (((List.range 4).filter fun k => !((ps.getD k (0, 1)).1 == 0)).map fun (k : Nat) => PyData.int (k : Int)) := rfl
  rw [e5]
  generalize ((List.range 4).filter fun k => !((ps.getD k (0, 1)).1 == 0)).map (fun (k : Nat) => PyData.int (k : Int)) = z at *
  clear h e5
  unfold z_law_reckons_11
  walk_at "ev"
theorem lo_go {S : StD} (r : SV) : ∀ (xs : List Fq) (c : Fq) (t : SV), Sf 10 c → (∀ x ∈ xs, Sf 10 x) → ∃ t', forGo (.nm 2) (fIfS (fOr (fB (f2 (isN false) (fVar 1) (fC .none))) (fTru (fCall 2 (fn_is_less n) (fCons (fFz (fVar 2)) (fCons (fFz (fVar 1)) fNil)))))
    (fSet 1 (fFz (fVar 2)))
    fNext) (xs.map oF) [r, .d (oF c), t] S = .nx [r, .d (oF (xs.foldl lsF c)), t'] S := by
  intro xs
  induction xs with
  | nil => intro c t _ _; exact ⟨t, rfl⟩
  | cons x xs ih =>
    intro c t hc hx
    have h1 := hx x List.mem_cons_self
    have e1 := is_less_eq (n := n) S (h1.mono (k := 900) (by decide)) (hc.mono (k := 900) (by decide))
    have hl : Sf 10 (lsF c x) := by unfold lsF; split <;> assumption
    obtain ⟨t', ih⟩ := ih (lsF c x) (.d (oF x)) hl fun y hy => hx y (List.mem_cons_of_mem _ hy)
    refine ⟨t', ?_⟩
    rw [List.map_cons, forGo, List.foldl_cons, ← ih]
    clear ih hl hc hx h1
    by_cases h2 : x.1 * c.2 < c.1 * x.2
    · have e3 : lsF c x = x := if_pos h2
      rw [e3]
      walk_at "ev"
    · have e3 : lsF c x = c := if_neg h2
      rw [e3]
      walk_at "ev"
theorem least_eq {S : StD} {ps : List Fq} (h : ps ≠ []) (hg : GP ps) : fn_least_of n [.d (.list (ps.map oF))] S = .ok (.d (oF (lsL ps))) S := by
  cases ps with
  | nil => exact absurd rfl h
  | cons p ps =>
    obtain ⟨t, e⟩ := lo_go (n := n) (S := S) (.d (.list ((p :: ps).map oF))) ps p (.d (oF p)) (hg p List.mem_cons_self).1 fun x hx => (hg x (List.mem_cons_of_mem _ hx)).1
    have e2 : lsL (p :: ps) = ps.foldl lsF p := by
      show ps.foldl lsF (lsF p p) = ps.foldl lsF p
      have : lsF p p = p := by unfold lsF; split <;> rfl
      rw [this]
    rw [e2]
    rw [List.map_cons] at e
    clear e2 hg h
    unfold fn_least_of f_least_of
    simp only [List.map_cons]
    generalize ps.foldl lsF p = z at *
    have e3 : ∀ (body : FS) (x : D) (xs : List D) (env : EnvD), forGo (.nm 2) body (x :: xs) env S = match asgT (.nm 2) x env with
      | none => .bad
      | some env1 => match body env1 S with
        | .nx e s => forGo (.nm 2) body xs e s
        | .ct e s => forGo (.nm 2) body xs e s
        | .bk e s => .nx e s
        | r => r := fun _ _ _ _ => rfl
    simp only [fnOf, fSeq, fFor]
    walk_at "ev"
theorem least_nil {S : StD} : fn_least_of n [.d (.list [])] S = .ok (.d .none) S := by
  unfold fn_least_of f_least_of
  simp only [fnOf, fSeq, fFor]
  walk_at "ev"
  simp only [forGo]
  rfl
theorem r12 {S : StD} {p q : Fq} {a b : Int} {ps : List Fq} (h : ps.length = 4) (hg : GP ps) (a3 a4 a5 : SV) : z_law_reckons_12 n (rE3 p q a b ps (.d (oF (lsL ps))) a3 a4 a5) S = .nx (rE3 p q a b ps (.d (oF (lsL ps))) a3 a4 a5) S := by
  have e := least_eq (n := n) (S := S) (ps := ps) (by intro e; subst e; simp at h) hg
  have e2 := least_nil (n := n) (S := S)
  generalize lsL ps = z at *
  clear h hg
  unfold z_law_reckons_12
  walk_at "ev"
end

section
variable {n : Nat} (hn : 2 ^ 2000 ≤ n)
def isK1 : D → Bool
  | .int k => k == 1
  | _ => false
theorem one_of : (rngD 1 1 799).filter isK1 = [.int 1] := by
  have h : rngD 1 1 799 = (List.range 799).map fun (k : Nat) => PyData.int (1 + (k : Int)) := by
    unfold rngD
    congr 1
    funext k
    rw [Int.mul_one]
  rw [h, List.filter_map]
  have h3 : (isK1 ∘ fun (k : Nat) => PyData.int (1 + (k : Int))) = fun k => k == 0 := by
    funext k
    show ((1 + (k : Int)) == 1) = (k == 0)
    rw [Bool.eq_iff_iff, beq_iff_eq, beq_iff_eq]
    omega
  rw [h3]
  have h2 : ((List.range 799).filter fun k => k == 0) = [0] := by decide +kernel
  rw [h2]
  rfl
theorem rng2_ok : rng2 [.d (.int 1), .d (.int 800)] = some (rngD 1 1 799, true) := by
  have h0 : sizeLine = 16777216 := by decide
  have h2 : lim = 4611686018427387904 := rfl
  exact if_pos ⟨by omega, by omega, by omega, by omega, by rw [h0]; decide⟩
/-- numbers that all lead -/
theorem com_inner {S : StD} {ts : List Int} {k : Nat} (hk : k ≠ 0) {env0 : EnvD} (h12 : env0[12]? = some (.d (.int (k : Int)))) (h13 : 13 < env0.length) :
    lcGo (.nm 13) (fB (f2 opNe (f2 opMod (fN opInt (fCons (fN opAbs (fCons (fVar 13) fNil)) fNil)) (fVar 12)) (fC (.int 0)))) (fFz (fVar 13)) env0 (ts.map .int) S = .ok ((ts.filter fun t => !(((t.natAbs % k : Nat) : Int) == 0)).map .int) S :=
  lc_pureF PyData.int (fun t => !(((t.natAbs % k : Nat) : Int) == 0)) PyData.int ts fun t ht => ⟨env0.set 13 (.d (.int t)), by simp [asgT, setE, h13], by
    have a1 : (env0.set 13 (.d (.int t)))[13]? = some (.d (.int t)) := by simp [h13]
    have a2 : (env0.set 13 (.d (.int t)))[12]? = some (.d (.int (k : Int))) := by simp [h12]
    have a3 := mod_okN (a := t.natAbs) hk
    generalize env0.set 13 (.d (.int t)) = e at *
    clear h12 h13 hk ht
    walk_at "ev", by
    intro _
    have a1 : (env0.set 13 (.d (.int t)))[13]? = some (.d (.int t)) := by simp [h13]
    generalize env0.set 13 (.d (.int t)) = e at *
    clear h12 h13 hk ht
    walk_at "ev"⟩
abbrev rE4 (p q : Fq) (a b : Int) (ps : List Fq) (a2 a3 a4 a5 a11 : SV) : EnvD := rE (.d (.list (ps.map oF))) a2 a3 a4 a5 .no (.d (oF p)) (.d (oF q)) (.d (.int a)) (.d (.int b)) a11
theorem common_eq {S : StD} {p q : Fq} {a b : Int} {ps : List Fq} (hg : GP ps) {l : Nat} (hl : l < ps.length) (hz : (ps.getD l (0, 1)).1 ≠ 0) (a2 a3 a5 : SV) :
    lcGo (.nm 12) (fB (f2 opEq (fN opLen (fCons (fLc [13] (.nm 13) (fIt (fVar 4)) (fB (f2 opNe (f2 opMod (fN opInt (fCons (fN opAbs (fCons (fVar 13) fNil)) fNil)) (fVar 12)) (fC (.int 0)))) (fFz (fVar 13))) fNil)) (fC (.int 0)))) (fFz (fVar 12))
      (rE3 p q a b ps a2 a3 (.d (.tuple ((toldF ps).map .int))) a5) (rngD 1 1 799) S = .ok [.int 1] S := by
  have main := lc_pure (T := .nm 12) (ft := (fB (f2 opEq (fN opLen (fCons (fLc [13] (.nm 13) (fIt (fVar 4)) (fB (f2 opNe (f2 opMod (fN opInt (fCons (fN opAbs (fCons (fVar 13) fNil)) fNil)) (fVar 12)) (fC (.int 0)))) (fFz (fVar 13))) fNil)) (fC (.int 0))))) (fe := fFz (fVar 12))
    (env0 := rE3 p q a b ps a2 a3 (.d (.tuple ((toldF ps).map .int))) a5) (S := S) isK1 id (rngD 1 1 799) fun x hx => by
      obtain ⟨k, rfl, hk⟩ : ∃ k : Nat, x = .int (k : Int) ∧ k ≠ 0 := by
        unfold rngD at hx
        obtain ⟨j, hj, rfl⟩ := List.mem_map.mp hx
        exact ⟨1 + j, by congr 1; omega, by omega⟩
      refine ⟨[.st, .d (.list (ps.map oF)), a2, a3, .d (.tuple ((toldF ps).map .int)), a5, .no, .d (oF p), .d (oF q), .d (.int a), .d (.int b), .no, .d (.int k), .no], rfl, ?_, ?_⟩
      · have e := com_inner (S := S) (ts := toldF ps) hk (env0 := [.st, .d (.list (ps.map oF)), a2, a3, .d (.tuple ((toldF ps).map .int)), a5, .no, .d (oF p), .d (oF q), .d (.int a), .d (.int b), .no, .d (.int k), .no]) rfl (by simp)
        have e2 : (((((toldF ps).filter fun t => !(((t.natAbs % k : Nat) : Int) == 0)).map PyData.int).length : Int) == 0) = ((k : Int) == 1) := by
          rw [none_not (toldF ps) (fun t => ((t.natAbs % k : Nat) : Int) == 0) PyData.int, Bool.eq_iff_iff]
          simp only [List.all_eq_true, beq_iff_eq, Int.natCast_eq_zero]
          constructor
          · intro hd
            have := told_cop hg hl hz (d := k) fun x hx => Int.dvd_natAbs.mp (Int.natCast_dvd_natCast.mpr (Nat.dvd_of_mod_eq_zero (hd x hx)))
            omega
          · intro e x hx
            have : k = 1 := by omega
            subst this
            exact Nat.mod_one _
        have e3 : isK1 (PyData.int (k : Int)) = ((k : Int) == 1) := rfl
        rw [e3, ← e2]
        generalize ((toldF ps).filter fun t => !(((t.natAbs % k : Nat) : Int) == 0)).map PyData.int = w at *
        generalize (toldF ps).map PyData.int = v at *
        clear e2 e3 hg hl hz hk hx
        walk_at "ev"
      · intro _
        clear hg hl hz hk hx
        walk_at "ev"
        rfl
  rw [one_of, List.map_id] at main
  exact main
end

section
variable {n : Nat} (hn : 2 ^ 2000 ≤ n)
include hn
theorem r13 {S : StD} {p q : Fq} {a b : Int} {ps : List Fq} (h : ps.length = 4) (hg : GP ps) (a2 a3 : SV) : ∃ a11, z_law_reckons_13 n (rE3 p q a b ps a2 a3 (.d (.tuple ((toldF ps).map .int))) (.d (ldD ps))) S = .nx (rE4 p q a b ps a2 a3 (.d (.tuple ((toldF ps).map .int))) (.d (ldD ps)) a11) S := by
  cases hL : leadL ps with
  | nil =>
    have hz : ∀ r ∈ ps, r.1 = 0 := fun r hr => by
      obtain ⟨k, hk, rfl⟩ := List.getElem_of_mem hr
      have h1 : k ∉ leadL ps := by rw [hL]; simp
      have h2 : (ps.getD k (0, 1)).1 = 0 := by
        unfold leadL at h1
        rw [List.mem_filter] at h1
        by_cases e : (ps.getD k (0, 1)).1 = 0
        · exact e
        · exact absurd ⟨List.mem_range.mpr (by omega), by simpa using e⟩ h1
      have e : ps.getD k (0, 1) = ps[k] := by rw [List.getD_eq_getElem?_getD, List.getElem?_eq_getElem hk]; rfl
      rw [← e]; exact h2
    have e1 := told_zero hz
    rw [h] at e1
    have e2 : (toldF ps).map PyData.int = [.int 0, .int 0, .int 0, .int 0] := by rw [e1]; rfl
    have e3 : opNe (.d (.tuple [.int 0, .int 0, .int 0, .int 0])) (.d (.tuple [.int 0, .int 0, .int 0, .int 0])) = some (.d (.bool false)) := ne_same (k := 1) (Sh.tup fun x hx => by
      simp only [List.mem_cons, List.not_mem_nil, or_false] at hx
      rcases hx with rfl | rfl | rfl | rfl <;> exact .int _ _)
    have e4 : ldD ps = .list [] := by unfold ldD; rw [hL]; rfl
    refine ⟨.no, ?_⟩
    rw [e2, e4]
    clear hn hg h hL hz e1 e2 e4
    unfold z_law_reckons_13
    walk_at "ev"
  | cons l rest =>
    have hm : l ∈ leadL ps := by rw [hL]; exact List.mem_cons_self
    unfold leadL at hm
    rw [List.mem_filter] at hm
    have hl : l < ps.length := by have := List.mem_range.mp hm.1; omega
    have hz : (ps.getD l (0, 1)).1 ≠ 0 := by simpa using hm.2
    have e1 := common_eq (S := S) (p := p) (q := q) (a := a) (b := b) hg hl hz a2 a3 (.d (ldD ps))
    have e4 : ldD ps = .list (.int (l : Int) :: rest.map fun (k : Nat) => PyData.int (k : Int)) := by unfold ldD; rw [hL]; rfl
    have e5 : atI (.int (l : Int) :: rest.map fun (k : Nat) => PyData.int (k : Int)) 0 = some (.int (l : Int)) := atI0 _ _
    have ht := told_len ps
    have e6 := atI_map (f := PyData.int) (xs := toldF ps) 0 (k := l) (by omega)
    have e7 := atI_map (f := oF) (xs := ps) (0, 1) (k := l) (by omega)
    have s1 := told_sign hg hl hz
    have hts := told_sm hn hg (by omega)
    have tl_sm : ∀ k, k < 4 → Sm 100 ((toldF ps).getD k 0) := fun k hk => by
      rw [List.getD_eq_getElem?_getD, List.getElem?_eq_getElem (by omega)]
      exact hts _ (List.getElem_mem _)
    have gl := hg.get l
    have m1 := mul_ok (big_of (tl_sm l (by omega))) (big_of gl.1.1)
    have h4 := rng1_ok 4 (sz_le (by decide))
    rw [show ((4 : Nat) : Int) = 4 from rfl] at h4
    have e8 := rng2_ok
    have e9 := lc_rng (T := .nm 12) (ft := (fB (f2 opNe (fCall 2 (fn_law_fr n) (fCons (fFz (f2 opMulI (f2 opIx (f2 opIx (fVar 1) (fVar 12)) (fC (.int 0))) (f2 opIx (fVar 4) (f2 opIx (fVar 5) (fC (.int 0)))))) (fCons (fFz (f2 opIx (f2 opIx (fVar 1) (fVar 12)) (fC (.int 1)))) fNil))) (fCall 2 (fn_law_fr n) (fCons (fFz (f2 opMulI (f2 opIx (fVar 4) (fVar 12)) (f2 opIx (f2 opIx (fVar 1) (f2 opIx (fVar 5) (fC (.int 0)))) (fC (.int 0))))) (fCons (fFz (f2 opIx (f2 opIx (fVar 1) (f2 opIx (fVar 5) (fC (.int 0)))) (fC (.int 1)))) fNil)))))) (fe := (fFz (fVar 12)))
      (env0 := rE4 p q a b ps a2 a3 (.d (.tuple ((toldF ps).map .int))) (.d (ldD ps)) (.d (.list [.int 1]))) (S := S) 4 (fun _ => false) (fun k => .int (k : Int)) fun k hk => by
      refine ⟨[.st, .d (.list (ps.map oF)), a2, a3, .d (.tuple ((toldF ps).map .int)), .d (ldD ps), .no, .d (oF p), .d (oF q), .d (.int a), .d (.int b), .d (.list [.int 1]), .d (.int k), .no], rfl, ?_, fun z => by cases z⟩
      have f6 := atI_map (f := PyData.int) (xs := toldF ps) 0 (k := k) (by omega)
      have f7 := atI_map (f := oF) (xs := ps) (0, 1) (k := k) (by omega)
      have gk := hg.get k
      have m2 := mul_ok (big_of gk.1.1) (big_of (tl_sm l (by omega)))
      have m3 := mul_ok (big_of (tl_sm k hk)) (big_of gl.1.1)
      have c1 := law_fr_eq (n := n) S ((gk.1.1.mul (tl_sm l (by omega))).mono (k := 1900) (by decide)) (gk.1.2.mono (k := 1900) (by decide)) (fr_ne gk.2)
      have c2 := law_fr_eq (n := n) S (((tl_sm k hk).mul gl.1.1).mono (k := 1900) (by decide)) (gl.1.2.mono (k := 1900) (by decide)) (fr_ne gl.2)
      rw [told_cross hg hl (by omega) hz] at c1
      rw [e4]
      generalize nrm _ _ = z at *
      generalize ps.getD k (0, 1) = pk at *
      generalize ps.getD l (0, 1) = pl at *
      generalize (toldF ps).getD k 0 = tk at *
      generalize (toldF ps).getD l 0 = tl at *
      clear e1 e4 s1 hts tl_sm gl gk m1 h4 e8 hz hl hm hg h hn hL ht
      walk_at "ev"
    have e10 : ((List.range 4).filter fun _ => false).map (fun (k : Nat) => PyData.int (k : Int)) = [] := rfl
    rw [e10] at e9
    have e11 : opNe (.d (.list [.int 1])) (.own [.int 1]) = some (.d (.bool false)) := ne_lo (k := 1) (Sh.lst fun x hx => by rw [List.mem_singleton.mp hx]; exact .int _ _) (by decide)
    have e12 : ¬ ((toldF ps).getD l 0 * (ps.getD l (0, 1)).1 ≤ 0) := by omega
    rw [e4] at e1 e9 ⊢
    have e13 : ∀ m : Nat, 0 < ((m + 1 : Nat) : Int) := fun m => by omega
    refine ⟨.d (.list [.int 1]), ?_⟩
    generalize ps.getD l (0, 1) = pl at *
    generalize (toldF ps).getD l 0 = tl at *
    generalize (toldF ps).map PyData.int = tv at *
    clear e4 s1 hts tl_sm gl hz hl hm hg h hn hL ht e10
    unfold z_law_reckons_13
    walk_at "ev"
end

theorem Sh.t1 {k : Nat} {a : D} (h : Sh k a) : Sh (k + 1) (.tuple [a]) := Sh.tup fun x hx => by rw [List.mem_singleton.mp hx]; exact h
theorem Sh.t2 {k : Nat} {a b : D} (h : Sh k a) (h2 : Sh k b) : Sh (k + 1) (.tuple [a, b]) := Sh.tup fun x hx => by
  simp only [List.mem_cons, List.not_mem_nil, or_false] at hx
  rcases hx with rfl | rfl <;> assumption
theorem Sh.t3 {k : Nat} {a b c : D} (h : Sh k a) (h2 : Sh k b) (h3 : Sh k c) : Sh (k + 1) (.tuple [a, b, c]) := Sh.tup fun x hx => by
  simp only [List.mem_cons, List.not_mem_nil, or_false] at hx
  rcases hx with rfl | rfl | rfl <;> assumption
theorem Sh.l2 {k : Nat} {a b : D} (h : Sh k a) (h2 : Sh k b) : Sh (k + 1) (.list [a, b]) := Sh.lst fun x hx => by
  simp only [List.mem_cons, List.not_mem_nil, or_false] at hx
  rcases hx with rfl | rfl <;> assumption
theorem chk_loop {i : Nat} {body : FS} {S : StD} (E : SV → EnvD) (hset : ∀ t x, asgT (.nm i) x (E t) = some (E (.d x))) : ∀ (xs : List D), (∀ x ∈ xs, body (E (.d x)) S = .nx (E (.d x)) S) → ∀ t, ∃ t', forGo (.nm i) body xs (E t) S = .nx (E t') S
  | [], _, t => ⟨t, rfl⟩
  | x :: xs, h, t => by
    obtain ⟨t', h2⟩ := chk_loop E hset xs (fun y hy => h y (List.mem_cons_of_mem _ hy)) (.d x)
    exact ⟨t', by simp only [forGo, hset, h x List.mem_cons_self, h2]⟩
theorem cutL_mem {α : Type} {xs : List α} {lo hi : Option Int} {x : α} (h : x ∈ cutL xs lo hi) : x ∈ xs := List.mem_of_mem_drop (List.mem_of_mem_take h)
theorem cutL_len {α : Type} (xs : List α) (lo hi : Option Int) : (cutL xs lo hi).length ≤ xs.length := by
  unfold cutL
  rw [List.length_take, List.length_drop]
  omega
section
variable {n : Nat} (hn : 2 ^ 2000 ≤ n)
abbrev rE5 (p q : Fq) (a b : Int) (ps : List Fq) (a2 a3 a4 a5 a6 a11 : SV) : EnvD := rE (.d (.list (ps.map oF))) a2 a3 a4 a5 a6 (.d (oF p)) (.d (oF q)) (.d (.int a)) (.d (.int b)) a11
def v14 (p : Fq) (a b : Int) : List D := [.tuple [.int a, .int b], oF p, .list [.int p.1, .int p.2], .tuple [.int a, .int 0], .tuple [.int a], .tuple [.int p.1, .int p.2, .int 1], .none, .tuple [.bool true, .int 2], .tuple [.int p.1, .bool true], .tuple [.int (2 * a), .int 2]]
include hn
theorem r14 {S : StD} {p q : Fq} {a b : Int} {ps : List Fq} (hp : Sf 10 p) (ha : a.natAbs ≤ 20) (hb : b.natAbs ≤ 7) (a2 a3 a4 a5 a11 : SV) : ∃ t, z_law_reckons_14 n (rE4 p q a b ps a2 a3 a4 a5 a11) S = .nx (rE5 p q a b ps a2 a3 a4 a5 t a11) S := by
  have hs : ∀ x ∈ v14 p a b, Sh 3 x ∧ SmD 1900 x := fun x hx => by
    have sa : ∀ i : Int, i.natAbs ≤ 1000 → Sm 1900 i := fun i hi => sm_of (k := 1890) hi
    simp only [v14, List.mem_cons, List.not_mem_nil, or_false] at hx
    rcases hx with rfl | rfl | rfl | rfl | rfl | rfl | rfl | rfl | rfl | rfl
    · exact ⟨Sh.t2 (.int 2 _) (.int 2 _), fun x y e => by cases e; exact ⟨sa _ (by omega), sa _ (by omega)⟩⟩
    · exact ⟨oF_sh 2 p, oF_smd (hp.mono (by decide))⟩
    · exact ⟨Sh.l2 (.int 2 _) (.int 2 _), fun x y e => by cases e⟩
    · exact ⟨Sh.t2 (.int 2 _) (.int 2 _), fun x y e => by cases e; exact ⟨sa _ (by omega), sa _ (by omega)⟩⟩
    · exact ⟨Sh.t1 (.int 2 _), fun x y e => by cases e⟩
    · exact ⟨Sh.t3 (.int 2 _) (.int 2 _) (.int 2 _), fun x y e => by cases e⟩
    · exact ⟨.none 3, fun x y e => by cases e⟩
    · exact ⟨Sh.t2 (.bool 2 _) (.int 2 _), fun x y e => by cases e⟩
    · exact ⟨Sh.t2 (.int 2 _) (.bool 2 _), fun x y e => by cases e⟩
    · exact ⟨Sh.t2 (.int 2 _) (.int 2 _), fun x y e => by cases e; exact ⟨sa _ (by omega), sa _ (by omega)⟩⟩
  obtain ⟨t', h1⟩ := chk_loop (i := 6) (S := S) (body := (fIfS (fB (f2 opNe (fCall 1 (fn_is_part n) (fCons (fFz (fVar 6)) fNil)) (fCall 1 (fn_law_is_fr n) (fCons (fFz (fVar 6)) fNil))))
    (fRet (fC (.bool false)))
    fNext)) (fun t => rE5 p q a b ps a2 a3 a4 a5 t a11) (fun t x => rfl) (v14 p a b) (fun x hx => by
      obtain ⟨s1, s2⟩ := hs x hx
      have e1 := is_part_eq hn S s1 (fun u v e => ⟨(s2 u v e).1.mono (by decide), (s2 u v e).2.mono (by decide)⟩)
      have e2 := law_is_fr_eq (n := n) S s1 s2
      clear hn hp ha hb hs hx s1 s2
      walk_at "ev") .no
  refine ⟨t', ?_⟩
  have m1 := mul_ok (i := 2) (j := a) (sm_big (by decide)) (sm_big (by omega))
  have hF : opList [.d (oF p)] = some (.own [.int p.1, .int p.2]) := rfl
  unfold v14 at h1
  clear hn hp ha hb hs
  unfold z_law_reckons_14
  walk_at "ev"
def v15 (ps : List Fq) : List D := [.tuple (ps.map oF), .list (ps.map oF), .tuple (cutL (ps.map oF) (some 1) none), .tuple (cutL (ps.map oF) none (some 3) ++ [.tuple [.int 2, .int 4]]), .none, .tuple (cutL (ps.map oF) none (some 3) ++ [.none])]
theorem r15 {S : StD} {p q : Fq} {a b : Int} {ps : List Fq} (hl : ps.length = 4) (hg : GP ps) (a2 a3 a4 a5 a6 a11 : SV) : ∃ t, z_law_reckons_15 n (rE5 p q a b ps a2 a3 a4 a5 a6 a11) S = .nx (rE5 p q a b ps a2 a3 a4 a5 t a11) S := by
  have hF : ∀ y ∈ ps.map oF, Sh 2 y ∧ SmD 1900 y := fun y hy => by
    obtain ⟨r, hr, rfl⟩ := List.mem_map.mp hy
    exact ⟨oF_sh 1 r, oF_smd ((hg r hr).1.mono (by decide))⟩
  have h24 : Sh 2 (.tuple [.int 2, .int 4]) ∧ SmD 1900 (.tuple [.int 2, .int 4]) := ⟨Sh.t2 (.int 1 _) (.int 1 _), fun x y e => by cases e; exact ⟨sm_of (k := 1890) (by decide), sm_of (k := 1890) (by decide)⟩⟩
  have hN : Sh 2 PyData.none ∧ SmD 1900 .none := ⟨.none 2, fun x y e => by cases e⟩
  have gen : ∀ ys : List D, (∀ y ∈ ys, Sh 2 y ∧ SmD 1900 y) → Sh 3 (.tuple ys) ∧ ∀ xs, PyData.tuple ys = .tuple xs → ∀ y ∈ xs, SmD 1900 y := fun ys h => ⟨Sh.tup fun y hy => (h y hy).1, fun xs e y hy => by cases e; exact (h y hy).2⟩
  have hs : ∀ x ∈ v15 ps, Sh 3 x ∧ ∀ xs, x = .tuple xs → ∀ y ∈ xs, SmD 1900 y := fun x hx => by
    simp only [v15, List.mem_cons, List.not_mem_nil, or_false] at hx
    rcases hx with rfl | rfl | rfl | rfl | rfl | rfl
    · exact gen _ hF
    · exact ⟨Sh.lst fun y hy => (hF y hy).1, fun xs e => by cases e⟩
    · exact gen _ fun y hy => hF y (cutL_mem hy)
    · refine gen _ fun y hy => ?_
      rcases List.mem_append.mp hy with hy | hy
      · exact hF y (cutL_mem hy)
      · rw [List.mem_singleton.mp hy]; exact h24
    · exact ⟨.none 3, fun xs e => by cases e⟩
    · refine gen _ fun y hy => ?_
      rcases List.mem_append.mp hy with hy | hy
      · exact hF y (cutL_mem hy)
      · rw [List.mem_singleton.mp hy]; exact hN
  obtain ⟨t', h1⟩ := chk_loop (i := 6) (S := S) (body := (fIfS (fB (f2 opNe (fCall 2 (fn_are_parts n) (fCons (fFz (fVar 6)) (fCons (fC (.int 4)) fNil))) (fCall 2 (fn_law_are_frs n) (fCons (fFz (fVar 6)) (fCons (fC (.int 4)) fNil)))))
    (fRet (fC (.bool false)))
    fNext)) (fun t => rE5 p q a b ps a2 a3 a4 a5 t a11) (fun t x => rfl) (v15 ps) (fun x hx => by
      obtain ⟨s1, s2⟩ := hs x hx
      have e1 := are_parts_eq hn S (m := 4) s1 (fun xs e y hy u v e' => ⟨(s2 xs e y hy u v e').1.mono (by decide), (s2 xs e y hy u v e').2.mono (by decide)⟩)
      have e2 := law_are_frs_eq (n := n) S (m := 4) s1 s2
      clear hn hl hg hs hx s1 s2 gen hN h24 hF
      walk_at "ev") a6
  refine ⟨t', ?_⟩
  have h0 : sizeLine = 16777216 := by decide
  have c1 := cutL_len (ps.map oF) none (some 3)
  rw [List.length_map, hl] at c1
  have m1 := addT (xs := cutL (ps.map oF) none (some 3)) (ys := [.tuple [.int 2, .int 4]]) (by simp only [List.length_singleton]; omega)
  have m2 := addT (xs := cutL (ps.map oF) none (some 3)) (ys := [.none]) (by simp only [List.length_singleton]; omega)
  unfold v15 at h1
  clear hn hl hg hs gen hN h24 hF h0 c1
  unfold z_law_reckons_15
  walk_at "ev"
theorem r16 {S : StD} {p q : Fq} {a b : Int} {ps : List Fq} (hp : Sf 10 p) (fp : Fr p) (hq : Sf 10 q) (fq : Fr q) (a2 a3 a4 a5 a6 a11 : SV) : z_law_reckons_16 n (rE5 p q a b ps a2 a3 a4 a5 a6 a11) S = .rt (.d (.bool true)) S := by
  have e1 := div_eq n S a 0 (fuel hn (by unfold Sm; simp))
  have e2 := div_eq n S 12 (-18) (fuel hn (sm_of (k := 1990) (by decide)))
  have e3 : Int.gcd a 0 = a.natAbs := by simp
  have e4 : ((Int.gcd 12 (-18) : Nat) : Int) = 6 := by decide
  rw [e3] at e1
  rw [e4] at e2
  have g1 : GN [3, -2] := fun i hi => by
    simp only [List.mem_cons, List.not_mem_nil, or_false] at hi
    rcases hi with rfl | rfl <;> exact sm_of (k := 10) (by decide)
  have g2 : GP [p, q] := fun r hr => by
    simp only [List.mem_cons, List.not_mem_nil, or_false] at hr
    rcases hr with rfl | rfl
    · exact ⟨hp, fp⟩
    · exact ⟨hq, fq⟩
  have e5 := dot_eq hn S g1 g2 (by decide) rfl
  have e6 := law_at_eq (n := n) S g1 g2 (by decide) rfl
  simp only [List.map_cons, List.map_nil] at e5 e6
  generalize dotF [3, -2] [p, q] = z at *
  clear hn hp fp hq fq e3 e4 g1 g2
  unfold z_law_reckons_16
  walk_at "ev"
theorem reckons_eq {S : StD} (h : Good S) : ∃ S', fn_law_reckons n [.st] S = .ok (.d (.bool true)) S' ∧ Good S' := by
  obtain ⟨p, q, S1, e1, p1, p2, q1, q2, g1⟩ := r1 (n := n) h
  obtain ⟨a, b, S2, e2, a1, b1, b2, g2⟩ := r2 (n := n) g1 p q
  have e3 := r3 hn (S := S2) p1 p2 q1 q2 a1 b1 b2
  have e4 := r4 hn (S := S2) (a := a) (b := b) p1 p2 q1
  have e5 := r5 hn (S := S2) (a := a) (b := b) p1 p2 q1
  have e6 := r6 hn (S := S2) (a := a) (b := b) p1 p2 q1 q2
  obtain ⟨ps, S3, e7, l4, gp, g3⟩ := r7 (n := n) g2 p q a b
  have e8 := r8 (n := n) (S := S3) (p := p) (q := q) (a := a) (b := b) l4
  obtain ⟨t3, e9⟩ := r9 (n := n) (S := S3) (p := p) (q := q) (a := a) (b := b) l4 gp
  have e10 := r10 hn (S := S3) (p := p) (q := q) (a := a) (b := b) l4 gp (.d (oF (lsL ps))) t3
  have e11 := r11 (n := n) (S := S3) (p := p) (q := q) (a := a) (b := b) l4 (.d (oF (lsL ps))) t3 (.d (.tuple ((toldF ps).map .int)))
  have e12 := r12 (n := n) (S := S3) (p := p) (q := q) (a := a) (b := b) l4 gp t3 (.d (.tuple ((toldF ps).map .int))) (.d (ldD ps))
  obtain ⟨a11, e13⟩ := r13 hn (S := S3) (p := p) (q := q) (a := a) (b := b) l4 gp (.d (oF (lsL ps))) t3
  obtain ⟨t6, e14⟩ := r14 hn (S := S3) (q := q) (b := b) (ps := ps) p1 a1 b2 (.d (oF (lsL ps))) t3 (.d (.tuple ((toldF ps).map .int))) (.d (ldD ps)) a11
  obtain ⟨t7, e15⟩ := r15 hn (S := S3) (p := p) (q := q) (a := a) (b := b) l4 gp (.d (oF (lsL ps))) t3 (.d (.tuple ((toldF ps).map .int))) (.d (ldD ps)) t6 a11
  have e16 := r16 hn (S := S3) (a := a) (b := b) (ps := ps) p1 p2 q1 q2 (.d (oF (lsL ps))) t3 (.d (.tuple ((toldF ps).map .int))) (.d (ldD ps)) t7 a11
  refine ⟨S3, ?_, g3⟩
  have main : f_law_reckons n rE0 S = .rt (.d (.bool true)) S3 := by
    rw [z_law_reckons_eq]
    rw [seq_nx e1, seq_nx e2, seq_nx e3, seq_nx e4, seq_nx e5, seq_nx e6, seq_nx e7, seq_nx e8, seq_nx e9, seq_nx e10, seq_nx e11, seq_nx e12, seq_nx e13, seq_nx e14, seq_nx e15, e16]
  show (match f_law_reckons n rE0 S with | .rt r S' => _ | .nx _ S' => _ | _ => _) = _
  rw [main]
end

/-! ### the law, row by row -/
abbrev lE (a2 a3 a4 a5 a6 a7 a8 a9 a10 a11 a12 a13 : SV) (r : List SV) : EnvD := .no :: .st :: a2 :: a3 :: a4 :: a5 :: a6 :: a7 :: a8 :: a9 :: a10 :: a11 :: a12 :: a13 :: r
abbrev n7 : List SV := [.no, .no, .no, .no, .no, .no, .no]
theorem addLO {xs ys : List D} (h : xs.length + ys.length ≤ 1000) : opAdd (.d (.list xs)) (.own ys) = some (.own (xs ++ ys)) := by
  have : sizeLine = 16777216 := by decide
  have h2 : xs.length + ys.length ≤ sizeLine := by omega
  simp [opAdd, lift2, addD, SV.rd, h2]
theorem addT' {xs ys : List D} (h : xs.length + ys.length ≤ 1000) : opAdd (.d (.tuple xs)) (.d (.tuple ys)) = some (.d (.tuple (xs ++ ys))) := addT (by rw [show sizeLine = 16777216 by decide]; omega)
theorem repT_ok (x : D) (m : Nat) (h1 : 1 ≤ m) (h2 : m ≤ 1000) : opRepT (.d (.tuple [x])) (.d (.int m)) = some (.d (.tuple (List.replicate m x))) := by
  have h : repTD (.tuple [x]) (.int m) = some (.d (.tuple (List.replicate (m : Int).toNat [x]).flatten)) := by
    unfold repTD
    exact if_pos ⟨by omega, by omega, by simp, by simp⟩
  have e : (List.replicate (m : Int).toNat [x]).flatten = List.replicate m x := by
    rw [Int.toNat_natCast]
    simp
  rw [e] at h
  exact h
theorem oR_sh (k : Nat) {r : Rw} (h : r.2.1 = "most" ∨ r.2.1 = "less" ∨ r.2.1 = "just") : Sh (k + 2) (oR r) := Sh.t3 (Sh.tup fun x hx => by
  obtain ⟨i, _, rfl⟩ := List.mem_map.mp hx
  exact .int k i) (.str _ (kind_ok h)) (.int _ _)
theorem oS_sh (k : Nat) {m : Nat} {rs : List Rw} (h : ∀ r ∈ rs, GR m r) : Sh (k + 4) (oS m rs) := Sh.t3 (sRows.mono (by omega)) (.int _ _) (Sh.tup fun x hx => by
  obtain ⟨r, hr, rfl⟩ := List.mem_map.mp hx
  exact oR_sh k (h r hr).2.2.2)
section
variable {n : Nat} (hn : 2 ^ 2000 ≤ n)
include hn
theorem l1 {S : StD} (h : Good S) : ∃ S', z_law_1 n (lE .no .no .no .no .no .no .no .no .no .no .no .no n7) S = .nx (lE .no .no .no .no .no .no .no .no .no .no .no .no n7) S' ∧ Good S' := by
  obtain ⟨S', e, g⟩ := reckons_eq hn h
  have e2 : opNe (.d (.tuple [.int 1000000, .int 24, .int 8, D_KINDS])) (.d (.tuple [.int 1000000, .int 24, .int 8, .tuple [.str "most", .str "less", .str "just"]])) = some (.d (.bool false)) := ne_same (k := 2) (Sh.tup fun x hx => by
    simp only [List.mem_cons, List.not_mem_nil, or_false] at hx
    rcases hx with rfl | rfl | rfl | rfl
    · exact .int _ _
    · exact .int _ _
    · exact .int _ _
    · exact Sh.t3 (.str _ (by decide +kernel)) (.str _ (by decide +kernel)) (.str _ (by decide +kernel)))
  refine ⟨S', ?_, g⟩
  clear hn h g
  unfold z_law_1
  walk_at "ev"
omit hn
theorem l2 {S : StD} (h : Good S) : ∃ m rs S', z_law_2 n (lE .no .no .no .no .no .no .no .no .no .no .no .no n7) S = .nx (lE (.d (oS m rs)) .no .no .no .no .no .no .no .no .no .no .no n7) S' ∧ Good S' ∧ 1 ≤ m ∧ m ≤ 4 ∧ rs.length ≤ 6 ∧ ∀ r ∈ rs, GR m r := by
  obtain ⟨m, rs, S', e, g, m1, m2, l, hr⟩ := law_system_eq (n := n) h
  refine ⟨m, rs, S', ?_, g, m1, m2, l, hr⟩
  clear h g m1 m2 l hr
  unfold z_law_2
  walk_at "ev"
abbrev lF (m : Nat) (rs : List Rw) (a3 a4 a5 a6 a7 a8 a9 a10 a11 : SV) (r : List SV) : EnvD := lE (.d (oS m rs)) a3 a4 a5 a6 a7 a8 a9 a10 a11 (.d (.int m)) (.d (.tuple (rs.map oR))) r
theorem l3 {S : StD} {m : Nat} {rs : List Rw} : z_law_3 n (lE (.d (oS m rs)) .no .no .no .no .no .no .no .no .no .no .no n7) S = .nx (lF m rs .no .no .no .no .no .no .no .no .no n7) S := by
  unfold z_law_3
  walk_at "ev"
theorem l4 {S : StD} (h : Good S) {m : Nat} {rs : List Rw} (m1 : 1 ≤ m) (m2 : m ≤ 4) (hl : rs.length ≤ 6) (hr : ∀ r ∈ rs, GR m r) : ∃ r S', z_law_4 n (lF m rs .no .no .no .no .no .no .no .no .no n7) S = .nx (lF m rs (.d (oR r)) .no .no .no .no .no .no .no .no n7) S' ∧ Good S' ∧ GR m r := by
  by_cases h0 : rs = []
  · subst h0
    refine ⟨(List.replicate m 1, "most", 3), S, ?_, h, by simp, fun i hi => by rw [List.eq_of_mem_replicate hi]; exact one_sm 19, sm_of (k := 10) (by show (3 : Int).natAbs ≤ 1000; decide), .inl rfl⟩
    have e := repT_ok (.int 1) m m1 (by omega)
    have e2 : oR (List.replicate m 1, "most", 3) = .tuple [.tuple (List.replicate m (.int 1)), .str "most", .int 3] := by simp [oR]
    rw [e2]
    clear h m1 m2 hl hr e2
    unfold z_law_4
    have e0 : List.map oR [] = [] := rfl
    walk_at "ev"
    rfl
  · have h1 : (rs.map oR) ≠ [] := by simpa using h0
    obtain ⟨x, S', hx, e, g⟩ := pick_ok (n := n) (xs := rs.map oR) h h1 (by rw [List.length_map]; omega)
    obtain ⟨r, hr2, rfl⟩ := List.mem_map.mp hx
    refine ⟨r, S', ?_, g, hr r hr2⟩
    have e3 : 0 < ((rs.map oR).length : Int) := by have := List.length_pos_iff.mpr h1; omega
    clear h m1 m2 hl hr h0 h1 hx hr2 g
    unfold z_law_4
    walk_at "ev"
end

section
variable {n : Nat}
/-- pieces of a row -/
def rL (r : Rw) : List D := [.tuple (r.1.map .int), .str r.2.1, .int r.2.2]
def vB5 (r : Rw) : List D := [.list (rL r), .tuple (cutL (rL r) none (some 2)), .tuple (PyData.list (r.1.map .int) :: cutL (rL r) (some 1) none), .tuple [.tuple (r.1.map .int), .str "least", .int r.2.2], .tuple [.tuple (r.1.map .int), .none, .int r.2.2], .tuple (cutL (rL r) none (some 2) ++ [.bool true]), .none]
def vB6 (r : Rw) : List D := [.tuple (cutL (rL r) none (some 2) ++ [.int 1000001]), .tuple (PyData.tuple (r.1.map .int ++ [.int 0]) :: cutL (rL r) (some 1) none)]
def vB7 (m : Nat) (r : Rw) : List D := [oR r, .tuple [.tuple (List.replicate m (.int 1000000)), .str "less", .int (-1000000)], .tuple (PyData.tuple (PyData.bool true :: cutL (r.1.map .int) (some 1) none) :: cutL (rL r) (some 1) none), .tuple (PyData.tuple (List.replicate m .none) :: cutL (rL r) (some 1) none)]
theorem rL_sh {r : Rw} {m : Nat} (h : GR m r) : ∀ x ∈ rL r, Sh 3 x := fun x hx => by
  simp only [rL, List.mem_cons, List.not_mem_nil, or_false] at hx
  rcases hx with rfl | rfl | rfl
  · exact Sh.tup fun y hy => by
      obtain ⟨i, _, rfl⟩ := List.mem_map.mp hy
      exact .int _ i
  · exact .str _ (kind_ok h.2.2.2)
  · exact .int _ _
theorem ints_sh (k : Nat) (ns : List Int) : ∀ x ∈ ns.map PyData.int, Sh k x := fun x hx => by
  obtain ⟨i, _, rfl⟩ := List.mem_map.mp hx
  exact .int _ i
theorem app_sh {k : Nat} {xs ys : List D} (h : ∀ x ∈ xs, Sh k x) (h2 : ∀ x ∈ ys, Sh k x) : ∀ x ∈ xs ++ ys, Sh k x := fun x hx => (List.mem_append.mp hx).elim (h x) (h2 x)
theorem cut_sh {k : Nat} {xs : List D} {lo hi : Option Int} (h : ∀ x ∈ xs, Sh k x) : ∀ x ∈ cutL xs lo hi, Sh k x := fun x hx => h x (cutL_mem hx)
theorem one_sh {k : Nat} {x : D} (h : Sh k x) : ∀ y ∈ [x], Sh k y := fun y hy => by rw [List.mem_singleton.mp hy]; exact h
theorem cons_sh {k : Nat} {x : D} {ys : List D} (h : Sh k x) (h2 : ∀ y ∈ ys, Sh k y) : ∀ y ∈ x :: ys, Sh k y := fun y hy => (List.mem_cons.mp hy).elim (fun e => e ▸ h) (h2 y)
theorem rep_sh {k m : Nat} {x : D} (h : Sh k x) : ∀ y ∈ List.replicate m x, Sh k y := fun y hy => by rw [List.eq_of_mem_replicate hy]; exact h
theorem vB_sh {m M : Nat} {r : Rw} (h : GR M r) : ∀ x ∈ (vB5 r ++ vB6 r) ++ vB7 m r, Sh 4 x := fun x hx => by
  have hr := rL_sh h
  have hi := ints_sh 2 r.1
  have sl : PyData.strOk ("least" : Str) = true := by decide +kernel
  have sl2 : PyData.strOk ("less" : Str) = true := by decide +kernel
  simp only [vB5, vB6, vB7, List.mem_append, List.mem_cons, List.not_mem_nil, or_false] at hx
  rcases hx with ((rfl | rfl | rfl | rfl | rfl | rfl | rfl) | (rfl | rfl)) | (rfl | rfl | rfl | rfl)
  · exact Sh.lst hr
  · exact Sh.tup (cut_sh hr)
  · exact Sh.tup (cons_sh (Sh.lst hi) (cut_sh hr))
  · exact Sh.t3 (Sh.tup hi) (.str _ sl) (.int _ _)
  · exact Sh.t3 (Sh.tup hi) (.none _) (.int _ _)
  · exact Sh.tup (app_sh (cut_sh hr) (one_sh (.bool _ _)))
  · exact .none _
  · exact Sh.tup (app_sh (cut_sh hr) (one_sh (.int _ _)))
  · exact Sh.tup (cons_sh (Sh.tup (app_sh hi (one_sh (.int _ _)))) (cut_sh hr))
  · exact oR_sh 2 h.2.2.2
  · exact Sh.t3 (Sh.tup (rep_sh (.int 2 _))) (.str _ sl2) (.int _ _)
  · exact Sh.tup (cons_sh (Sh.tup (cons_sh (.bool 2 _) (cut_sh hi))) (cut_sh hr))
  · exact Sh.tup (cons_sh (Sh.tup (rep_sh (.none 2))) (cut_sh hr))
theorem oR_rL (r : Rw) : oR r = .tuple (rL r) := rfl
theorem l5 {S : StD} {m : Nat} {rs : List Rw} {r : Rw} : z_law_5 n (lF m rs (.d (oR r)) .no .no .no .no .no .no .no .no n7) S = .nx (lF m rs (.d (oR r)) (.d (.list (vB5 r))) .no .no .no .no .no .no .no n7) S := by
  have c1 := cutL_len (rL r) none (some 2)
  have c2 := cutL_len (rL r) (some 1) none
  have c3 : (rL r).length = 3 := rfl
  have a1 := addT' (xs := [.list (r.1.map .int)]) (ys := cutL (rL r) (some 1) none) (by simp only [List.length_singleton]; omega)
  have a2 := addT' (xs := cutL (rL r) none (some 2)) (ys := [.bool true]) (by simp only [List.length_singleton]; omega)
  have a3 : opList [.d (oR r)] = some (.own (rL r)) := rfl
  have a4 : ∀ lo hi, slD (.d (oR r)) lo hi = some (.d (.tuple (cutL (rL r) lo hi))) := fun _ _ => rfl
  unfold vB5
  clear c1 c2 c3
  unfold z_law_5
  walk_at "ev"
theorem l6 {S : StD} {m : Nat} {rs : List Rw} {r : Rw} (hr : r.1.length ≤ 100) : z_law_6 n (lF m rs (.d (oR r)) (.d (.list (vB5 r))) .no .no .no .no .no .no .no n7) S = .nx (lF m rs (.d (oR r)) (.d (.list (vB5 r ++ vB6 r))) .no .no .no .no .no .no .no n7) S := by
  have c1 := cutL_len (rL r) none (some 2)
  have c2 := cutL_len (rL r) (some 1) none
  have c3 : (rL r).length = 3 := rfl
  have a1 := addT' (xs := [.tuple (r.1.map .int ++ [.int 0])]) (ys := cutL (rL r) (some 1) none) (by simp only [List.length_singleton]; omega)
  have a2 := addT' (xs := cutL (rL r) none (some 2)) (ys := [.int 1000001]) (by simp only [List.length_singleton]; omega)
  have a3 := addT' (xs := r.1.map .int) (ys := [.int 0]) (by simp only [List.length_singleton, List.length_map]; omega)
  have a4 : ∀ lo hi, slD (.d (oR r)) lo hi = some (.d (.tuple (cutL (rL r) lo hi))) := fun _ _ => rfl
  have a5 := addLO (xs := vB5 r) (ys := vB6 r) (by simp [vB5, vB6])
  generalize vB5 r ++ vB6 r = z at *
  generalize vB5 r = y at *
  unfold vB6 at a5
  clear c1 c2 c3 hr
  unfold z_law_6
  walk_at "ev"
theorem l7 {S : StD} {m : Nat} {rs : List Rw} {r : Rw} (m1 : 1 ≤ m) (m2 : m ≤ 4) (hl : rs.length ≤ 6) (hr : ∀ r ∈ rs, GR m r) (h : GR m r) : ∃ t, z_law_7 n (lF m rs (.d (oR r)) (.d (.list (vB5 r ++ vB6 r))) .no .no .no .no .no .no .no n7) S = .nx (lF m rs (.d (oR r)) (.d (.list (vB5 r ++ vB6 r))) t .no .no .no .no .no .no n7) S := by
  obtain ⟨t', h1⟩ := chk_loop (i := 5) (S := S) (body := (fIfS (fOr (fB (f2 opNe (fCall 2 (fn_is_row n) (fCons (fFz (fVar 5)) (fCons (fFz (fVar 12)) fNil))) (fCall 2 (fn_law_is_row n) (fCons (fFz (fVar 5)) (fCons (fFz (fVar 12)) fNil))))) (fB (f2 opNe (fCall 1 (fn_is_system n) (fCons (fFz (fTup (fCons (fC (.str "rows")) (fCons (fFz (fVar 12)) (fCons (fFz (f2 opAdd (fSl (fVar 13) fNo (fPart (fC (.int 2)))) (fTup (fCons (fFz (fVar 5)) fNil)))) fNil))))) fNil)) (fCall 1 (fn_law_is_system n) (fCons (fFz (fTup (fCons (fC (.str "rows")) (fCons (fFz (fVar 12)) (fCons (fFz (f2 opAdd (fSl (fVar 13) fNo (fPart (fC (.int 2)))) (fTup (fCons (fFz (fVar 5)) fNil)))) fNil))))) fNil)))))
    (fRet (fC (.bool false)))
    fNext)) (fun t => lF m rs (.d (oR r)) (.d (.list (vB5 r ++ vB6 r))) t .no .no .no .no .no .no n7) (fun t x => rfl) ((vB5 r ++ vB6 r) ++ vB7 m r) (fun x hx => by
      have s1 := vB_sh (m := m) h x hx
      have e1 := is_row_eq (n := n) S s1 m
      have e2 := law_is_row_eq (n := n) S s1 (by decide) m (by omega)
      have s2 : Sh 6 (.tuple [.str "rows", .int m, .tuple (cutL (rs.map oR) none (some 2) ++ [x])]) := Sh.t3 (sRows.mono (by decide)) (.int _ _) (Sh.tup (app_sh (cut_sh fun y hy => by
        obtain ⟨q, hq, rfl⟩ := List.mem_map.mp hy
        exact oR_sh 2 (hr q hq).2.2.2) (one_sh s1)))
      have e3 := is_system_eq (n := n) S s2 (by decide)
      have e4 := law_is_system_eq (n := n) S s2 (by decide)
      have c1 := cutL_len (rs.map oR) none (some 2)
      rw [List.length_map] at c1
      have e5 := addT' (xs := cutL (rs.map oR) none (some 2)) (ys := [x]) (by simp only [List.length_singleton]; omega)
      clear m1 m2 hl hr h hx s1 s2 c1
      walk_at "ev") .no
  refine ⟨t', ?_⟩
  have c1 := cutL_len (rL r) none (some 2)
  have c2 := cutL_len (rL r) (some 1) none
  have c3 : (rL r).length = 3 := rfl
  have c4 := cutL_len (r.1.map PyData.int) (some 1) none
  rw [List.length_map, h.1] at c4
  have b1 := repT_ok (.int 1000000) m m1 (by omega)
  have b2 := repT_ok .none m m1 (by omega)
  have b3 := addT' (xs := [.bool true]) (ys := cutL (r.1.map .int) (some 1) none) (by simp only [List.length_singleton]; omega)
  have b4 := addT' (xs := [.tuple (.bool true :: cutL (r.1.map .int) (some 1) none)]) (ys := cutL (rL r) (some 1) none) (by simp only [List.length_singleton]; omega)
  have b5 := addT' (xs := [.tuple (List.replicate m .none)]) (ys := cutL (rL r) (some 1) none) (by simp only [List.length_singleton]; omega)
  have a4 : ∀ lo hi, slD (.d (oR r)) lo hi = some (.d (.tuple (cutL (rL r) lo hi))) := fun _ _ => rfl
  have a5 := addLO (xs := vB5 r ++ vB6 r) (ys := vB7 m r) (by simp [vB5, vB6, vB7])
  have a6 : itD (.d (.list ((vB5 r ++ vB6 r) ++ vB7 m r))) = some ((vB5 r ++ vB6 r) ++ vB7 m r, true) := rfl
  generalize (vB5 r ++ vB6 r) ++ vB7 m r = z at *
  generalize vB5 r ++ vB6 r = y at *
  unfold vB7 at a5
  clear c1 c2 c3 c4 m1 m2 hl hr h
  unfold z_law_7
  walk_at "ev"
end

section
variable {n : Nat} (hn : 2 ^ 2000 ≤ n)
def sL (m : Nat) (rs : List Rw) : List D := [.str "rows", .int m, .tuple (rs.map oR)]
def v8 (m : Nat) (rs : List Rw) (r : Rw) : List D := [oS m rs, .list (sL m rs), .tuple (cutL (sL m rs) none (some 2)), .tuple (.str "row" :: cutL (sL m rs) (some 1) none), .tuple [.str "rows", .int m, .list (rs.map oR)], .tuple [.str "rows", .int ((m : Int) + 1), .tuple (rs.map oR ++ [oR r])], .tuple [.str "rows", .int 0, .tuple []]]
def v9 (m : Nat) (r : Rw) : List D := [.tuple [.str "rows", .int 9, .tuple []], .tuple [.str "rows", .int 8, .tuple []], .tuple [.str "rows", .bool true, .tuple []], .tuple [.str "rows", .int m, .tuple (List.replicate 25 (oR r))], .tuple [.str "rows", .int m, .tuple (List.replicate 24 (oR r))], .none]
theorem rows_sh (k : Nat) {m : Nat} {rs : List Rw} (h : ∀ r ∈ rs, GR m r) : ∀ x ∈ rs.map oR, Sh (k + 2) x := fun x hx => by
  obtain ⟨r, hr, rfl⟩ := List.mem_map.mp hx
  exact oR_sh k (h r hr).2.2.2
theorem v_sh {m : Nat} {rs : List Rw} {r : Rw} (hr : ∀ r ∈ rs, GR m r) (h : GR m r) : ∀ x ∈ v8 m rs r ++ v9 m r, Sh 5 x := fun x hx => by
  have h1 := rows_sh 1 hr
  have h2 := oR_sh 1 h.2.2.2
  have hs : ∀ x ∈ sL m rs, Sh 4 x := fun x hx => by
    simp only [sL, List.mem_cons, List.not_mem_nil, or_false] at hx
    rcases hx with rfl | rfl | rfl
    · exact sRows.mono (by decide)
    · exact .int _ _
    · exact Sh.tup h1
  have sl : PyData.strOk ("row" : Str) = true := by decide +kernel
  have s0 : Sh 4 (.str "rows") := sRows.mono (by decide)
  have e0 : Sh 4 (.tuple []) := Sh.tup (k := 3) fun x hx => absurd hx (by simp)
  simp only [v8, v9, List.mem_append, List.mem_cons, List.not_mem_nil, or_false] at hx
  rcases hx with (rfl | rfl | rfl | rfl | rfl | rfl | rfl) | (rfl | rfl | rfl | rfl | rfl | rfl)
  · exact Sh.tup hs
  · exact Sh.lst hs
  · exact Sh.tup (cut_sh hs)
  · exact Sh.tup (cons_sh (.str _ sl) (cut_sh hs))
  · exact Sh.t3 s0 (.int _ _) (Sh.lst h1)
  · exact Sh.t3 s0 (.int _ _) (Sh.tup (app_sh h1 (one_sh h2)))
  · exact Sh.t3 s0 (.int _ _) e0
  · exact Sh.t3 s0 (.int _ _) e0
  · exact Sh.t3 s0 (.int _ _) e0
  · exact Sh.t3 s0 (.bool _ _) e0
  · exact Sh.t3 s0 (.int _ _) (Sh.tup (rep_sh h2))
  · exact Sh.t3 s0 (.int _ _) (Sh.tup (rep_sh h2))
  · exact .none _
theorem l8 {S : StD} {m : Nat} {rs : List Rw} {r : Rw} (hl : rs.length ≤ 6) (a4 a5 : SV) : z_law_8 n (lF m rs (.d (oR r)) a4 a5 .no .no .no .no .no .no n7) S = .nx (lF m rs (.d (oR r)) (.d (.list (v8 m rs r))) a5 .no .no .no .no .no .no n7) S := by
  have c2 := cutL_len (sL m rs) (some 1) none
  have c3 : (sL m rs).length = 3 := rfl
  have a1 := addT' (xs := [.str "row"]) (ys := cutL (sL m rs) (some 1) none) (by simp only [List.length_singleton]; omega)
  have a2 := addT' (xs := rs.map oR) (ys := [oR r]) (by simp only [List.length_singleton, List.length_map]; omega)
  have a3 : opList [.d (oS m rs)] = some (.own (sL m rs)) := rfl
  have a6 : ∀ lo hi, slD (.d (oS m rs)) lo hi = some (.d (.tuple (cutL (sL m rs) lo hi))) := fun _ _ => rfl
  unfold v8
  clear c2 c3 hl
  unfold z_law_8
  walk_at "ev"
theorem l9 {S : StD} {m : Nat} {rs : List Rw} {r : Rw} (hr : ∀ r ∈ rs, GR m r) (h : GR m r) (a5 : SV) : ∃ t, z_law_9 n (lF m rs (.d (oR r)) (.d (.list (v8 m rs r))) a5 .no .no .no .no .no .no n7) S = .nx (lF m rs (.d (oR r)) (.d (.list (v8 m rs r))) a5 t .no .no .no .no .no n7) S := by
  obtain ⟨t', h1⟩ := chk_loop (i := 6) (S := S) (body := (fIfS (fB (f2 opNe (fCall 1 (fn_is_system n) (fCons (fFz (fVar 6)) fNil)) (fCall 1 (fn_law_is_system n) (fCons (fFz (fVar 6)) fNil))))
    (fRet (fC (.bool false)))
    fNext)) (fun t => lF m rs (.d (oR r)) (.d (.list (v8 m rs r))) a5 t .no .no .no .no .no n7) (fun t x => rfl) (v8 m rs r ++ v9 m r) (fun x hx => by
      have s1 := v_sh hr h x hx
      have e3 := is_system_eq (n := n) S s1 (by decide)
      have e4 := law_is_system_eq (n := n) S s1 (by decide)
      clear hr h hx s1
      walk_at "ev") .no
  refine ⟨t', ?_⟩
  have b1 : opRepT (.d (.tuple [oR r])) (.d (.int 25)) = some (.d (.tuple (List.replicate 25 (oR r)))) := repT_ok (oR r) 25 (by decide) (by decide)
  have b2 : opRepT (.d (.tuple [oR r])) (.d (.int 24)) = some (.d (.tuple (List.replicate 24 (oR r)))) := repT_ok (oR r) 24 (by decide) (by decide)
  have a5' := addLO (xs := v8 m rs r) (ys := v9 m r) (by simp [v8, v9])
  have a6 : itD (.d (.list (v8 m rs r ++ v9 m r))) = some (v8 m rs r ++ v9 m r, true) := rfl
  generalize v8 m rs r ++ v9 m r = z at *
  generalize v8 m rs r = y at *
  unfold v9 at a5'
  generalize List.replicate 25 (oR r) = w1 at *
  generalize List.replicate 24 (oR r) = w2 at *
  clear hr h
  unfold z_law_9
  walk_at "ev"
theorem pts_of : ∀ {ys : List D}, (∀ y ∈ ys, ∃ p, y = oF p ∧ Sf 10 p ∧ Fr p) → ∃ ps : List Fq, ys = ps.map oF ∧ ps.length = ys.length ∧ GP ps
  | [], _ => ⟨[], rfl, rfl, fun p hp => absurd hp (by simp)⟩
  | y :: ys, h => by
    obtain ⟨p, rfl, h1, h2⟩ := h y List.mem_cons_self
    obtain ⟨ps, e, h3, h4⟩ := pts_of fun z hz => h z (List.mem_cons_of_mem _ hz)
    subst e
    refine ⟨p :: ps, rfl, by rw [List.length_cons, List.length_cons, List.length_map], fun q hq => ?_⟩
    rcases List.mem_cons.mp hq with rfl | hq
    · exact ⟨h1, h2⟩
    · exact h4 q hq
theorem l10 {S : StD} (hS : Good S) {m : Nat} {rs : List Rw} {a3 a4 a5 a6 : SV} (m2 : m ≤ 4) : ∃ ps S', z_law_10 n (lF m rs a3 a4 a5 a6 .no .no .no .no .no n7) S = .nx (lF m rs a3 a4 a5 a6 (.d (.tuple (ps.map oF))) .no .no .no .no n7) S' ∧ Good S' ∧ ps.length = m ∧ GP ps := by
  obtain ⟨t, S1, e1, t0, t1, g1⟩ := take_ok hS (most := 2) (by decide) (by decide) n
  have h4 := rng1_ok m (sz_le (by omega))
  have hE : ∀ x, asgT (.nm 10) x (lF m rs a3 a4 a5 a6 .no .no .no .no .no n7) = some (lF m rs a3 a4 a5 a6 .no .no .no (.d x) .no n7) := fun x => rfl
  by_cases ht : t = 0
  · subst ht
    obtain ⟨ys, S2, b1, b2, b3, g2⟩ := draws_lc (T := .nm 10) (fe := (fFz (fCall 1 (fn_law_drawn n) (fCons (fFz (fVar 1)) fNil)))) (env0 := lF m rs a3 a4 a5 a6 .no .no .no .no .no n7) (fun y => ∃ p, y = oF p ∧ Sf 10 p ∧ Fr p) (rngD 0 1 m) g1 fun x S hx g => by
      obtain ⟨r, S', e, r0, r1, g'⟩ := drawn_ok (n := n) g
      refine ⟨_, oF r, S', hE x, ?_, ⟨r, rfl, r0, r1⟩, g'⟩
      clear g g' r0 r1 hx h4 hS e1 g1 hE
      walk_at "ev"
    obtain ⟨ps, rfl, q1, q2⟩ := pts_of b2
    refine ⟨ps, S2, ?_, g2, by rw [q1, b3]; simp [rngD], q2⟩
    clear hS m2 t0 t1 g1 hE b2 b3 g2 q1 q2
    unfold z_law_10
    walk_at "ev"
  · have ht2 : (t == 0) = false := by simpa using ht
    obtain ⟨ys, S2, b1, b2, b3, g2⟩ := draws_lc (T := .nm 10) (fe := (fFz (fTup (fCons (fFz (f2 opSub (fCall 2 (fn_law_take n) (fCons (fFz (fVar 1)) (fCons (fC (.int 9)) fNil))) (fC (.int 4)))) (fCons (fC (.int 1)) fNil))))) (env0 := lF m rs a3 a4 a5 a6 .no .no .no .no .no n7) (fun y => ∃ p, y = oF p ∧ Sf 10 p ∧ Fr p) (rngD 0 1 m) g1 fun x S hx g => by
      obtain ⟨r, S', e, r0, r1, g'⟩ := take_ok g (most := 9) (by decide) (by decide) n
      refine ⟨_, oF (r - 4, 1), S', hE x, ?_, ⟨(r - 4, 1), rfl, ⟨sm_of (k := 0) (by show (r - 4).natAbs ≤ 1000; omega), one_sm 9⟩, fr_int _⟩, g'⟩
      clear g g' r0 r1 hx h4 hS e1 g1 hE ht ht2 t0 t1
      walk_at "ev"
      rfl
    obtain ⟨ps, rfl, q1, q2⟩ := pts_of b2
    refine ⟨ps, S2, ?_, g2, by rw [q1, b3]; simp [rngD], q2⟩
    clear hS m2 t0 t1 g1 hE b2 b3 g2 q1 q2 ht
    unfold z_law_10
    walk_at "ev"
theorem l11 {S : StD} {m : Nat} {rs : List Rw} {a3 a4 a5 a6 : SV} {ps : List Fq} (m2 : m ≤ 4) (hr : ∀ r ∈ rs, GR m r) (hp : ps.length = m) (hg : GP ps) : z_law_11 n (lF m rs a3 a4 a5 a6 (.d (.tuple (ps.map oF))) .no .no .no .no n7) S = .nx (lF m rs a3 a4 a5 a6 (.d (.tuple (ps.map oF))) (.d (.bool (rs.all fun r => kR r ps))) .no .no .no n7) S := by
  have e := law_keeps_eq (n := n) S hg (by omega) (m := m) (rs := rs) (by rw [hp]; exact hr)
  clear m2 hr hp hg
  unfold z_law_11
  walk_at "ev"
include hn
theorem l12 {S : StD} {m : Nat} {rs : List Rw} {a3 a4 a5 a6 : SV} {ps : List Fq} (m2 : m ≤ 4) (hl : rs.length ≤ 6) (hr : ∀ r ∈ rs, GR m r) (hp : ps.length = m) (hg : GP ps) : z_law_12 n (lF m rs a3 a4 a5 a6 (.d (.tuple (ps.map oF))) (.d (.bool (rs.all fun r => kR r ps))) .no .no .no n7) S = .nx (lF m rs a3 a4 a5 a6 (.d (.tuple (ps.map oF))) (.d (.bool (rs.all fun r => kR r ps))) .no .no .no n7) S := by
  have hr' : ∀ r ∈ rs, GR ps.length r := by rw [hp]; exact hr
  have e1 := keeps_all_eq hn S hg (by omega) (m := m) hr'
  have e2 := tight_eq hn S hg (by omega) (m := m) hr' (by omega)
  have h4 := rng1_ok rs.length (sz_le (by omega))
  have h6 : (rs.map oR).length = rs.length := List.length_map _
  have e3 := lc_rng (T := .nm 10) (ft := (fB (f2 opEq (fCall 2 (fn_law_at n) (fCons (fFz (f2 opIx (f2 opIx (fVar 13) (fVar 10)) (fC (.int 0)))) (fCons (fFz (fVar 7)) fNil))) (fTup (fCons (fFz (f2 opIx (f2 opIx (fVar 13) (fVar 10)) (fC (.int 2)))) (fCons (fC (.int 1)) fNil)))))) (fe := (fFz (fVar 10)))
    (env0 := lF m rs a3 a4 a5 a6 (.d (.tuple (ps.map oF))) (.d (.bool (rs.all fun r => kR r ps))) .no .no .no n7) (S := S) rs.length (fun k => dotF (rs.getD k ([], "", 0)).1 ps == ((rs.getD k ([], "", 0)).2.2, 1)) (fun k => .int (k : Int)) fun k hk => by
    refine ⟨lF m rs a3 a4 a5 a6 (.d (.tuple (ps.map oF))) (.d (.bool (rs.all fun r => kR r ps))) .no (.d (.int k)) .no n7, rfl, ?_, ?_⟩
    · have f1 := atI_map (f := oR) (xs := rs) ([], "", 0) hk
      have e0 : rs.getD k ([], "", 0) = rs[k] := by simp [hk]
      have hgk := hr' _ (List.getElem_mem hk)
      rw [← e0] at hgk
      have f2' := law_at_eq (n := n) S hgk.2.1 hg (by rw [hgk.1]; omega) hgk.1.symm
      generalize rs.getD k ([], "", 0) = r at *
      have f3 : opEq (.d (oF (dotF r.1 ps))) (.d (.tuple [.int r.2.2, .int 1])) = some (.d (.bool (dotF r.1 ps == (r.2.2, 1)))) := eqF _ (r.2.2, 1)
      clear hn m2 hl hr hp hg hr' e1 e2 h4 h6 hgk e0
      walk_at "ev"
    · intro _
      clear hn m2 hl hr hp hg hr' e1 e2 h4 h6
      walk_at "ev"
  change _ = Res.ok (tgt rs ps) S at e3
  have e4 : opNe (.own (tgt rs ps)) (.own (tgt rs ps)) = some (.d (.bool false)) := ne_oo (k := 1) (Sh.lst fun x hx => by
    obtain ⟨k, _, rfl⟩ := List.mem_map.mp hx
    exact .int _ _) (by decide)
  generalize tgt rs ps = z at *
  generalize (rs.all fun r => kR r ps) = y at *
  clear hn m2 hl hr hp hg hr'
  unfold z_law_12
  walk_at "ev"
theorem l13 {S : StD} {m : Nat} {rs : List Rw} {a3 a4 a5 a6 a8 : SV} {ps : List Fq} (m2 : m ≤ 4) (hr : ∀ r ∈ rs, GR m r) (hp : ps.length = m) (hg : GP ps) : z_law_13 n (lF m rs a3 a4 a5 a6 (.d (.tuple (ps.map oF))) a8 .no .no .no n7) S = .nx (lF m rs a3 a4 a5 a6 (.d (.tuple (ps.map oF))) a8 .no .no .no n7) S := by
  have hr' : ∀ r ∈ rs, GR ps.length r := by rw [hp]; exact hr
  have e3 := lc_pureF (T := .nm 5) (ft := (fOr (fB (f2 opNe (fCall 2 (fn_keeps n) (fCons (fFz (fVar 5)) (fCons (fFz (fVar 7)) fNil))) (fCall 2 (fn_law_keeps n) (fCons (fFz (fTup (fCons (fC (.str "rows")) (fCons (fFz (fVar 12)) (fCons (fFz (fTup (fCons (fFz (fVar 5)) fNil))) fNil))))) (fCons (fFz (fVar 7)) fNil))))) (fB (f2 opNe (fCall 2 (fn_slack n) (fCons (fFz (fVar 5)) (fCons (fFz (fVar 7)) fNil))) (fCall 2 (fn_law_sub n) (fCons (fFz (fTup (fCons (fFz (f2 opIx (fVar 5) (fC (.int 2)))) (fCons (fC (.int 1)) fNil)))) (fCons (fFz (fCall 2 (fn_law_at n) (fCons (fFz (f2 opIx (fVar 5) (fC (.int 0)))) (fCons (fFz (fVar 7)) fNil)))) fNil))))))) (fe := (fFz (fVar 5)))
    (env0 := lF m rs a3 a4 .no a6 (.d (.tuple (ps.map oF))) a8 .no .no .no n7) (S := S) oR (fun _ => false) oR rs fun r hrr => by
    refine ⟨lF m rs a3 a4 (.d (oR r)) a6 (.d (.tuple (ps.map oF))) a8 .no .no .no n7, rfl, ?_, fun z => by cases z⟩
    have hgk := hr' r hrr
    have f1 := keeps_eq hn S hgk hg (by omega)
    have f2' : fn_law_keeps n [.d (.tuple [.str "rows", .int m, .tuple [oR r]]), .d (.tuple (ps.map oF))] S = .ok (.d (.bool (kR r ps && true))) S := law_keeps_eq (n := n) S hg (by omega) (m := m) (rs := [r]) (fun q hq => by rw [List.mem_singleton.mp hq]; exact hgk)
    have f3 := slack_eq hn S hgk hg (by omega)
    have f4 := law_at_eq (n := n) S hgk.2.1 hg (by rw [hgk.1]; omega) hgk.1.symm
    have d := dotF_ok hgk.2.1 hg (by rw [hgk.1]; omega)
    have f5 : fn_law_sub n [.d (.tuple [.int r.2.2, .int 1]), .d (oF (dotF r.1 ps))] S = .ok (.d (oF (slF r ps))) S := law_sub_eq (n := n) S (p := (r.2.2, 1)) (q := dotF r.1 ps) ⟨hgk.2.2.1.mono (by decide), one_sm _⟩ (d.1.mono (by decide)) (by show (1 : Int) ≠ 0; decide) (fr_ne d.2)
    generalize slF r ps = z1 at *
    generalize dotF r.1 ps = z2 at *
    generalize kR r ps = z3 at *
    clear hn m2 hr hp hg hr' hgk d hrr
    walk_at "ev"
  have e5 : (rs.filter fun _ => false).map oR = [] := by simp
  rw [e5] at e3
  clear hn m2 hr hp hg hr' e5
  unfold z_law_13
  walk_at "ev"
end

theorem cut1_len {α : Type} (xs : List α) : (cutL xs (some 1) none).length = xs.length - 1 := by
  unfold cutL
  rw [HT.sIx_none, show (some 1 : Option Int) = some ((1 : Nat) : Int) from rfl, HT.sIx_nat, List.length_take, List.length_drop]
  omega
theorem parts_app {m : Int} {ys : List D} {z : D} (h : isPartD z = false) : arePartsD m (.tuple (ys ++ [z])) = false := by
  simp only [arePartsD, List.all_append, List.all_cons, List.all_nil, h, Bool.and_false, Bool.false_and, Bool.and_true]
theorem part_yes {x : D} (h : isPartD x = true) : ∃ p : Fq, x = oF p ∧ Fr p := by
  unfold isPartD at h
  split at h
  · rename_i a b
    rw [Bool.and_eq_true, decide_eq_true_eq, beq_iff_eq] at h
    exact ⟨(a, b), rfl, by show 0 < b; omega, h.2⟩
  · cases h
theorem parts_cases {L : Nat} {x : D} (hs : ∀ xs, x = .tuple xs → ∀ y ∈ xs, SmD 10 y) : arePartsD L x = false ∨ ∃ ws : List Fq, x = .tuple (ws.map oF) ∧ GP ws ∧ ws.length = L := by
  cases e : arePartsD L x with
  | false => exact .inl rfl
  | true =>
    right
    cases x with
    | tuple xs =>
      simp only [arePartsD, Bool.and_eq_true, beq_iff_eq, List.all_eq_true] at e
      obtain ⟨ws, rfl, h1, h2⟩ := pts_of (ys := xs) fun y hy => by
        obtain ⟨p, rfl, hp⟩ := part_yes (e.2 y hy)
        exact ⟨p, rfl, hs xs rfl _ hy p.1 p.2 rfl, hp⟩
      exact ⟨ws, rfl, h2, by rw [h1]; omega⟩
    | _ => cases e
theorem smd_mono {j k : Nat} {x : D} (h : SmD j x) (hk : j ≤ k) : SmD k x := fun a b e => ⟨(h a b e).1.mono hk, (h a b e).2.mono hk⟩
section
variable {n : Nat} (hn : 2 ^ 2000 ≤ n)
def w14 (ps : List Fq) : List D := [.tuple (ps.map oF), .list (ps.map oF), .tuple (cutL (ps.map oF) (some 1) none), .none, .tuple (cutL (ps.map oF) none (some (-1)) ++ [.tuple [.int 2, .int 4]]), .tuple (cutL (ps.map oF) none (some (-1)) ++ [.int 3])]
theorem oF_all {ps : List Fq} (hg : GP ps) : ∀ y ∈ ps.map oF, Sh 2 y ∧ SmD 10 y := fun y hy => by
  obtain ⟨r, hr, rfl⟩ := List.mem_map.mp hy
  exact ⟨oF_sh 1 r, oF_smd (hg r hr).1⟩
theorem gen_tup {ys : List D} (h : ∀ y ∈ ys, Sh 2 y ∧ SmD 10 y) : Sh 3 (.tuple ys) ∧ ∀ xs, PyData.tuple ys = .tuple xs → ∀ y ∈ xs, SmD 10 y := ⟨Sh.tup fun y hy => (h y hy).1, fun xs e y hy => by cases e; exact (h y hy).2⟩
theorem gen_app {ys : List D} {z : D} (h : ∀ y ∈ ys, Sh 2 y ∧ SmD 10 y) (hz : Sh 2 z ∧ SmD 10 z) : ∀ y ∈ ys ++ [z], Sh 2 y ∧ SmD 10 y := fun y hy => (List.mem_append.mp hy).elim (h y) fun e => by rw [List.mem_singleton.mp e]; exact hz
include hn
theorem l14 {S : StD} {m : Nat} {rs : List Rw} {a3 a4 a5 a6 : SV} {ps : List Fq} (m1 : 1 ≤ m) (m2 : m ≤ 4) (hr : ∀ r ∈ rs, GR m r) (hp : ps.length = m) (hg : GP ps) : ∃ t, z_law_14 n (lF m rs a3 a4 a5 a6 (.d (.tuple (ps.map oF))) (.d (.bool (rs.all fun r => kR r ps))) .no .no .no n7) S = .nx (lF m rs a3 a4 a5 t (.d (.tuple (ps.map oF))) (.d (.bool (rs.all fun r => kR r ps))) .no .no .no n7) S := by
  have hF := oF_all hg
  have h24 : Sh 2 (.tuple [.int 2, .int 4]) ∧ SmD 10 (.tuple [.int 2, .int 4]) := ⟨Sh.t2 (.int 1 _) (.int 1 _), fun x y e => by cases e; exact ⟨sm_of (k := 0) (by decide), sm_of (k := 0) (by decide)⟩⟩
  have h3 : Sh 2 (PyData.int 3) ∧ SmD 10 (.int 3) := ⟨.int 2 _, fun x y e => by cases e⟩
  have hs : ∀ x ∈ w14 ps, (Sh 3 x ∧ ∀ xs, x = .tuple xs → ∀ y ∈ xs, SmD 10 y) ∧ (x = .tuple (ps.map oF) ∨ arePartsD m x = false) := fun x hx => by
    simp only [w14, List.mem_cons, List.not_mem_nil, or_false] at hx
    rcases hx with rfl | rfl | rfl | rfl | rfl | rfl
    · exact ⟨gen_tup hF, .inl rfl⟩
    · exact ⟨⟨Sh.lst fun y hy => (hF y hy).1, fun xs e => by cases e⟩, .inr rfl⟩
    · refine ⟨gen_tup fun y hy => hF y (cutL_mem hy), .inr ?_⟩
      have : ((((cutL (ps.map oF) (some 1) none).length : Nat) : Int) == (m : Int)) = false := by
        rw [cut1_len, List.length_map, hp, beq_eq_false_iff_ne]
        omega
      simp only [arePartsD, this, Bool.false_and]
    · exact ⟨⟨.none 3, fun xs e => by cases e⟩, .inr rfl⟩
    · exact ⟨gen_tup (gen_app (fun y hy => hF y (cutL_mem hy)) h24), .inr (parts_app (by decide))⟩
    · exact ⟨gen_tup (gen_app (fun y hy => hF y (cutL_mem hy)) h3), .inr (parts_app rfl)⟩
  obtain ⟨t', h1⟩ := chk_loop (i := 6) (S := S) (body := (fIfS (fB (f2 opNe (fCall 2 (fn_is_point n) (fCons (fFz (fVar 2)) (fCons (fFz (fVar 6)) fNil))) (fAndV (fIsi "tuple" (fVar 6)) (fAndV (fCall 2 (fn_law_are_frs n) (fCons (fFz (fVar 6)) (fCons (fFz (fVar 12)) fNil))) (fVar 8)))))
    (fRet (fC (.bool false)))
    fNext)) (fun t => lF m rs a3 a4 a5 t (.d (.tuple (ps.map oF))) (.d (.bool (rs.all fun r => kR r ps))) .no .no .no n7) (fun t x => rfl) (w14 ps) (fun x hx => by
      obtain ⟨⟨s1, s2⟩, s3⟩ := hs x hx
      have e1 := law_are_frs_eq (n := n) S (m := m) s1 fun xs e y hy => smd_mono (s2 xs e y hy) (by decide)
      have e3 := isi_t s1
      rcases s3 with rfl | s3
      · have e2 := is_point_yes hn S hg (by omega) (rs := rs) (by rw [hp]; exact hr)
        have e4 := parts_yes hg
        rw [hp] at e2 e4
        rw [e4] at e1
        have e5 : isT (.tuple (ps.map oF)) = true := rfl
        generalize (rs.all fun r => kR r ps) = z at *
        clear hn m1 m2 hr hp hg hs hx s1 s2 hF h24 h3 e4
        walk_at "ev"
      · have e2 := is_point_no hn S (rs := rs) s1 (fun xs e y hy => smd_mono (s2 xs e y hy) (by decide)) s3
        rw [s3] at e1
        generalize (rs.all fun r => kR r ps) = z at *
        clear hn m1 m2 hr hp hg hs hx s1 s2 hF h24 h3 s3
        cases e5 : isT x <;> walk_at "ev") a6
  refine ⟨t', ?_⟩
  have c1 := cutL_len (ps.map oF) none (some (-1))
  rw [List.length_map] at c1
  have b1 := addT' (xs := cutL (ps.map oF) none (some (-1))) (ys := [.tuple [.int 2, .int 4]]) (by simp only [List.length_singleton]; omega)
  have b2 := addT' (xs := cutL (ps.map oF) none (some (-1))) (ys := [.int 3]) (by simp only [List.length_singleton]; omega)
  generalize (rs.all fun r => kR r ps) = z at *
  unfold w14 at h1
  clear hn m1 m2 hr hp hg hs hF h24 h3 c1
  unfold z_law_14
  walk_at "ev"
omit hn
theorem l15 {S : StD} (hS : Good S) {m : Nat} {rs : List Rw} {a3 a4 a5 a6 a7 a8 : SV} (hl : rs.length ≤ 6) : ∃ ws S', z_law_15 n (lF m rs a3 a4 a5 a6 a7 a8 .no .no .no n7) S = .nx (lF m rs a3 a4 a5 a6 a7 a8 (.d (.tuple (ws.map oF))) .no .no n7) S' ∧ Good S' ∧ ws.length = rs.length ∧ GP ws := by
  have h4 := rng1_ok rs.length (sz_le (by omega))
  have h6 : (rs.map oR).length = rs.length := List.length_map _
  have hE : ∀ x, asgT (.nm 10) x (lF m rs a3 a4 a5 a6 a7 a8 .no .no .no n7) = some (lF m rs a3 a4 a5 a6 a7 a8 .no (.d x) .no n7) := fun x => rfl
  obtain ⟨ys, S2, b1, b2, b3, g2⟩ := draws_lc (T := .nm 10) (fe := (fFz (fCall 2 (fn_law_pick n) (fCons (fFz (fVar 1)) (fCons (fFz (fLst (fCons (fFz (fTup (fCons (fC (.int 0)) (fCons (fC (.int 1)) fNil)))) (fCons (fFz (fTup (fCons (fC (.int 1)) (fCons (fC (.int 1)) fNil)))) (fCons (fFz (fTup (fCons (fC (.int 2)) (fCons (fC (.int 3)) fNil)))) (fCons (fFz (fTup (fCons (fFz (f1 opNeg (fC (.int 1)))) (fCons (fC (.int 1)) fNil)))) fNil)))))) fNil)))))
    (env0 := lF m rs a3 a4 a5 a6 a7 a8 .no .no .no n7) (fun y => ∃ p, y = oF p ∧ Sf 10 p ∧ Fr p) (rngD 0 1 rs.length) hS fun x S hx g => by
      obtain ⟨r, S', hr, e, g'⟩ := pick_ok (n := n) (xs := [.tuple [.int 0, .int 1], .tuple [.int 1, .int 1], .tuple [.int 2, .int 3], .tuple [.int (-1), .int 1]]) g (by simp) (by simp)
      refine ⟨_, r, S', hE x, ?_, ?_, g'⟩
      · clear g g' hr hx h4 h6 hS hE hl
        walk_at "ev"
      · have sm : ∀ i : Int, i.natAbs ≤ 1000 → Sm 10 i := fun i hi => sm_of (k := 0) hi
        simp only [List.mem_cons, List.not_mem_nil, or_false] at hr
        rcases hr with rfl | rfl | rfl | rfl
        · exact ⟨(0, 1), rfl, ⟨sm _ (by decide), sm _ (by decide)⟩, by decide, by decide⟩
        · exact ⟨(1, 1), rfl, ⟨sm _ (by decide), sm _ (by decide)⟩, by decide, by decide⟩
        · exact ⟨(2, 3), rfl, ⟨sm _ (by decide), sm _ (by decide)⟩, by decide, by decide⟩
        · exact ⟨(-1, 1), rfl, ⟨sm _ (by decide), sm _ (by decide)⟩, by decide, by decide⟩
  obtain ⟨ws, rfl, q1, q2⟩ := pts_of b2
  refine ⟨ws, S2, ?_, g2, by rw [q1, b3]; simp [rngD], q2⟩
  clear hS hl hE b2 b3 g2 q1 q2
  unfold z_law_15
  walk_at "ev"
def w16 (ws : List Fq) (L : Nat) : List D := [.tuple (ws.map oF), .tuple (cutL (ws.map oF) (some 1) none), .list (ws.map oF), .none, .tuple ((List.range L).map fun (k : Nat) => if (k : Int) == 0 then .tuple [.int 1, .int 1] else .tuple [.int 0, .int 1]), .tuple (ws.map oF ++ [.tuple [.int 1, .int 2]]), .tuple (cutL (ws.map oF) none (some (-1)) ++ [.tuple [.int 0, .int 2]])]
include hn
theorem l16 {S : StD} {m : Nat} {rs : List Rw} {a3 a4 a5 a6 a7 a8 : SV} {ws : List Fq} (m2 : m ≤ 4) (hl : rs.length ≤ 6) (hr : ∀ r ∈ rs, GR m r) (hw : ws.length = rs.length) (hg : GP ws) : ∃ t, z_law_16 n (lF m rs a3 a4 a5 a6 a7 a8 (.d (.tuple (ws.map oF))) .no .no n7) S = .nx (lF m rs a3 a4 a5 t a7 a8 (.d (.tuple (ws.map oF))) .no .no n7) S := by
  have hF := oF_all hg
  have hT : ∀ i j : Int, i.natAbs ≤ 1000 → j.natAbs ≤ 1000 → Sh 2 (.tuple [.int i, .int j]) ∧ SmD 10 (.tuple [.int i, .int j]) := fun i j hi hj => ⟨Sh.t2 (.int 1 _) (.int 1 _), fun x y e => by cases e; exact ⟨sm_of (k := 0) hi, sm_of (k := 0) hj⟩⟩
  have hs : ∀ x ∈ w16 ws rs.length, Sh 3 x ∧ ∀ xs, x = .tuple xs → ∀ y ∈ xs, SmD 10 y := fun x hx => by
    simp only [w16, List.mem_cons, List.not_mem_nil, or_false] at hx
    rcases hx with rfl | rfl | rfl | rfl | rfl | rfl | rfl
    · exact gen_tup hF
    · exact gen_tup fun y hy => hF y (cutL_mem hy)
    · exact ⟨Sh.lst fun y hy => (hF y hy).1, fun xs e => by cases e⟩
    · exact ⟨.none 3, fun xs e => by cases e⟩
    · refine gen_tup fun y hy => ?_
      obtain ⟨k, _, rfl⟩ := List.mem_map.mp hy
      show Sh 2 (if _ then _ else _) ∧ SmD 10 (if _ then _ else _)
      split
      · exact hT 1 1 (by decide) (by decide)
      · exact hT 0 1 (by decide) (by decide)
    · exact gen_tup (gen_app hF (hT 1 2 (by decide) (by decide)))
    · exact gen_tup (gen_app (fun y hy => hF y (cutL_mem hy)) (hT 0 2 (by decide) (by decide)))
  obtain ⟨t', h1⟩ := chk_loop (i := 6) (S := S) (body := (fIfS (fOr (fB (f2 opNe (fCall 2 (fn_are_weights n) (fCons (fFz (fVar 2)) (fCons (fFz (fVar 6)) fNil))) (fCall 2 (fn_law_weights n) (fCons (fFz (fVar 2)) (fCons (fFz (fVar 6)) fNil))))) (fB (f2 opNe (fCall 2 (fn_is_barred n) (fCons (fFz (fVar 2)) (fCons (fFz (fVar 6)) fNil))) (fCall 2 (fn_law_bars n) (fCons (fFz (fVar 2)) (fCons (fFz (fVar 6)) fNil))))))
    (fRet (fC (.bool false)))
    fNext)) (fun t => lF m rs a3 a4 a5 t a7 a8 (.d (.tuple (ws.map oF))) .no .no n7) (fun t x => rfl) (w16 ws rs.length) (fun x hx => by
      obtain ⟨s1, s2⟩ := hs x hx
      rcases parts_cases (L := rs.length) s2 with s3 | ⟨vs, rfl, hv, hv2⟩
      · have e1 := are_weights_no hn S (m := m) (rs := rs) s1 (fun xs e y hy => smd_mono (s2 xs e y hy) (by decide)) s3
        have e2 := law_weights_no (n := n) S (m := m) (rs := rs) s1 (fun xs e y hy => smd_mono (s2 xs e y hy) (by decide)) s3
        have e3 := is_barred_no hn S e1
        have e4 := law_bars_no (n := n) S e2
        clear hn m2 hl hr hw hg hs hx s1 s2 hF hT s3
        walk_at "ev"
      · have e1 := are_weights_yes hn S hv (m := m) hr hv2 (by omega)
        have e2 := law_weights_yes (n := n) S hv (m := m) hr hv2 (by omega)
        cases hW : wOk rs vs with
        | false =>
          rw [hW] at e1 e2
          have e3 := is_barred_no hn S e1
          have e4 := law_bars_no (n := n) S e2
          clear hn m2 hl hr hw hg hs hx s1 s2 hF hT hv hv2 hW
          walk_at "ev"
        | true =>
          rw [hW] at e1 e2
          have e3 := is_barred_yes hn S hv hr hv2 (by omega) (by omega) hW
          have e4 := law_bars_yes (n := n) S hv hr hv2 (by omega) (by omega) hW
          generalize barB rs vs m = z at *
          clear hn m2 hl hr hw hg hs hx s1 s2 hF hT hv hv2 hW
          walk_at "ev") a6
  refine ⟨t', ?_⟩
  have c1 := cutL_len (ws.map oF) none (some (-1))
  rw [List.length_map] at c1
  have b1 := addT' (xs := cutL (ws.map oF) none (some (-1))) (ys := [.tuple [.int 0, .int 2]]) (by simp only [List.length_singleton]; omega)
  have b2 := addT' (xs := ws.map oF) (ys := [.tuple [.int 1, .int 2]]) (by simp only [List.length_singleton, List.length_map]; omega)
  have h4 := rng1_ok rs.length (sz_le (by omega))
  have h6 : (rs.map oR).length = rs.length := List.length_map _
  have b3 := lc_rngM (T := .nm 10) (fe := (fFz (fIf (fB (f2 opEq (fVar 10) (fC (.int 0)))) (fTup (fCons (fC (.int 1)) (fCons (fC (.int 1)) fNil))) (fTup (fCons (fC (.int 0)) (fCons (fC (.int 1)) fNil)))))) (env0 := lF m rs a3 a4 a5 a6 a7 a8 (.d (.tuple (ws.map oF))) .no .no n7) (S := S) rs.length (fun k => if (k : Int) == 0 then .tuple [.int 1, .int 1] else .tuple [.int 0, .int 1]) fun k hk => ⟨lF m rs a3 a4 a5 a6 a7 a8 (.d (.tuple (ws.map oF))) (.d (.int k)) .no n7, rfl, by
    clear hn m2 hl hr hw hg hs hF hT h1 c1 b1 b2 h4 h6 hk
    cases hk0 : ((k : Int) == 0) <;> walk_at "ev"⟩
  unfold w16 at h1
  generalize ((List.range rs.length).map fun (k : Nat) => if (k : Int) == 0 then PyData.tuple [.int 1, .int 1] else .tuple [.int 0, .int 1]) = z at *
  clear hn m2 hl hr hw hg hs hF hT c1
  unfold z_law_16
  walk_at "ev"
end

/-! ### a row turned -/
def negF (q : Fq) : Fq := (0 - q.1, q.2)
theorem negF_fr {q : Fq} (f : Fr q) : Fr (negF q) := ⟨f.1, by show Int.gcd (0 - q.1) q.2 = 1; rw [Int.zero_sub, Int.neg_gcd]; exact f.2⟩
theorem nrm_negF {a b : Int} (hb : b ≠ 0) : nrm (0 - a) b = negF (nrm a b) := by
  have f := nrm_fr (a := a) hb
  have c := nrm_cross (a := a) hb
  generalize nrm a b = q at *
  rw [← nrm_self (negF_fr f)]
  refine nrm_congr hb (fr_ne (negF_fr f)) ?_
  show (0 - a) * q.2 = (0 - q.1) * b
  grind
theorem fadd_negF {p q : Fq} (hp : p.2 ≠ 0) (hq : q.2 ≠ 0) : fadd (negF p) (negF q) = negF (fadd p q) := by
  unfold fadd
  rw [← nrm_negF (Int.mul_ne_zero hp hq)]
  have e : (0 - p.1) * q.2 + (0 - q.1) * p.2 = 0 - (p.1 * q.2 + q.1 * p.2) := by grind
  show nrm ((0 - p.1) * q.2 + (0 - q.1) * p.2) (p.2 * q.2) = _
  rw [e]
theorem fold_negF : ∀ (l : List Fq) (acc : Fq), Fr acc → (∀ p ∈ l, Fr p) → (l.map negF).foldl fadd (negF acc) = negF (l.foldl fadd acc)
  | [], _, _, _ => rfl
  | p :: l, acc, h, h2 => by
    have hp := h2 p List.mem_cons_self
    rw [List.map_cons, List.foldl_cons, List.foldl_cons, fadd_negF (fr_ne h) (fr_ne hp)]
    exact fold_negF l _ (fadd_fr h hp) fun q hq => h2 q (List.mem_cons_of_mem _ hq)
theorem dotG_negF {ns : List Int} {ps : List Fq} (hg : GP ps) (k : Nat) : dotG (ns.map fun i => 0 - i) ps k = negF (dotG ns ps k) := by
  have e : (ns.map fun i => 0 - i).getD k 0 = 0 - ns.getD k 0 := by
    rw [List.getD_eq_getElem?_getD, List.getD_eq_getElem?_getD, List.getElem?_map]
    cases ns[k]? <;> simp
  unfold dotG fmul
  rw [e]
  have hp := fr_ne (hg.get k).2
  have e2 : (ps.getD k (0, 1)).1 * (0 - ns.getD k 0) = 0 - (ps.getD k (0, 1)).1 * ns.getD k 0 := by grind
  show nrm ((ps.getD k (0, 1)).1 * (0 - ns.getD k 0)) ((ps.getD k (0, 1)).2 * 1) = _
  rw [e2]
  exact nrm_negF (Int.mul_ne_zero hp (by decide))
theorem dotF_negF {ns : List Int} {ps : List Fq} (hn : GN ns) (hg : GP ps) : dotF (ns.map fun i => 0 - i) ps = negF (dotF ns ps) := by
  unfold dotF
  rw [List.length_map]
  have e : (List.range ns.length).map (dotG (ns.map fun i => 0 - i) ps) = ((List.range ns.length).map (dotG ns ps)).map negF := by
    rw [List.map_map]
    exact List.map_congr_left fun k _ => dotG_negF hg k
  rw [e]
  exact fold_negF _ (0, 1) fr01 fun p hp => (dotG_mem hn hg p hp).2
/-- a row turned -/
def trn (r : Rw) : Rw := (r.1.map fun i => 0 - i, if r.2.1 = "most" then "less" else "most", 0 - r.2.2)
theorem trn_gr {m : Nat} {r : Rw} (h : GR m r) : GR m (trn r) := by
  refine ⟨by simp [trn, h.1], fun i hi => ?_, h.2.2.1.neg, ?_⟩
  · obtain ⟨j, hj, rfl⟩ := List.mem_map.mp hi
    exact (h.2.1 j hj).neg
  · show (if r.2.1 = "most" then ("less" : Str) else "most") = "most" ∨ (if r.2.1 = "most" then ("less" : Str) else "most") = "less" ∨ (if r.2.1 = "most" then ("less" : Str) else "most") = "just"
    split
    · exact .inr (.inl rfl)
    · exact .inl rfl
theorem trn_keeps {r : Rw} {ps : List Fq} (h : GR ps.length r) (hg : GP ps) (hl : ps.length ≤ 8) (hk : r.2.1 ≠ "just") : (kR (trn r) ps == kR r ps) = false := by
  have d := dotF_ok h.2.1 hg (by rw [h.1]; exact hl)
  have e1 : kR (trn r) ps = kb (if r.2.1 = "most" then "less" else "most") (0 - r.2.2) (negF (dotF r.1 ps)) := by
    show kb _ _ (dotF (r.1.map fun i => 0 - i) ps) = _
    rw [dotF_negF h.2.1 hg]
    rfl
  have e2 : kR r ps = kb r.2.1 r.2.2 (dotF r.1 ps) := rfl
  rw [e1, e2]
  have f := d.2
  have fn := negF_fr f
  generalize dotF r.1 ps = t at *
  obtain ⟨ns, k, b⟩ := r
  simp only at *
  have h4 : k = "most" ∨ k = "less" := by
    rcases h.2.2.2 with h | h | h
    · exact .inl h
    · exact .inr h
    · exact absurd h hk
  have n1 : (negF t).1 = 0 - t.1 := rfl
  have n2 : (negF t).2 = t.2 := rfl
  have g1 : (0 - b) * t.2 = 0 - b * t.2 := by grind
  rcases h4 with rfl | rfl
  · rw [if_pos rfl, kb_less, kb_most f, n1, n2, g1, beq_eq_false_iff_ne, ne_eq, Bool.eq_iff_iff, Bool.or_eq_true, beq_iff_eq, fr_eq_int f b, decide_eq_true_eq, decide_eq_true_eq]
    omega
  · have hne : ¬ (("less" : Str) = "most") := by decide +kernel
    rw [if_neg hne, kb_less, kb_most fn, n1, n2, g1, beq_eq_false_iff_ne, ne_eq, Bool.eq_iff_iff, Bool.or_eq_true, beq_iff_eq, fr_eq_int fn (0 - b), n1, n2, g1, decide_eq_true_eq, decide_eq_true_eq]
    omega
section
variable {n : Nat} (hn : 2 ^ 2000 ≤ n)
theorem turned_eq (S : StD) {m : Nat} {r : Rw} (h : GR m r) : fn_turned n [.d (oR r)] S = .ok (.d (oR (trn r))) S := by
  have e1 := lc_mapF (T := .nm 2) (fe := (fFz (f2 opSub (fC (.int 0)) (fVar 2)))) (env0 := [.d (oR r), .no, .no]) (S := S) PyData.int (fun i => .int (0 - i)) r.1 fun i hi => ⟨[.d (oR r), .no, .d (.int i)], rfl, by
    clear h hi
    walk_at "ev"⟩
  have e2 : r.1.map (fun i => PyData.int (0 - i)) = (r.1.map fun i => 0 - i).map PyData.int := by rw [List.map_map]; rfl
  rw [e2] at e1
  have e3 := sEq (kind_ok h.2.2.2) (b := "most") (by decide +kernel)
  have e4 : oR (trn r) = .tuple [.tuple ((r.1.map fun i => 0 - i).map .int), .str (if r.2.1 = "most" then "less" else "most"), .int (0 - r.2.2)] := rfl
  rw [e4]
  generalize (r.1.map fun i => 0 - i).map PyData.int = z at *
  clear e2 e4
  unfold fn_turned f_turned
  by_cases hk : r.2.1 = "most"
  · have h5 : (r.2.1 == "most") = true := by simpa using hk
    rw [if_pos hk]
    clear hk h
    walk_at "ev"
  · have h5 : (r.2.1 == "most") = false := by simpa using hk
    rw [if_neg hk]
    clear hk h
    walk_at "ev"
theorem with_row_eq (S : StD) {m : Nat} {rs : List Rw} {r : Rw} (hl : rs.length ≤ 6) : fn_with_row n [.d (oS m rs), .d (oR r)] S = .ok (.d (.tuple [.str "rows", .int m, .tuple (rs.map oR ++ [oR r])])) S := by
  have a2 := addT' (xs := rs.map oR) (ys := [oR r]) (by simp only [List.length_singleton, List.length_map]; omega)
  clear hl
  unfold fn_with_row f_with_row
  walk_at "ev"
theorem without_eq (S : StD) {m : Nat} {rs : List Rw} (k : Int) (hl : rs.length ≤ 6) : fn_without n [.d (oS m rs), .d (.int k)] S = .ok (.d (.tuple [.str "rows", .int m, .tuple (cutL (rs.map oR) none (some k) ++ cutL (rs.map oR) (some (k + 1)) none)])) S := by
  have c1 := cutL_len (rs.map oR) none (some k)
  have c2 := cutL_len (rs.map oR) (some (k + 1)) none
  rw [List.length_map] at c1 c2
  have a2 := addT' (xs := cutL (rs.map oR) none (some k)) (ys := cutL (rs.map oR) (some (k + 1)) none) (by omega)
  clear hl c1 c2
  unfold fn_without f_without
  walk_at "ev"
def lsn (r : Rw) : D := .tuple [.tuple (r.1.map .int), .str (if r.2.1 = "less" then "most" else r.2.1), .int r.2.2]
theorem lsn_lc {S : StD} {i : Nat} {env0 : EnvD} {fe : FE} (hi : i < env0.length) (he : fe = (fFz (fTup (fCons (fFz (f2 opIx (fVar i) (fC (.int 0)))) (fCons (fFz (fIf (fB (f2 opEq (f2 opIx (fVar i) (fC (.int 1))) (fC (.str "less")))) (fC (.str "most")) (f2 opIx (fVar i) (fC (.int 1))))) (fCons (fFz (f2 opIx (fVar i) (fC (.int 2)))) fNil)))))) {m : Nat} {rs : List Rw} (hr : ∀ r ∈ rs, GR m r) :
    lcGo (.nm i) fYes fe env0 (rs.map oR) S = .ok (rs.map lsn) S := by
  subst he
  refine lc_mapF oR lsn rs fun r hrr => ⟨env0.set i (.d (oR r)), by simp [asgT, setE, hi], ?_⟩
  have h3 : (env0.set i (.d (oR r)))[i]? = some (.d (oR r)) := by simp [hi]
  have e3 := sEq (kind_ok (hr r hrr).2.2.2) (b := "less") (by decide +kernel)
  generalize env0.set i (.d (oR r)) = e at *
  unfold lsn
  clear hr hrr hi
  by_cases hk : r.2.1 = "less"
  · have h5 : (r.2.1 == "less") = true := by simpa using hk
    rw [if_pos hk]
    clear hk
    walk_at "ev"
  · have h5 : (r.2.1 == "less") = false := by simpa using hk
    rw [if_neg hk]
    clear hk
    walk_at "ev"
theorem loosened_eq (S : StD) {m : Nat} {rs : List Rw} (hr : ∀ r ∈ rs, GR m r) : fn_loosened n [.d (oS m rs)] S = .ok (.d (.tuple [.str "rows", .int m, .tuple (rs.map lsn)])) S := by
  have e := lsn_lc (S := S) (i := 2) (env0 := [.d (oS m rs), .no, .no]) (by simp) rfl hr
  clear hr
  unfold fn_loosened f_loosened
  walk_at "ev"
theorem lsn_sh {m : Nat} {r : Rw} (h : GR m r) : Sh 2 (lsn r) := Sh.t3 (Sh.tup (ints_sh 0 _)) (.str _ (by
  split
  · decide +kernel
  · exact kind_ok h.2.2.2)) (.int _ _)
end

section
variable {n : Nat} (hn : 2 ^ 2000 ≤ n)
abbrev lH (m : Nat) (rs : List Rw) (r : Rw) (a4 a5 a6 : SV) (ps ws : List Fq) (a8 : SV) (a10 a11 : SV) (t : List SV) : EnvD := lF m rs (.d (oR r)) a4 a5 a6 (.d (.tuple (ps.map oF))) a8 (.d (.tuple (ws.map oF))) a10 a11 t
theorem fl_sh (rs : List Rw) (ws : List Fq) (m k : Nat) : ∀ x ∈ fL rs ws m k, Sh 1 x := fun x hx => by
  obtain ⟨j, _, rfl⟩ := List.mem_map.mp hx
  exact oF_sh 0 _
/-- the rows of kinds -/
noncomputable def kdB (n : Nat) : FS := (fSeq (fSet 19 (fFz (fCall 2 (fn_law_sign n) (fCons (fFz (fVar 15)) (fCons (fFz (fTup (fCons (fFz (fVar 17)) (fCons (fC (.int 1)) fNil)))) fNil)))))
    (fSeq (fSet 20 (fFz (fAndV (f2 opNe (fVar 18) (fC (.str "just"))) (fOrV (f2 opLt (fVar 19) (fC (.int 0))) (fAndV (f2 opEq (fVar 19) (fC (.int 0))) (fOrV (f2 opEq (fVar 18) (fC (.str "most"))) (fVar 16)))))))
    (fIfS (fOr (fB (f2 opNe (fCall 3 (fn_shows_row n) (fCons (fFz (fVar 2)) (fCons (fFz (fTup (fCons (fFz (fN opTuple (fCons (fLc [5] (.nm 5) (fIt (fVar 14)) fYes (fFz (f2 opIx (fVar 5) (fC (.int 0))))) fNil))) (fCons (fFz (fVar 18)) (fCons (fFz (fVar 17)) fNil))))) (fCons (fFz (fVar 9)) fNil)))) (fVar 20))) (fB (f2 (isBo true) (fCall 3 (fn_shows_row n) (fCons (fFz (fVar 2)) (fCons (fFz (fTup (fCons (fFz (f2 opIx (fVar 3) (fC (.int 0)))) (fCons (fC (.str "most")) (fCons (fFz (f2 opIx (fVar 3) (fC (.int 2)))) fNil))))) (fCons (fC .none) fNil)))) (fC (.bool false)))))
    (fRet (fC (.bool false)))
    fNext)))
include hn
theorem kd_step {S : StD} {m : Nat} {rs : List Rw} {r : Rw} {a4 a5 a6 a8 : SV} {ps ws : List Fq} (m2 : m ≤ 4) (hl : rs.length ≤ 6) (hr : ∀ r ∈ rs, GR m r) (hw : ws.length = rs.length) (hg : GP ws) (hW : wOk rs ws = true)
    (h1 : ∀ j, j < m → (fnd rs ws rs.length j).2 = 1) {e : Int} (he : Sm 400 e) {k : Str} (hk : k = "most" ∨ k = "less" ∨ k = "just") (t19 t20 : SV) :
    ∃ u19 u20, kdB n (lH m rs r a4 a5 a6 ps ws a8 .no .no [.d (.list (fL rs ws m rs.length)), .d (oF (bnd rs ws rs.length)), .d (.bool (lss rs ws rs.length)), .d (.int e), .d (.str k), t19, t20]) S =
      .nx (lH m rs r a4 a5 a6 ps ws a8 .no .no [.d (.list (fL rs ws m rs.length)), .d (oF (bnd rs ws rs.length)), .d (.bool (lss rs ws rs.length)), .d (.int e), .d (.str k), u19, u20]) S := by
  have e1 := shows_yes hn S hg hr hw (by omega) (by omega) hW h1 hk he
  have e2 := are_weights_no hn S (k := 1) (m := m) (rs := rs) (x := .none) (.none 3) (fun xs e => by cases e) rfl
  have e3 := shows_no (n := n) S (r := .tuple [.tuple (r.1.map .int), .str "most", .int r.2.2]) e2
  have hb := bnd_ok hr hg (k := rs.length) (by omega)
  have e4 : fn_law_sign n [.d (oF (bnd rs ws rs.length)), .d (.tuple [.int e, .int 1])] S = .ok (.d (.int (sgn ((bnd rs ws rs.length).1 * 1 - e * (bnd rs ws rs.length).2)))) S := law_sign_eq (n := n) S (p := bnd rs ws rs.length) (q := (e, 1)) (hb.1.mono (by decide)) ⟨he.mono (by decide), one_sm _⟩
  have e5 := lc_mapF (T := .nm 5) (fe := (fFz (f2 opIx (fVar 5) (fC (.int 0))))) (env0 := lH m rs r a4 .no a6 ps ws a8 .no .no [.d (.list (fL rs ws m rs.length)), .d (oF (bnd rs ws rs.length)), .d (.bool (lss rs ws rs.length)), .d (.int e), .d (.str k), .d (.int (sgn ((bnd rs ws rs.length).1 * 1 - e * (bnd rs ws rs.length).2))), .d (.bool (shB k e (bnd rs ws rs.length) (lss rs ws rs.length)))]) (S := S)
    (fun j => oF (fnd rs ws rs.length j)) (fun j => .int (fnd rs ws rs.length j).1) (List.range m) fun j hj => ⟨lH m rs r a4 (.d (oF (fnd rs ws rs.length j))) a6 ps ws a8 .no .no [.d (.list (fL rs ws m rs.length)), .d (oF (bnd rs ws rs.length)), .d (.bool (lss rs ws rs.length)), .d (.int e), .d (.str k), .d (.int (sgn ((bnd rs ws rs.length).1 * 1 - e * (bnd rs ws rs.length).2))), .d (.bool (shB k e (bnd rs ws rs.length) (lss rs ws rs.length)))], rfl, by
      generalize fnd rs ws rs.length j = z at *
      clear hn m2 hl hr hw hg hW h1 he hk e1 e2 e3 hb e4 hj
      walk_at "ev"⟩
  have e6 : (List.range m).map (fun j => PyData.int (fnd rs ws rs.length j).1) = (topsL rs ws m).map .int := by unfold topsL; rw [List.map_map]; rfl
  rw [e6] at e5
  change lcGo _ _ _ _ (fL rs ws m rs.length) S = _ at e5
  have e7 : oR (topsL rs ws m, k, e) = .tuple [.tuple ((topsL rs ws m).map .int), .str k, .int e] := rfl
  rw [e7] at e1
  have hd : shB k e (bnd rs ws rs.length) (lss rs ws rs.length) = (!(k == "just") && (decide (sgn ((bnd rs ws rs.length).1 * 1 - e * (bnd rs ws rs.length).2) < 0) || (sgn ((bnd rs ws rs.length).1 * 1 - e * (bnd rs ws rs.length).2) == 0 && (k == "most" || lss rs ws rs.length)))) := by
    have x1 : decide (sgn ((bnd rs ws rs.length).1 * 1 - e * (bnd rs ws rs.length).2) < 0) = decide ((bnd rs ws rs.length).1 * 1 < e * (bnd rs ws rs.length).2) := by rw [decide_eq_decide, sgn_neg]; omega
    have x2 : (sgn ((bnd rs ws rs.length).1 * 1 - e * (bnd rs ws rs.length).2) == 0) = (bnd rs ws rs.length == (e, 1)) := by rw [Bool.eq_iff_iff, beq_iff_eq, beq_iff_eq, sgn_zero, fr_eq_int hb.2 e]
    rw [x1, x2]
    rfl
  have q1 := sNe (kind_ok hk) (b := "just") (by decide +kernel)
  have q2 := sEq (kind_ok hk) (b := "most") (by decide +kernel)
  refine ⟨.d (.int (sgn ((bnd rs ws rs.length).1 * 1 - e * (bnd rs ws rs.length).2))), .d (.bool (shB k e (bnd rs ws rs.length) (lss rs ws rs.length))), ?_⟩
  generalize shB k e (bnd rs ws rs.length) (lss rs ws rs.length) = sh at *
  generalize sgn ((bnd rs ws rs.length).1 * 1 - e * (bnd rs ws rs.length).2) = z at *
  generalize fL rs ws m rs.length = fl at *
  generalize bnd rs ws rs.length = b at *
  generalize lss rs ws rs.length = l at *
  generalize (topsL rs ws m).map PyData.int = tl at *
  clear hn m2 hl hr hw hg hW h1 he hk hb e6 e7
  unfold kdB
  refine (seq_nx (env' := lH m rs r a4 a5 a6 ps ws a8 .no .no [.d (.list fl), .d (oF b), .d (.bool l), .d (.int e), .d (.str k), .d (.int z), t20]) (S' := S) ?_).trans ?_
  · clear hd e5 e1 e2 e3
    walk_at "ev"
  refine (seq_nx (env' := lH m rs r a4 a5 a6 ps ws a8 .no .no [.d (.list fl), .d (oF b), .d (.bool l), .d (.int e), .d (.str k), .d (.int z), .d (.bool sh)]) (S' := S) ?_).trans ?_
  · rw [hd]
    clear hd e5 e1 e2 e3 e4
    cases k1 : k == "just"
    · by_cases k2 : z < 0
      · walk_at "ev"
      · cases k3 : z == 0
        · walk_at "ev"
        · cases k4 : k == "most" <;> walk_at "ev"
    · walk_at "ev"
  · clear hd q1 q2 e4
    walk_at "ev"
end

section
variable {n : Nat} (hn : 2 ^ 2000 ≤ n)
include hn
theorem l17 {S : StD} (hS : Good S) {m : Nat} {rs : List Rw} {r : Rw} {a4 a5 a6 a8 : SV} {ps ws : List Fq} (m2 : m ≤ 4) (hl : rs.length ≤ 6) (hr : ∀ r ∈ rs, GR m r) (hw : ws.length = rs.length) (hg : GP ws) :
    ∃ f b l e k s d S', z_law_17 n (lH m rs r a4 a5 a6 ps ws a8 .no .no n7) S = .nx (lH m rs r a4 a5 a6 ps ws a8 .no .no [f, b, l, e, k, s, d]) S' ∧ Good S' := by
  have e1 := law_weights_yes (n := n) S hg (m := m) hr hw (by omega)
  cases hW : wOk rs ws with
  | false =>
    rw [hW] at e1
    refine ⟨.no, .no, .no, .no, .no, .no, .no, S, ?_, hS⟩
    clear hn hS m2 hl hr hw hg hW
    unfold z_law_17
    walk_at "ev"
  | true =>
    rw [hW] at e1
    have e2 := law_weigh_eq (n := n) S hg hr hw (by omega) (by omega)
    have e3 := weighed_eq hn S hg hr hw (by omega) (by omega)
    have hb := bnd_ok hr hg (k := rs.length) (by omega)
    have e4 : opNe (.d (.tuple [.tuple (fL rs ws m rs.length), oF (bnd rs ws rs.length), .bool (lss rs ws rs.length)])) (.d (.tuple [.tuple (fL rs ws m rs.length), oF (bnd rs ws rs.length), .bool (lss rs ws rs.length)])) = some (.d (.bool false)) := ne_same (k := 3) (Sh.t3 (Sh.tup (fl_sh rs ws m _)) (oF_sh 1 _) (.bool _ _))
    have hA : asgT (.tp [14, 15, 16]) (.tuple [.list (fL rs ws m rs.length), oF (bnd rs ws rs.length), .bool (lss rs ws rs.length)]) (lH m rs r a4 a5 a6 ps ws a8 .no .no n7) = some (lH m rs r a4 a5 a6 ps ws a8 .no .no [.d (.list (fL rs ws m rs.length)), .d (oF (bnd rs ws rs.length)), .d (.bool (lss rs ws rs.length)), .no, .no, .no, .no]) := rfl
    have e5 := lc_pureF (T := .nm 5) (ft := (fB (f2 opNe (f2 opIx (fVar 5) (fC (.int 1))) (fC (.int 1))))) (fe := (fFz (fVar 5))) (env0 := lH m rs r a4 .no a6 ps ws a8 .no .no [.d (.list (fL rs ws m rs.length)), .d (oF (bnd rs ws rs.length)), .d (.bool (lss rs ws rs.length)), .no, .no, .no, .no]) (S := S)
      (fun j => oF (fnd rs ws rs.length j)) (fun j => !((fnd rs ws rs.length j).2 == 1)) (fun j => oF (fnd rs ws rs.length j)) (List.range m) fun j hj => by
      refine ⟨lH m rs r a4 (.d (oF (fnd rs ws rs.length j))) a6 ps ws a8 .no .no [.d (.list (fL rs ws m rs.length)), .d (oF (bnd rs ws rs.length)), .d (.bool (lss rs ws rs.length)), .no, .no, .no, .no], rfl, ?_, ?_⟩
      · generalize fnd rs ws rs.length j = z at *
        clear hn hS m2 hl hr hw hg hW e1 e2 e3 hb e4 hA hj
        walk_at "ev"
      · intro _
        generalize fnd rs ws rs.length j = z at *
        clear hn hS m2 hl hr hw hg hW e1 e2 e3 hb e4 hA hj
        walk_at "ev"
    change lcGo _ _ _ _ (fL rs ws m rs.length) S = _ at e5
    have e6 := none_not (List.range m) (fun j => (fnd rs ws rs.length j).2 == 1) (fun j => oF (fnd rs ws rs.length j))
    unfold z_law_17
    cases hz : (List.range m).all fun j => (fnd rs ws rs.length j).2 == 1 with
    | false =>
      rw [hz] at e6
      refine ⟨.d (.list (fL rs ws m rs.length)), .d (oF (bnd rs ws rs.length)), .d (.bool (lss rs ws rs.length)), .no, .no, .no, .no, S, ?_, hS⟩
      generalize (((List.range m).filter fun j => !((fnd rs ws rs.length j).2 == 1)).map fun j => oF (fnd rs ws rs.length j)) = v at *
      generalize fL rs ws m rs.length = fl at *
      generalize bnd rs ws rs.length = b at *
      generalize lss rs ws rs.length = l at *
      clear hn hS m2 hl hr hw hg hW hb hz
      walk_at "ev"
    | true =>
      rw [hz] at e6
      obtain ⟨t, S1, f1, t0, t1, g1⟩ := take_ok hS (most := 3) (by decide) (by decide) n
      have f2' := fdiv_ok (i := (bnd rs ws rs.length).1) hb.2.1 (big9_of hb.1.2)
      have he : Sm 400 ((bnd rs ws rs.length).1 / (bnd rs ws rs.length).2 + t - 1) := by
        have h1 : ((bnd rs ws rs.length).1 / (bnd rs ws rs.length).2).natAbs ≤ (bnd rs ws rs.length).1.natAbs := Int.natAbs_ediv_le_natAbs _ _
        have h2 := hb.1.1.mono (k := 399) (by decide)
        have h3 : (2 : Nat) ^ 400 = 2 ^ 399 * 2 := Nat.pow_succ ..
        have h4 : (2 : Nat) ^ 2 ≤ 2 ^ 399 := Nat.pow_le_pow_right (by decide) (by decide)
        rw [show (2 : Nat) ^ 2 = 4 by decide] at h4
        unfold Sm at *
        rw [h3]
        generalize (2 : Nat) ^ 399 = w at *
        omega
      have h1 : ∀ j, j < m → (fnd rs ws rs.length j).2 = 1 := fun j hj => by
        rw [List.all_eq_true] at hz
        simpa using hz j (List.mem_range.mpr hj)
      obtain ⟨env', ⟨u18, u19, u20, rfl, -⟩, f3⟩ := for_inv (T := .nm 18) (body := kdB n) (S := S1) (fun xs env => ∃ u18 u19 u20, env = lH m rs r a4 a5 a6 ps ws a8 .no .no [.d (.list (fL rs ws m rs.length)), .d (oF (bnd rs ws rs.length)), .d (.bool (lss rs ws rs.length)), .d (.int ((bnd rs ws rs.length).1 / (bnd rs ws rs.length).2 + t - 1)), u18, u19, u20] ∧ ∀ x ∈ xs, x ∈ kindsD)
        (fun x xs env ⟨u18, u19, u20, e, hx⟩ => by
          subst e
          obtain ⟨k, rfl, hk⟩ : ∃ k : Str, x = .str k ∧ (k = "most" ∨ k = "less" ∨ k = "just") := by
            have := hx x List.mem_cons_self
            simp only [kindsD, List.mem_cons, List.not_mem_nil, or_false] at this
            rcases this with rfl | rfl | rfl <;> exact ⟨_, rfl, by simp⟩
          obtain ⟨v19, v20, st⟩ := kd_step hn (S := S1) (r := r) (a4 := a4) (a5 := a5) (a6 := a6) (a8 := a8) (ps := ps) m2 hl hr hw hg hW h1 he hk u19 u20
          exact ⟨_, _, rfl, st, _, _, _, rfl, fun y hy => hx y (List.mem_cons_of_mem _ hy)⟩) [.str "most", .str "less", .str "just"] (lH m rs r a4 a5 a6 ps ws a8 .no .no [.d (.list (fL rs ws m rs.length)), .d (oF (bnd rs ws rs.length)), .d (.bool (lss rs ws rs.length)), .d (.int ((bnd rs ws rs.length).1 / (bnd rs ws rs.length).2 + t - 1)), .no, .no, .no]) ⟨_, _, _, rfl, fun x hx => hx⟩
      refine ⟨.d (.list (fL rs ws m rs.length)), .d (oF (bnd rs ws rs.length)), .d (.bool (lss rs ws rs.length)), .d (.int ((bnd rs ws rs.length).1 / (bnd rs ws rs.length).2 + t - 1)), u18, u19, u20, S1, ?_, g1⟩
      unfold kdB at f3
      generalize (((List.range m).filter fun j => !((fnd rs ws rs.length j).2 == 1)).map fun j => oF (fnd rs ws rs.length j)) = v at *
      generalize fL rs ws m rs.length = fl at *
      generalize bnd rs ws rs.length = b at *
      generalize lss rs ws rs.length = l at *
      generalize b.1 / b.2 = y at *
      clear hn hS m2 hl hr hw hg hW hb hz t0 t1 g1 he h1
      walk_at "ev"
omit hn
theorem l18 {S : StD} (hS : Good S) {m : Nat} {rs : List Rw} {r : Rw} {a4 a5 a6 a8 : SV} {ps ws : List Fq} {f b l e k s d : SV} (hl : rs.length ≤ 6) :
    ∃ (i : Int) (S' : StD), z_law_18 n (lH m rs r a4 a5 a6 ps ws a8 .no .no [f, b, l, e, k, s, d]) S = .nx (lH m rs r a4 a5 a6 ps ws a8 (.d (.int i)) .no [f, b, l, e, k, s, d]) S' ∧ Good S' := by
  have h6 : (rs.map oR).length = rs.length := List.length_map _
  unfold z_law_18
  by_cases h0 : 0 < rs.length
  · obtain ⟨t, S1, f1, t0, t1, g1⟩ := take_ok hS (most := rs.length) (by omega) (by omega) n
    refine ⟨t, S1, ?_, g1⟩
    have h1 : (0 : Int) < (rs.length : Int) := by omega
    clear hS hl t0 t1 g1 h0
    walk_at "ev"
  · refine ⟨0, S, ?_, hS⟩
    have h1 : ¬ (0 : Int) < (rs.length : Int) := by omega
    clear hS hl h0
    walk_at "ev"
theorem l19 {S : StD} {m : Nat} {rs : List Rw} {r : Rw} {a4 a5 a6 a8 : SV} {ps ws : List Fq} {f b l e k s d : SV} {i : Int} (hl : rs.length ≤ 6) (hr : ∀ r ∈ rs, GR m r) (h : GR m r) :
    z_law_19 n (lH m rs r a4 a5 a6 ps ws a8 (.d (.int i)) .no [f, b, l, e, k, s, d]) S = .nx (lH m rs r a4 a5 a6 ps ws a8 (.d (.int i)) .no [f, b, l, e, k, s, d]) S := by
  have e1 := with_row_eq (n := n) S (m := m) (r := r) hl
  have e2 := without_eq (n := n) S (m := m) i hl
  have c1 := cutL_len (rs.map oR) none (some i)
  have c2 := cutL_len (rs.map oR) (some (i + 1)) none
  rw [List.length_map] at c1 c2
  have a1 := addT' (xs := rs.map oR) (ys := [oR r]) (by simp only [List.length_singleton, List.length_map]; omega)
  have a2 := addT' (xs := cutL (rs.map oR) none (some i)) (ys := cutL (rs.map oR) (some (i + 1)) none) (by omega)
  have hR := rows_sh 0 hr
  have s0 : Sh 3 (.str "rows") := sRows.mono (by decide)
  have q1 : opNe (.d (.tuple [.str "rows", .int m, .tuple (rs.map oR ++ [oR r])])) (.d (.tuple [.str "rows", .int m, .tuple (rs.map oR ++ [oR r])])) = some (.d (.bool false)) := ne_same (k := 4) (Sh.t3 s0 (.int _ _) (Sh.tup (app_sh hR (one_sh (oR_sh 0 h.2.2.2)))))
  have q2 : opNe (.d (.tuple [.str "rows", .int m, .tuple (cutL (rs.map oR) none (some i) ++ cutL (rs.map oR) (some (i + 1)) none)])) (.d (.tuple [.str "rows", .int m, .tuple (cutL (rs.map oR) none (some i) ++ cutL (rs.map oR) (some (i + 1)) none)])) = some (.d (.bool false)) := ne_same (k := 4) (Sh.t3 s0 (.int _ _) (Sh.tup (app_sh (cut_sh hR) (cut_sh hR))))
  have h6 : (rs.map oR).length = rs.length := List.length_map _
  clear hl hr h c1 c2 hR s0
  unfold z_law_19
  by_cases h1 : (0 : Int) < (rs.length : Int) <;> walk_at "ev"
theorem l20 {S : StD} {m : Nat} {rs : List Rw} {r : Rw} {a4 a5 a6 a8 : SV} {ps ws : List Fq} {f b l e k s d : SV} {i : Int} (hr : ∀ r ∈ rs, GR m r) :
    z_law_20 n (lH m rs r a4 a5 a6 ps ws a8 (.d (.int i)) .no [f, b, l, e, k, s, d]) S = .nx (lH m rs r a4 a5 a6 ps ws a8 (.d (.int i)) .no [f, b, l, e, k, s, d]) S := by
  have e1 := loosened_eq (n := n) S hr
  have e2 := lsn_lc (S := S) (i := 5) (env0 := lH m rs r a4 .no a6 ps ws a8 (.d (.int i)) .no [f, b, l, e, k, s, d]) (by simp) rfl hr
  have s0 : Sh 3 (.str "rows") := sRows.mono (by decide)
  have q1 : opNe (.d (.tuple [.str "rows", .int m, .tuple (rs.map lsn)])) (.d (.tuple [.str "rows", .int m, .tuple (rs.map lsn)])) = some (.d (.bool false)) := ne_same (k := 4) (Sh.t3 s0 (.int _ _) (Sh.tup fun x hx => by
    obtain ⟨q, hq, rfl⟩ := List.mem_map.mp hx
    exact lsn_sh (hr q hq)))
  clear hr s0
  unfold z_law_20
  walk_at "ev"
include hn
theorem l21 {S : StD} {m : Nat} {rs : List Rw} {r : Rw} {a4 a5 a6 a8 : SV} {ps ws : List Fq} {f b l e k s d : SV} {i : Int} (m2 : m ≤ 4) (h : GR m r) (hp : ps.length = m) (hg : GP ps) :
    z_law_21 n (lH m rs r a4 a5 a6 ps ws a8 (.d (.int i)) .no [f, b, l, e, k, s, d]) S = .nx (lH m rs r a4 a5 a6 ps ws a8 (.d (.int i)) .no [f, b, l, e, k, s, d]) S := by
  have e1 := turned_eq (n := n) S h
  have h' : GR ps.length r := by rw [hp]; exact h
  have e2 := keeps_eq hn S (trn_gr h') hg (by omega)
  have e3 := keeps_eq hn S h' hg (by omega)
  have q1 := sNe (kind_ok h.2.2.2) (b := "just") (by decide +kernel)
  unfold z_law_21
  by_cases hk : r.2.1 = "just"
  · have k1 : (r.2.1 == "just") = true := by simpa using hk
    clear hn m2 h hp hg h' hk
    walk_at "ev"
  · have k1 : (r.2.1 == "just") = false := by simpa using hk
    have k2 := trn_keeps h' hg (by omega) hk
    generalize kR (trn r) ps = z1 at *
    generalize kR r ps = z2 at *
    clear hn m2 h hp hg h' hk
    walk_at "ev"
omit hn
theorem l22 {S : StD} {m : Nat} {rs : List Rw} {r : Rw} {a4 a5 a6 a8 : SV} {ps ws : List Fq} {f b l e k s d : SV} {i : Int} :
    z_law_22 n (lH m rs r a4 a5 a6 ps ws a8 (.d (.int i)) .no [f, b, l, e, k, s, d]) S = .nx (lH m rs r a4 a5 a6 ps ws a8 (.d (.int i)) (.d (.list [.bool true, .bool false, .bool false, .bool true, .bool false, .bool false])) [f, b, l, e, k, s, d]) S := by
  have e1 : fn_is_whole n [.d (.int 3), .d (.int 0), .d (.int 3)] S = .ok (.d (.bool true)) S := is_whole_eq (n := n) S (.int 0 3) 0 3
  have e2 : fn_is_whole n [.d (.int 4), .d (.int 0), .d (.int 3)] S = .ok (.d (.bool false)) S := is_whole_eq (n := n) S (.int 0 4) 0 3
  have e3 : fn_is_whole n [.d (.bool true), .d (.int 0), .d (.int 3)] S = .ok (.d (.bool false)) S := is_whole_eq (n := n) S (.bool 0 true) 0 3
  have e4 : fn_are_numbers n [.d (.tuple [.int 1, .int (-2)]), .d (.int 2), .d (.int 2)] S = .ok (.d (.bool true)) S := are_numbers_eq (n := n) S (Sh.t2 (.int 0 _) (.int 0 _)) 2 2
  have e5 : fn_are_numbers n [.d (.tuple [.int 1, .int 3]), .d (.int 2), .d (.int 2)] S = .ok (.d (.bool false)) S := are_numbers_eq (n := n) S (Sh.t2 (.int 0 _) (.int 0 _)) 2 2
  have e6 : fn_are_numbers n [.d (.list [.int 1]), .d (.int 1), .d (.int 2)] S = .ok (.d (.bool false)) S := are_numbers_eq (n := n) S (Sh.lst (one_sh (.int 0 1))) 1 2
  unfold z_law_22
  walk_at "ev"
theorem l23 {S : StD} {m : Nat} {rs : List Rw} {r : Rw} {a4 a5 a6 a8 : SV} {ps ws : List Fq} {f b l e k s d : SV} {i : Int} :
    z_law_23 n (lH m rs r a4 a5 a6 ps ws a8 (.d (.int i)) (.d (.list [.bool true, .bool false, .bool false, .bool true, .bool false, .bool false])) [f, b, l, e, k, s, d]) S = .rt (.d (.bool true)) S := by
  have e : opEq (.d (.list [.bool true, .bool false, .bool false, .bool true, .bool false, .bool false])) (.own [.bool true, .bool false, .bool false, .bool true, .bool false, .bool false]) = some (.d (.bool true)) := eq_same (k := 1) (Sh.lst fun x hx => by
    simp only [List.mem_cons, List.not_mem_nil, or_false] at hx
    rcases hx with rfl | rfl | rfl | rfl | rfl | rfl <;> exact .bool _ _)
  unfold z_law_23
  walk_at "ev"
include hn
/-- the law's function comes to True -/
theorem law_ev {S : StD} (h : Good S) : ∃ S', f_law n (lawEnv 21 1) S = .rt (.d (.bool true)) S' := by
  obtain ⟨S1, e1, g1⟩ := l1 hn h
  obtain ⟨m, rs, S2, e2, g2, m1, m2, hl, hr⟩ := l2 (n := n) g1
  have e3 := l3 (n := n) (S := S2) (m := m) (rs := rs)
  obtain ⟨r, S4, e4, g4, hg⟩ := l4 (n := n) g2 m1 m2 hl hr
  have e5 := l5 (n := n) (S := S4) (m := m) (rs := rs) (r := r)
  have e6 := l6 (n := n) (S := S4) (m := m) (rs := rs) (r := r) (by rw [hg.1]; omega)
  obtain ⟨t7, e7⟩ := l7 (n := n) (S := S4) m1 m2 hl hr hg
  have e8 := l8 (n := n) (S := S4) (m := m) (rs := rs) (r := r) hl (.d (.list (vB5 r ++ vB6 r))) t7
  obtain ⟨t9, e9⟩ := l9 (n := n) (S := S4) hr hg t7
  obtain ⟨ps, S10, e10, g10, hp, hpg⟩ := l10 (n := n) g4 (m := m) (rs := rs) (a3 := .d (oR r)) (a4 := .d (.list (v8 m rs r))) (a5 := t7) (a6 := t9) m2
  have e11 := l11 (n := n) (S := S10) (a3 := .d (oR r)) (a4 := .d (.list (v8 m rs r))) (a5 := t7) (a6 := t9) m2 hr hp hpg
  have e12 := l12 hn (S := S10) (a3 := .d (oR r)) (a4 := .d (.list (v8 m rs r))) (a5 := t7) (a6 := t9) m2 hl hr hp hpg
  have e13 := l13 hn (S := S10) (a3 := .d (oR r)) (a4 := .d (.list (v8 m rs r))) (a5 := t7) (a6 := t9) (a8 := .d (.bool (rs.all fun r => kR r ps))) m2 hr hp hpg
  obtain ⟨t14, e14⟩ := l14 hn (S := S10) (a3 := .d (oR r)) (a4 := .d (.list (v8 m rs r))) (a5 := t7) (a6 := t9) m1 m2 hr hp hpg
  obtain ⟨ws, S15, e15, g15, hw, hwg⟩ := l15 (n := n) g10 (m := m) (rs := rs) (a3 := .d (oR r)) (a4 := .d (.list (v8 m rs r))) (a5 := t7) (a6 := t14) (a7 := .d (.tuple (ps.map oF))) (a8 := .d (.bool (rs.all fun r => kR r ps))) hl
  obtain ⟨t16, e16⟩ := l16 hn (S := S15) (a3 := .d (oR r)) (a4 := .d (.list (v8 m rs r))) (a5 := t7) (a6 := t14) (a7 := .d (.tuple (ps.map oF))) (a8 := .d (.bool (rs.all fun r => kR r ps))) m2 hl hr hw hwg
  obtain ⟨f, b, l, e, k, s, d, S17, e17, g17⟩ := l17 hn g15 (r := r) (a4 := .d (.list (v8 m rs r))) (a5 := t7) (a6 := t16) (a8 := .d (.bool (rs.all fun r => kR r ps))) (ps := ps) m2 hl hr hw hwg
  obtain ⟨i, S18, e18, g18⟩ := l18 (n := n) g17 (m := m) (rs := rs) (r := r) (a4 := .d (.list (v8 m rs r))) (a5 := t7) (a6 := t16) (a8 := .d (.bool (rs.all fun r => kR r ps))) (ps := ps) (ws := ws) (f := f) (b := b) (l := l) (e := e) (k := k) (s := s) (d := d) hl
  have e19 := l19 (n := n) (S := S18) (a4 := .d (.list (v8 m rs r))) (a5 := t7) (a6 := t16) (a8 := .d (.bool (rs.all fun r => kR r ps))) (ps := ps) (ws := ws) (f := f) (b := b) (l := l) (e := e) (k := k) (s := s) (d := d) (i := i) hl hr hg
  have e20 := l20 (n := n) (S := S18) (r := r) (a4 := .d (.list (v8 m rs r))) (a5 := t7) (a6 := t16) (a8 := .d (.bool (rs.all fun r => kR r ps))) (ps := ps) (ws := ws) (f := f) (b := b) (l := l) (e := e) (k := k) (s := s) (d := d) (i := i) hr
  have e21 := l21 hn (S := S18) (rs := rs) (a4 := .d (.list (v8 m rs r))) (a5 := t7) (a6 := t16) (a8 := .d (.bool (rs.all fun r => kR r ps))) (ws := ws) (f := f) (b := b) (l := l) (e := e) (k := k) (s := s) (d := d) (i := i) m2 hg hp hpg
  have e22 := l22 (n := n) (S := S18) (m := m) (rs := rs) (r := r) (a4 := .d (.list (v8 m rs r))) (a5 := t7) (a6 := t16) (a8 := .d (.bool (rs.all fun r => kR r ps))) (ps := ps) (ws := ws) (f := f) (b := b) (l := l) (e := e) (k := k) (s := s) (d := d) (i := i)
  have e23 := l23 (n := n) (S := S18) (m := m) (rs := rs) (r := r) (a4 := .d (.list (v8 m rs r))) (a5 := t7) (a6 := t16) (a8 := .d (.bool (rs.all fun r => kR r ps))) (ps := ps) (ws := ws) (f := f) (b := b) (l := l) (e := e) (k := k) (s := s) (d := d) (i := i)
  refine ⟨S18, ?_⟩
  have h0 : lawEnv 21 1 = lE .no .no .no .no .no .no .no .no .no .no .no .no n7 := rfl
  rw [h0, z_law_eq, seq_nx e1, seq_nx e2, seq_nx e3, seq_nx e4, seq_nx e5, seq_nx e6, seq_nx e7, seq_nx e8, seq_nx e9, seq_nx e10, seq_nx e11, seq_nx e12, seq_nx e13, seq_nx e14, seq_nx e15, seq_nx e16, seq_nx e17, seq_nx e18, seq_nx e19, seq_nx e20, seq_nx e21, seq_nx e22, e23]
end

open PySem PySem.Spec PyProof.Rows L2 DV
theorem all_mk {l : PySem.W.OpenLaw} {w : World} {K : PySem.W.Frag} {h : Heap} {mg : Str → Option Value} {fa f_0 f_1 f_2 f_3 f_4 f_5 f_6 f_7 f_8 f_9 f_10 f_11 f_12 f_13 f_14 f_15 f_16 f_17 f_18 f_19 f_20 f_21 f_22 f_23 f_24 f_25 f_26 f_27 f_28 f_29 f_30 f_31 f_32 f_33 f_34 f_35 f_36 f_37 f_38 f_39 f_40 f_41 f_42 f_43 f_44 f_45 f_46 f_47 f_48 f_49 f_50 f_51 f_52 f_53 : Addr} (X : K.In h) (G : h.Ns mainGlobals mg) (hfa : mg "law" = some (.ref fa))
    {od0 an0 od1 an1 od2 an2 od3 an3 od4 an4 od5 an5 od6 an6 od7 an7 od8 an8 od9 an9 od10 an10 od11 an11 od12 an12 od13 an13 od14 an14 od15 an15 od16 an16 od17 an17 od18 an18 od19 an19 od20 an20 od21 an21 od22 an22 od23 an23 od24 an24 od25 an25 od26 an26 od27 an27 od28 an28 od29 an29 od30 an30 od31 an31 od32 an32 od33 an33 od34 an34 od35 an35 od36 an36 od37 an37 od38 an38 od39 an39 od40 an40 od41 an41 od42 an42 od43 an43 od44 an44 od45 an45 od46 an46 od47 an47 od48 an48 od49 an49 od50 an50 od51 an51 od52 an52 od53 an53 : Option Addr} {sl0 sl1 sl2 sl3 sl4 sl5 sl6 sl7 sl8 sl9 sl10 sl11 sl12 sl13 sl14 sl15 sl16 sl17 sl18 sl19 sl20 sl21 sl22 sl23 sl24 sl25 sl26 sl27 sl28 sl29 sl30 sl31 sl32 sl33 sl34 sl35 sl36 sl37 sl38 sl39 sl40 sl41 sl42 sl43 sl44 sl45 sl46 sl47 sl48 sl49 sl50 sl51 sl52 sl53 : Array (Option Value)} {oc0 kV0 dc0 pm0 cd0 ct0 oc1 kV1 dc1 pm1 cd1 ct1 oc2 kV2 dc2 pm2 cd2 ct2 oc3 kV3 dc3 pm3 cd3 ct3 oc4 kV4 dc4 pm4 cd4 ct4 oc5 kV5 dc5 pm5 cd5 ct5 oc6 kV6 dc6 pm6 cd6 ct6 oc7 kV7 dc7 pm7 cd7 ct7 oc8 kV8 dc8 pm8 cd8 ct8 oc9 kV9 dc9 pm9 cd9 ct9 oc10 kV10 dc10 pm10 cd10 ct10 oc11 kV11 dc11 pm11 cd11 ct11 oc12 kV12 dc12 pm12 cd12 ct12 oc13 kV13 dc13 pm13 cd13 ct13 oc14 kV14 dc14 pm14 cd14 ct14 oc15 kV15 dc15 pm15 cd15 ct15 oc16 kV16 dc16 pm16 cd16 ct16 oc17 kV17 dc17 pm17 cd17 ct17 oc18 kV18 dc18 pm18 cd18 ct18 oc19 kV19 dc19 pm19 cd19 ct19 oc20 kV20 dc20 pm20 cd20 ct20 oc21 kV21 dc21 pm21 cd21 ct21 oc22 kV22 dc22 pm22 cd22 ct22 oc23 kV23 dc23 pm23 cd23 ct23 oc24 kV24 dc24 pm24 cd24 ct24 oc25 kV25 dc25 pm25 cd25 ct25 oc26 kV26 dc26 pm26 cd26 ct26 oc27 kV27 dc27 pm27 cd27 ct27 oc28 kV28 dc28 pm28 cd28 ct28 oc29 kV29 dc29 pm29 cd29 ct29 oc30 kV30 dc30 pm30 cd30 ct30 oc31 kV31 dc31 pm31 cd31 ct31 oc32 kV32 dc32 pm32 cd32 ct32 oc33 kV33 dc33 pm33 cd33 ct33 oc34 kV34 dc34 pm34 cd34 ct34 oc35 kV35 dc35 pm35 cd35 ct35 oc36 kV36 dc36 pm36 cd36 ct36 oc37 kV37 dc37 pm37 cd37 ct37 oc38 kV38 dc38 pm38 cd38 ct38 oc39 kV39 dc39 pm39 cd39 ct39 oc40 kV40 dc40 pm40 cd40 ct40 oc41 kV41 dc41 pm41 cd41 ct41 oc42 kV42 dc42 pm42 cd42 ct42 oc43 kV43 dc43 pm43 cd43 ct43 oc44 kV44 dc44 pm44 cd44 ct44 oc45 kV45 dc45 pm45 cd45 ct45 oc46 kV46 dc46 pm46 cd46 ct46 oc47 kV47 dc47 pm47 cd47 ct47 oc48 kV48 dc48 pm48 cd48 ct48 oc49 kV49 dc49 pm49 cd49 ct49 oc50 kV50 dc50 pm50 cd50 ct50 oc51 kV51 dc51 pm51 cd51 ct51 oc52 kV52 dc52 pm52 cd52 ct52 oc53 kV53 dc53 pm53 cd53 ct53 : Value}
    (a0 : PySem.W.nsIn K mainGlobals "divisor" = some (some (.ref f_0))) (l0 : K.lookup f_0 = some ⟨oc0, od0, .func (PySem.W.fnOf "divisor" "divisor" (defArgs s_divisor) (defBody s_divisor) (defScope s_divisor) .none kV0 dc0 pm0 an0 cd0 ct0), sl0⟩) (c0 : PySem.W.codeIn K cd0 "divisor" = true) (k0 : PySem.W.keepIn K (.ref f_0) = true)
    (a1 : PySem.W.nsIn K mainGlobals "part" = some (some (.ref f_1))) (l1 : K.lookup f_1 = some ⟨oc1, od1, .func (PySem.W.fnOf "part" "part" (defArgs s_part) (defBody s_part) (defScope s_part) .none kV1 dc1 pm1 an1 cd1 ct1), sl1⟩) (c1 : PySem.W.codeIn K cd1 "part" = true) (k1 : PySem.W.keepIn K (.ref f_1) = true)
    (a2 : PySem.W.nsIn K mainGlobals "is_part" = some (some (.ref f_2))) (l2 : K.lookup f_2 = some ⟨oc2, od2, .func (PySem.W.fnOf "is_part" "is_part" (defArgs s_is_part) (defBody s_is_part) (defScope s_is_part) .none kV2 dc2 pm2 an2 cd2 ct2), sl2⟩) (c2 : PySem.W.codeIn K cd2 "is_part" = true) (k2 : PySem.W.keepIn K (.ref f_2) = true)
    (a3 : PySem.W.nsIn K mainGlobals "plus" = some (some (.ref f_3))) (l3 : K.lookup f_3 = some ⟨oc3, od3, .func (PySem.W.fnOf "plus" "plus" (defArgs s_plus) (defBody s_plus) (defScope s_plus) .none kV3 dc3 pm3 an3 cd3 ct3), sl3⟩) (c3 : PySem.W.codeIn K cd3 "plus" = true) (k3 : PySem.W.keepIn K (.ref f_3) = true)
    (a4 : PySem.W.nsIn K mainGlobals "minus" = some (some (.ref f_4))) (l4 : K.lookup f_4 = some ⟨oc4, od4, .func (PySem.W.fnOf "minus" "minus" (defArgs s_minus) (defBody s_minus) (defScope s_minus) .none kV4 dc4 pm4 an4 cd4 ct4), sl4⟩) (c4 : PySem.W.codeIn K cd4 "minus" = true) (k4 : PySem.W.keepIn K (.ref f_4) = true)
    (a5 : PySem.W.nsIn K mainGlobals "times" = some (some (.ref f_5))) (l5 : K.lookup f_5 = some ⟨oc5, od5, .func (PySem.W.fnOf "times" "times" (defArgs s_times) (defBody s_times) (defScope s_times) .none kV5 dc5 pm5 an5 cd5 ct5), sl5⟩) (c5 : PySem.W.codeIn K cd5 "times" = true) (k5 : PySem.W.keepIn K (.ref f_5) = true)
    (a6 : PySem.W.nsIn K mainGlobals "over" = some (some (.ref f_6))) (l6 : K.lookup f_6 = some ⟨oc6, od6, .func (PySem.W.fnOf "over" "over" (defArgs s_over) (defBody s_over) (defScope s_over) .none kV6 dc6 pm6 an6 cd6 ct6), sl6⟩) (c6 : PySem.W.codeIn K cd6 "over" = true) (k6 : PySem.W.keepIn K (.ref f_6) = true)
    (a7 : PySem.W.nsIn K mainGlobals "is_less" = some (some (.ref f_7))) (l7 : K.lookup f_7 = some ⟨oc7, od7, .func (PySem.W.fnOf "is_less" "is_less" (defArgs s_is_less) (defBody s_is_less) (defScope s_is_less) .none kV7 dc7 pm7 an7 cd7 ct7), sl7⟩) (c7 : PySem.W.codeIn K cd7 "is_less" = true) (k7 : PySem.W.keepIn K (.ref f_7) = true)
    (a8 : PySem.W.nsIn K mainGlobals "total" = some (some (.ref f_8))) (l8 : K.lookup f_8 = some ⟨oc8, od8, .func (PySem.W.fnOf "total" "total" (defArgs s_total) (defBody s_total) (defScope s_total) .none kV8 dc8 pm8 an8 cd8 ct8), sl8⟩) (c8 : PySem.W.codeIn K cd8 "total" = true) (k8 : PySem.W.keepIn K (.ref f_8) = true)
    (a9 : PySem.W.nsIn K mainGlobals "least_of" = some (some (.ref f_9))) (l9 : K.lookup f_9 = some ⟨oc9, od9, .func (PySem.W.fnOf "least_of" "least_of" (defArgs s_least_of) (defBody s_least_of) (defScope s_least_of) .none kV9 dc9 pm9 an9 cd9 ct9), sl9⟩) (c9 : PySem.W.codeIn K cd9 "least_of" = true) (k9 : PySem.W.keepIn K (.ref f_9) = true)
    (a10 : PySem.W.nsIn K mainGlobals "whole_below" = some (some (.ref f_10))) (l10 : K.lookup f_10 = some ⟨oc10, od10, .func (PySem.W.fnOf "whole_below" "whole_below" (defArgs s_whole_below) (defBody s_whole_below) (defScope s_whole_below) .none kV10 dc10 pm10 an10 cd10 ct10), sl10⟩) (c10 : PySem.W.codeIn K cd10 "whole_below" = true) (k10 : PySem.W.keepIn K (.ref f_10) = true)
    (a11 : PySem.W.nsIn K mainGlobals "whole_above" = some (some (.ref f_11))) (l11 : K.lookup f_11 = some ⟨oc11, od11, .func (PySem.W.fnOf "whole_above" "whole_above" (defArgs s_whole_above) (defBody s_whole_above) (defScope s_whole_above) .none kV11 dc11 pm11 an11 cd11 ct11), sl11⟩) (c11 : PySem.W.codeIn K cd11 "whole_above" = true) (k11 : PySem.W.keepIn K (.ref f_11) = true)
    (a12 : PySem.W.nsIn K mainGlobals "is_whole_part" = some (some (.ref f_12))) (l12 : K.lookup f_12 = some ⟨oc12, od12, .func (PySem.W.fnOf "is_whole_part" "is_whole_part" (defArgs s_is_whole_part) (defBody s_is_whole_part) (defScope s_is_whole_part) .none kV12 dc12 pm12 an12 cd12 ct12), sl12⟩) (c12 : PySem.W.codeIn K cd12 "is_whole_part" = true) (k12 : PySem.W.keepIn K (.ref f_12) = true)
    (a13 : PySem.W.nsIn K mainGlobals "are_parts" = some (some (.ref f_13))) (l13 : K.lookup f_13 = some ⟨oc13, od13, .func (PySem.W.fnOf "are_parts" "are_parts" (defArgs s_are_parts) (defBody s_are_parts) (defScope s_are_parts) .none kV13 dc13 pm13 an13 cd13 ct13), sl13⟩) (c13 : PySem.W.codeIn K cd13 "are_parts" = true) (k13 : PySem.W.keepIn K (.ref f_13) = true)
    (a14 : PySem.W.nsIn K mainGlobals "scaled" = some (some (.ref f_14))) (l14 : K.lookup f_14 = some ⟨oc14, od14, .func (PySem.W.fnOf "scaled" "scaled" (defArgs s_scaled) (defBody s_scaled) (defScope s_scaled) .none kV14 dc14 pm14 an14 cd14 ct14), sl14⟩) (c14 : PySem.W.codeIn K cd14 "scaled" = true) (k14 : PySem.W.keepIn K (.ref f_14) = true)
    (a15 : PySem.W.nsIn K mainGlobals "dot" = some (some (.ref f_15))) (l15 : K.lookup f_15 = some ⟨oc15, od15, .func (PySem.W.fnOf "dot" "dot" (defArgs s_dot) (defBody s_dot) (defScope s_dot) .none kV15 dc15 pm15 an15 cd15 ct15), sl15⟩) (c15 : PySem.W.codeIn K cd15 "dot" = true) (k15 : PySem.W.keepIn K (.ref f_15) = true)
    (a16 : PySem.W.nsIn K mainGlobals "is_whole" = some (some (.ref f_16))) (l16 : K.lookup f_16 = some ⟨oc16, od16, .func (PySem.W.fnOf "is_whole" "is_whole" (defArgs s_is_whole) (defBody s_is_whole) (defScope s_is_whole) .none kV16 dc16 pm16 an16 cd16 ct16), sl16⟩) (c16 : PySem.W.codeIn K cd16 "is_whole" = true) (k16 : PySem.W.keepIn K (.ref f_16) = true)
    (a17 : PySem.W.nsIn K mainGlobals "are_numbers" = some (some (.ref f_17))) (l17 : K.lookup f_17 = some ⟨oc17, od17, .func (PySem.W.fnOf "are_numbers" "are_numbers" (defArgs s_are_numbers) (defBody s_are_numbers) (defScope s_are_numbers) .none kV17 dc17 pm17 an17 cd17 ct17), sl17⟩) (c17 : PySem.W.codeIn K cd17 "are_numbers" = true) (k17 : PySem.W.keepIn K (.ref f_17) = true)
    (a18 : PySem.W.nsIn K mainGlobals "is_row" = some (some (.ref f_18))) (l18 : K.lookup f_18 = some ⟨oc18, od18, .func (PySem.W.fnOf "is_row" "is_row" (defArgs s_is_row) (defBody s_is_row) (defScope s_is_row) .none kV18 dc18 pm18 an18 cd18 ct18), sl18⟩) (c18 : PySem.W.codeIn K cd18 "is_row" = true) (k18 : PySem.W.keepIn K (.ref f_18) = true)
    (a19 : PySem.W.nsIn K mainGlobals "is_system" = some (some (.ref f_19))) (l19 : K.lookup f_19 = some ⟨oc19, od19, .func (PySem.W.fnOf "is_system" "is_system" (defArgs s_is_system) (defBody s_is_system) (defScope s_is_system) .none kV19 dc19 pm19 an19 cd19 ct19), sl19⟩) (c19 : PySem.W.codeIn K cd19 "is_system" = true) (k19 : PySem.W.keepIn K (.ref f_19) = true)
    (a20 : PySem.W.nsIn K mainGlobals "keeps" = some (some (.ref f_20))) (l20 : K.lookup f_20 = some ⟨oc20, od20, .func (PySem.W.fnOf "keeps" "keeps" (defArgs s_keeps) (defBody s_keeps) (defScope s_keeps) .none kV20 dc20 pm20 an20 cd20 ct20), sl20⟩) (c20 : PySem.W.codeIn K cd20 "keeps" = true) (k20 : PySem.W.keepIn K (.ref f_20) = true)
    (a21 : PySem.W.nsIn K mainGlobals "keeps_all" = some (some (.ref f_21))) (l21 : K.lookup f_21 = some ⟨oc21, od21, .func (PySem.W.fnOf "keeps_all" "keeps_all" (defArgs s_keeps_all) (defBody s_keeps_all) (defScope s_keeps_all) .none kV21 dc21 pm21 an21 cd21 ct21), sl21⟩) (c21 : PySem.W.codeIn K cd21 "keeps_all" = true) (k21 : PySem.W.keepIn K (.ref f_21) = true)
    (a22 : PySem.W.nsIn K mainGlobals "is_point" = some (some (.ref f_22))) (l22 : K.lookup f_22 = some ⟨oc22, od22, .func (PySem.W.fnOf "is_point" "is_point" (defArgs s_is_point) (defBody s_is_point) (defScope s_is_point) .none kV22 dc22 pm22 an22 cd22 ct22), sl22⟩) (c22 : PySem.W.codeIn K cd22 "is_point" = true) (k22 : PySem.W.keepIn K (.ref f_22) = true)
    (a23 : PySem.W.nsIn K mainGlobals "are_weights" = some (some (.ref f_23))) (l23 : K.lookup f_23 = some ⟨oc23, od23, .func (PySem.W.fnOf "are_weights" "are_weights" (defArgs s_are_weights) (defBody s_are_weights) (defScope s_are_weights) .none kV23 dc23 pm23 an23 cd23 ct23), sl23⟩) (c23 : PySem.W.codeIn K cd23 "are_weights" = true) (k23 : PySem.W.keepIn K (.ref f_23) = true)
    (a24 : PySem.W.nsIn K mainGlobals "weighed" = some (some (.ref f_24))) (l24 : K.lookup f_24 = some ⟨oc24, od24, .func (PySem.W.fnOf "weighed" "weighed" (defArgs s_weighed) (defBody s_weighed) (defScope s_weighed) .none kV24 dc24 pm24 an24 cd24 ct24), sl24⟩) (c24 : PySem.W.codeIn K cd24 "weighed" = true) (k24 : PySem.W.keepIn K (.ref f_24) = true)
    (a25 : PySem.W.nsIn K mainGlobals "is_barred" = some (some (.ref f_25))) (l25 : K.lookup f_25 = some ⟨oc25, od25, .func (PySem.W.fnOf "is_barred" "is_barred" (defArgs s_is_barred) (defBody s_is_barred) (defScope s_is_barred) .none kV25 dc25 pm25 an25 cd25 ct25), sl25⟩) (c25 : PySem.W.codeIn K cd25 "is_barred" = true) (k25 : PySem.W.keepIn K (.ref f_25) = true)
    (a26 : PySem.W.nsIn K mainGlobals "shows_row" = some (some (.ref f_26))) (l26 : K.lookup f_26 = some ⟨oc26, od26, .func (PySem.W.fnOf "shows_row" "shows_row" (defArgs s_shows_row) (defBody s_shows_row) (defScope s_shows_row) .none kV26 dc26 pm26 an26 cd26 ct26), sl26⟩) (c26 : PySem.W.codeIn K cd26 "shows_row" = true) (k26 : PySem.W.keepIn K (.ref f_26) = true)
    (a27 : PySem.W.nsIn K mainGlobals "slack" = some (some (.ref f_27))) (l27 : K.lookup f_27 = some ⟨oc27, od27, .func (PySem.W.fnOf "slack" "slack" (defArgs s_slack) (defBody s_slack) (defScope s_slack) .none kV27 dc27 pm27 an27 cd27 ct27), sl27⟩) (c27 : PySem.W.codeIn K cd27 "slack" = true) (k27 : PySem.W.keepIn K (.ref f_27) = true)
    (a28 : PySem.W.nsIn K mainGlobals "tight" = some (some (.ref f_28))) (l28 : K.lookup f_28 = some ⟨oc28, od28, .func (PySem.W.fnOf "tight" "tight" (defArgs s_tight) (defBody s_tight) (defScope s_tight) .none kV28 dc28 pm28 an28 cd28 ct28), sl28⟩) (c28 : PySem.W.codeIn K cd28 "tight" = true) (k28 : PySem.W.keepIn K (.ref f_28) = true)
    (a29 : PySem.W.nsIn K mainGlobals "with_row" = some (some (.ref f_29))) (l29 : K.lookup f_29 = some ⟨oc29, od29, .func (PySem.W.fnOf "with_row" "with_row" (defArgs s_with_row) (defBody s_with_row) (defScope s_with_row) .none kV29 dc29 pm29 an29 cd29 ct29), sl29⟩) (c29 : PySem.W.codeIn K cd29 "with_row" = true) (k29 : PySem.W.keepIn K (.ref f_29) = true)
    (a30 : PySem.W.nsIn K mainGlobals "without" = some (some (.ref f_30))) (l30 : K.lookup f_30 = some ⟨oc30, od30, .func (PySem.W.fnOf "without" "without" (defArgs s_without) (defBody s_without) (defScope s_without) .none kV30 dc30 pm30 an30 cd30 ct30), sl30⟩) (c30 : PySem.W.codeIn K cd30 "without" = true) (k30 : PySem.W.keepIn K (.ref f_30) = true)
    (a31 : PySem.W.nsIn K mainGlobals "loosened" = some (some (.ref f_31))) (l31 : K.lookup f_31 = some ⟨oc31, od31, .func (PySem.W.fnOf "loosened" "loosened" (defArgs s_loosened) (defBody s_loosened) (defScope s_loosened) .none kV31 dc31 pm31 an31 cd31 ct31), sl31⟩) (c31 : PySem.W.codeIn K cd31 "loosened" = true) (k31 : PySem.W.keepIn K (.ref f_31) = true)
    (a32 : PySem.W.nsIn K mainGlobals "turned" = some (some (.ref f_32))) (l32 : K.lookup f_32 = some ⟨oc32, od32, .func (PySem.W.fnOf "turned" "turned" (defArgs s_turned) (defBody s_turned) (defScope s_turned) .none kV32 dc32 pm32 an32 cd32 ct32), sl32⟩) (c32 : PySem.W.codeIn K cd32 "turned" = true) (k32 : PySem.W.keepIn K (.ref f_32) = true)
    (a33 : PySem.W.nsIn K mainGlobals "_law_state" = some (some (.ref f_33))) (l33 : K.lookup f_33 = some ⟨oc33, od33, .func (PySem.W.fnOf "_law_state" "_law_state" (defArgs s_law_state) (defBody s_law_state) (defScope s_law_state) .none kV33 dc33 pm33 an33 cd33 ct33), sl33⟩) (c33 : PySem.W.codeIn K cd33 "_law_state" = true) (k33 : PySem.W.keepIn K (.ref f_33) = true)
    (a34 : PySem.W.nsIn K mainGlobals "_law_take" = some (some (.ref f_34))) (l34 : K.lookup f_34 = some ⟨oc34, od34, .func (PySem.W.fnOf "_law_take" "_law_take" (defArgs s_law_take) (defBody s_law_take) (defScope s_law_take) .none kV34 dc34 pm34 an34 cd34 ct34), sl34⟩) (c34 : PySem.W.codeIn K cd34 "_law_take" = true) (k34 : PySem.W.keepIn K (.ref f_34) = true)
    (a35 : PySem.W.nsIn K mainGlobals "_law_pick" = some (some (.ref f_35))) (l35 : K.lookup f_35 = some ⟨oc35, od35, .func (PySem.W.fnOf "_law_pick" "_law_pick" (defArgs s_law_pick) (defBody s_law_pick) (defScope s_law_pick) .none kV35 dc35 pm35 an35 cd35 ct35), sl35⟩) (c35 : PySem.W.codeIn K cd35 "_law_pick" = true) (k35 : PySem.W.keepIn K (.ref f_35) = true)
    (a36 : PySem.W.nsIn K mainGlobals "_law_fr" = some (some (.ref f_36))) (l36 : K.lookup f_36 = some ⟨oc36, od36, .func (PySem.W.fnOf "_law_fr" "_law_fr" (defArgs s_law_fr) (defBody s_law_fr) (defScope s_law_fr) .none kV36 dc36 pm36 an36 cd36 ct36), sl36⟩) (c36 : PySem.W.codeIn K cd36 "_law_fr" = true) (k36 : PySem.W.keepIn K (.ref f_36) = true)
    (a37 : PySem.W.nsIn K mainGlobals "_law_is_fr" = some (some (.ref f_37))) (l37 : K.lookup f_37 = some ⟨oc37, od37, .func (PySem.W.fnOf "_law_is_fr" "_law_is_fr" (defArgs s_law_is_fr) (defBody s_law_is_fr) (defScope s_law_is_fr) .none kV37 dc37 pm37 an37 cd37 ct37), sl37⟩) (c37 : PySem.W.codeIn K cd37 "_law_is_fr" = true) (k37 : PySem.W.keepIn K (.ref f_37) = true)
    (a38 : PySem.W.nsIn K mainGlobals "_law_are_frs" = some (some (.ref f_38))) (l38 : K.lookup f_38 = some ⟨oc38, od38, .func (PySem.W.fnOf "_law_are_frs" "_law_are_frs" (defArgs s_law_are_frs) (defBody s_law_are_frs) (defScope s_law_are_frs) .none kV38 dc38 pm38 an38 cd38 ct38), sl38⟩) (c38 : PySem.W.codeIn K cd38 "_law_are_frs" = true) (k38 : PySem.W.keepIn K (.ref f_38) = true)
    (a39 : PySem.W.nsIn K mainGlobals "_law_add" = some (some (.ref f_39))) (l39 : K.lookup f_39 = some ⟨oc39, od39, .func (PySem.W.fnOf "_law_add" "_law_add" (defArgs s_law_add) (defBody s_law_add) (defScope s_law_add) .none kV39 dc39 pm39 an39 cd39 ct39), sl39⟩) (c39 : PySem.W.codeIn K cd39 "_law_add" = true) (k39 : PySem.W.keepIn K (.ref f_39) = true)
    (a40 : PySem.W.nsIn K mainGlobals "_law_mul" = some (some (.ref f_40))) (l40 : K.lookup f_40 = some ⟨oc40, od40, .func (PySem.W.fnOf "_law_mul" "_law_mul" (defArgs s_law_mul) (defBody s_law_mul) (defScope s_law_mul) .none kV40 dc40 pm40 an40 cd40 ct40), sl40⟩) (c40 : PySem.W.codeIn K cd40 "_law_mul" = true) (k40 : PySem.W.keepIn K (.ref f_40) = true)
    (a41 : PySem.W.nsIn K mainGlobals "_law_sub" = some (some (.ref f_41))) (l41 : K.lookup f_41 = some ⟨oc41, od41, .func (PySem.W.fnOf "_law_sub" "_law_sub" (defArgs s_law_sub) (defBody s_law_sub) (defScope s_law_sub) .none kV41 dc41 pm41 an41 cd41 ct41), sl41⟩) (c41 : PySem.W.codeIn K cd41 "_law_sub" = true) (k41 : PySem.W.keepIn K (.ref f_41) = true)
    (a42 : PySem.W.nsIn K mainGlobals "_law_sign" = some (some (.ref f_42))) (l42 : K.lookup f_42 = some ⟨oc42, od42, .func (PySem.W.fnOf "_law_sign" "_law_sign" (defArgs s_law_sign) (defBody s_law_sign) (defScope s_law_sign) .none kV42 dc42 pm42 an42 cd42 ct42), sl42⟩) (c42 : PySem.W.codeIn K cd42 "_law_sign" = true) (k42 : PySem.W.keepIn K (.ref f_42) = true)
    (a43 : PySem.W.nsIn K mainGlobals "_law_at" = some (some (.ref f_43))) (l43 : K.lookup f_43 = some ⟨oc43, od43, .func (PySem.W.fnOf "_law_at" "_law_at" (defArgs s_law_at) (defBody s_law_at) (defScope s_law_at) .none kV43 dc43 pm43 an43 cd43 ct43), sl43⟩) (c43 : PySem.W.codeIn K cd43 "_law_at" = true) (k43 : PySem.W.keepIn K (.ref f_43) = true)
    (a44 : PySem.W.nsIn K mainGlobals "_law_system" = some (some (.ref f_44))) (l44 : K.lookup f_44 = some ⟨oc44, od44, .func (PySem.W.fnOf "_law_system" "_law_system" (defArgs s_law_system) (defBody s_law_system) (defScope s_law_system) .none kV44 dc44 pm44 an44 cd44 ct44), sl44⟩) (c44 : PySem.W.codeIn K cd44 "_law_system" = true) (k44 : PySem.W.keepIn K (.ref f_44) = true)
    (a45 : PySem.W.nsIn K mainGlobals "_law_keeps" = some (some (.ref f_45))) (l45 : K.lookup f_45 = some ⟨oc45, od45, .func (PySem.W.fnOf "_law_keeps" "_law_keeps" (defArgs s_law_keeps) (defBody s_law_keeps) (defScope s_law_keeps) .none kV45 dc45 pm45 an45 cd45 ct45), sl45⟩) (c45 : PySem.W.codeIn K cd45 "_law_keeps" = true) (k45 : PySem.W.keepIn K (.ref f_45) = true)
    (a46 : PySem.W.nsIn K mainGlobals "_law_weigh" = some (some (.ref f_46))) (l46 : K.lookup f_46 = some ⟨oc46, od46, .func (PySem.W.fnOf "_law_weigh" "_law_weigh" (defArgs s_law_weigh) (defBody s_law_weigh) (defScope s_law_weigh) .none kV46 dc46 pm46 an46 cd46 ct46), sl46⟩) (c46 : PySem.W.codeIn K cd46 "_law_weigh" = true) (k46 : PySem.W.keepIn K (.ref f_46) = true)
    (a47 : PySem.W.nsIn K mainGlobals "_law_weights" = some (some (.ref f_47))) (l47 : K.lookup f_47 = some ⟨oc47, od47, .func (PySem.W.fnOf "_law_weights" "_law_weights" (defArgs s_law_weights) (defBody s_law_weights) (defScope s_law_weights) .none kV47 dc47 pm47 an47 cd47 ct47), sl47⟩) (c47 : PySem.W.codeIn K cd47 "_law_weights" = true) (k47 : PySem.W.keepIn K (.ref f_47) = true)
    (a48 : PySem.W.nsIn K mainGlobals "_law_bars" = some (some (.ref f_48))) (l48 : K.lookup f_48 = some ⟨oc48, od48, .func (PySem.W.fnOf "_law_bars" "_law_bars" (defArgs s_law_bars) (defBody s_law_bars) (defScope s_law_bars) .none kV48 dc48 pm48 an48 cd48 ct48), sl48⟩) (c48 : PySem.W.codeIn K cd48 "_law_bars" = true) (k48 : PySem.W.keepIn K (.ref f_48) = true)
    (a49 : PySem.W.nsIn K mainGlobals "_law_drawn" = some (some (.ref f_49))) (l49 : K.lookup f_49 = some ⟨oc49, od49, .func (PySem.W.fnOf "_law_drawn" "_law_drawn" (defArgs s_law_drawn) (defBody s_law_drawn) (defScope s_law_drawn) .none kV49 dc49 pm49 an49 cd49 ct49), sl49⟩) (c49 : PySem.W.codeIn K cd49 "_law_drawn" = true) (k49 : PySem.W.keepIn K (.ref f_49) = true)
    (a50 : PySem.W.nsIn K mainGlobals "_law_is_row" = some (some (.ref f_50))) (l50 : K.lookup f_50 = some ⟨oc50, od50, .func (PySem.W.fnOf "_law_is_row" "_law_is_row" (defArgs s_law_is_row) (defBody s_law_is_row) (defScope s_law_is_row) .none kV50 dc50 pm50 an50 cd50 ct50), sl50⟩) (c50 : PySem.W.codeIn K cd50 "_law_is_row" = true) (k50 : PySem.W.keepIn K (.ref f_50) = true)
    (a51 : PySem.W.nsIn K mainGlobals "_law_is_system" = some (some (.ref f_51))) (l51 : K.lookup f_51 = some ⟨oc51, od51, .func (PySem.W.fnOf "_law_is_system" "_law_is_system" (defArgs s_law_is_system) (defBody s_law_is_system) (defScope s_law_is_system) .none kV51 dc51 pm51 an51 cd51 ct51), sl51⟩) (c51 : PySem.W.codeIn K cd51 "_law_is_system" = true) (k51 : PySem.W.keepIn K (.ref f_51) = true)
    (a52 : PySem.W.nsIn K mainGlobals "_law_reckons" = some (some (.ref f_52))) (l52 : K.lookup f_52 = some ⟨oc52, od52, .func (PySem.W.fnOf "_law_reckons" "_law_reckons" (defArgs s_law_reckons) (defBody s_law_reckons) (defScope s_law_reckons) .none kV52 dc52 pm52 an52 cd52 ct52), sl52⟩) (c52 : PySem.W.codeIn K cd52 "_law_reckons" = true) (k52 : PySem.W.keepIn K (.ref f_52) = true)
    (a53 : PySem.W.nsIn K mainGlobals "law" = some (some (.ref f_53))) (l53 : K.lookup f_53 = some ⟨oc53, od53, .func (PySem.W.fnOf "law" "law" (defArgs s_law) (defBody s_law) (defScope s_law) .none kV53 dc53 pm53 an53 cd53 ct53), sl53⟩) (c53 : PySem.W.codeIn K cd53 "law" = true) (k53 : PySem.W.keepIn K (.ref f_53) = true)
    (z_abs : PySem.W.nsIn K mainGlobals "abs" = some none)
    (z_all : PySem.W.nsIn K mainGlobals "all" = some none)
    (z_bool : PySem.W.nsIn K mainGlobals "bool" = some none)
    (z_int : PySem.W.nsIn K mainGlobals "int" = some none)
    (z_isinstance : PySem.W.nsIn K mainGlobals "isinstance" = some none)
    (z_len : PySem.W.nsIn K mainGlobals "len" = some none)
    (z_list : PySem.W.nsIn K mainGlobals "list" = some none)
    (z_range : PySem.W.nsIn K mainGlobals "range" = some none)
    (z_sum : PySem.W.nsIn K mainGlobals "sum" = some none)
    (z_tuple : PySem.W.nsIn K mainGlobals "tuple" = some none)
    {q_KINDS : Addr} {od_KINDS : Option Addr} {t0_KINDS t1_KINDS t2_KINDS n_KINDS : Nat} {sl_KINDS : Array (Option Value)} (g_KINDS : PySem.W.nsIn K mainGlobals "KINDS" = some (some (.ref q_KINDS))) (h_KINDS : K.lookup q_KINDS = some ⟨.type "tuple", od_KINDS, .seq #[.str "most" t0_KINDS, .str "less" t1_KINDS, .str "just" t2_KINDS] n_KINDS, sl_KINDS⟩)
    {t_MOST_NUMBER : Nat} (g_MOST_NUMBER : PySem.W.nsIn K mainGlobals "MOST_NUMBER" = some (some (.int 1000000 t_MOST_NUMBER)))
    {t_MOST_ROWS : Nat} (g_MOST_ROWS : PySem.W.nsIn K mainGlobals "MOST_ROWS" = some (some (.int 24 t_MOST_ROWS)))
    {t_MOST_UNKNOWNS : Nat} (g_MOST_UNKNOWNS : PySem.W.nsIn K mainGlobals "MOST_UNKNOWNS" = some (some (.int 8 t_MOST_UNKNOWNS))) :
    ∃ fd : FuncData, (∀ (s : Shared) (v : Value), BindsTo s fd ⟨[v], []⟩ [("script", v)]) ∧ ∀ base : Heap, K.In base → base.Ns mainGlobals mg → FnOk l.prog w K mg base CX0 9 fa fd ["script"] (spLaw K) := by
  have e := hfa.symm.trans (PySem.W.mg_of X G a53)
  cases e
  have c_KINDS : ∃ (a : Addr) (v : V) (u : Value), mg "KINDS" = some u ∧ RelV v u ∧ ∀ H : Hp, Rp K H v D_KINDS := ⟨q_KINDS, .ref q_KINDS, .ref q_KINDS, PySem.W.mg_of X G g_KINDS, rfl, fun H => .tup (xs := [.str "most", .str "less", .str "just"]) (.inr ⟨_, _, _, h_KINDS, rfl, rfl, by simp [sizeLine], .cons ⟨_, rfl⟩ (.cons ⟨_, rfl⟩ (.cons ⟨_, rfl⟩ (.nil)))⟩) (.cons (.str _) (.cons (.str _) (.cons (.str _) (.nil)))) (by simp [sizeLine])⟩
  have c_MOST_NUMBER : ∃ t, mg "MOST_NUMBER" = some (.int 1000000 t) := ⟨_, PySem.W.mg_of X G g_MOST_NUMBER⟩
  have c_MOST_ROWS : ∃ t, mg "MOST_ROWS" = some (.int 24 t) := ⟨_, PySem.W.mg_of X G g_MOST_ROWS⟩
  have c_MOST_UNKNOWNS : ∃ t, mg "MOST_UNKNOWNS" = some (.int 8 t) := ⟨_, PySem.W.mg_of X G g_MOST_UNKNOWNS⟩
  have F0 := fun_mk (st := s_divisor) l0 c0 k0
  have F1 := fun_mk (st := s_part) l1 c1 k1
  have F2 := fun_mk (st := s_is_part) l2 c2 k2
  have F3 := fun_mk (st := s_plus) l3 c3 k3
  have F4 := fun_mk (st := s_minus) l4 c4 k4
  have F5 := fun_mk (st := s_times) l5 c5 k5
  have F6 := fun_mk (st := s_over) l6 c6 k6
  have F7 := fun_mk (st := s_is_less) l7 c7 k7
  have F8 := fun_mk (st := s_total) l8 c8 k8
  have F9 := fun_mk (st := s_least_of) l9 c9 k9
  have F10 := fun_mk (st := s_whole_below) l10 c10 k10
  have F11 := fun_mk (st := s_whole_above) l11 c11 k11
  have F12 := fun_mk (st := s_is_whole_part) l12 c12 k12
  have F13 := fun_mk (st := s_are_parts) l13 c13 k13
  have F14 := fun_mk (st := s_scaled) l14 c14 k14
  have F15 := fun_mk (st := s_dot) l15 c15 k15
  have F16 := fun_mk (st := s_is_whole) l16 c16 k16
  have F17 := fun_mk (st := s_are_numbers) l17 c17 k17
  have F18 := fun_mk (st := s_is_row) l18 c18 k18
  have F19 := fun_mk (st := s_is_system) l19 c19 k19
  have F20 := fun_mk (st := s_keeps) l20 c20 k20
  have F21 := fun_mk (st := s_keeps_all) l21 c21 k21
  have F22 := fun_mk (st := s_is_point) l22 c22 k22
  have F23 := fun_mk (st := s_are_weights) l23 c23 k23
  have F24 := fun_mk (st := s_weighed) l24 c24 k24
  have F25 := fun_mk (st := s_is_barred) l25 c25 k25
  have F26 := fun_mk (st := s_shows_row) l26 c26 k26
  have F27 := fun_mk (st := s_slack) l27 c27 k27
  have F28 := fun_mk (st := s_tight) l28 c28 k28
  have F29 := fun_mk (st := s_with_row) l29 c29 k29
  have F30 := fun_mk (st := s_without) l30 c30 k30
  have F31 := fun_mk (st := s_loosened) l31 c31 k31
  have F32 := fun_mk (st := s_turned) l32 c32 k32
  have F33 := fun_mk (st := s_law_state) l33 c33 k33
  have F34 := fun_mk (st := s_law_take) l34 c34 k34
  have F35 := fun_mk (st := s_law_pick) l35 c35 k35
  have F36 := fun_mk (st := s_law_fr) l36 c36 k36
  have F37 := fun_mk (st := s_law_is_fr) l37 c37 k37
  have F38 := fun_mk (st := s_law_are_frs) l38 c38 k38
  have F39 := fun_mk (st := s_law_add) l39 c39 k39
  have F40 := fun_mk (st := s_law_mul) l40 c40 k40
  have F41 := fun_mk (st := s_law_sub) l41 c41 k41
  have F42 := fun_mk (st := s_law_sign) l42 c42 k42
  have F43 := fun_mk (st := s_law_at) l43 c43 k43
  have F44 := fun_mk (st := s_law_system) l44 c44 k44
  have F45 := fun_mk (st := s_law_keeps) l45 c45 k45
  have F46 := fun_mk (st := s_law_weigh) l46 c46 k46
  have F47 := fun_mk (st := s_law_weights) l47 c47 k47
  have F48 := fun_mk (st := s_law_bars) l48 c48 k48
  have F49 := fun_mk (st := s_law_drawn) l49 c49 k49
  have F50 := fun_mk (st := s_law_is_row) l50 c50 k50
  have F51 := fun_mk (st := s_law_is_system) l51 c51 k51
  have F52 := fun_mk (st := s_law_reckons) l52 c52 k52
  have F53 := fun_mk (st := s_law) l53 c53 k53
  have y_abs := PySem.W.mg_none_of X G z_abs
  have y_all := PySem.W.mg_none_of X G z_all
  have y_bool := PySem.W.mg_none_of X G z_bool
  have y_int := PySem.W.mg_none_of X G z_int
  have y_isinstance := PySem.W.mg_none_of X G z_isinstance
  have y_len := PySem.W.mg_none_of X G z_len
  have y_list := PySem.W.mg_none_of X G z_list
  have y_range := PySem.W.mg_none_of X G z_range
  have y_sum := PySem.W.mg_none_of X G z_sum
  have y_tuple := PySem.W.mg_none_of X G z_tuple
  have b0 := F0.binds (ps := ["one", "other"]) fun _ _ _ _ _ _ us hl => match us, hl with | [_, _], _ => rfl
  have b1 := F1.binds (ps := ["above", "below"]) fun _ _ _ _ _ _ us hl => match us, hl with | [_, _], _ => rfl
  have b2 := F2.binds (ps := ["value"]) fun _ _ _ _ _ _ us hl => match us, hl with | [_], _ => rfl
  have b3 := F3.binds (ps := ["one", "other"]) fun _ _ _ _ _ _ us hl => match us, hl with | [_, _], _ => rfl
  have b4 := F4.binds (ps := ["one", "other"]) fun _ _ _ _ _ _ us hl => match us, hl with | [_, _], _ => rfl
  have b5 := F5.binds (ps := ["one", "other"]) fun _ _ _ _ _ _ us hl => match us, hl with | [_, _], _ => rfl
  have b6 := F6.binds (ps := ["one", "other"]) fun _ _ _ _ _ _ us hl => match us, hl with | [_, _], _ => rfl
  have b7 := F7.binds (ps := ["one", "other"]) fun _ _ _ _ _ _ us hl => match us, hl with | [_, _], _ => rfl
  have b8 := F8.binds (ps := ["row"]) fun _ _ _ _ _ _ us hl => match us, hl with | [_], _ => rfl
  have b9 := F9.binds (ps := ["row"]) fun _ _ _ _ _ _ us hl => match us, hl with | [_], _ => rfl
  have b10 := F10.binds (ps := ["one"]) fun _ _ _ _ _ _ us hl => match us, hl with | [_], _ => rfl
  have b11 := F11.binds (ps := ["one"]) fun _ _ _ _ _ _ us hl => match us, hl with | [_], _ => rfl
  have b12 := F12.binds (ps := ["one"]) fun _ _ _ _ _ _ us hl => match us, hl with | [_], _ => rfl
  have b13 := F13.binds (ps := ["value", "many"]) fun _ _ _ _ _ _ us hl => match us, hl with | [_, _], _ => rfl
  have b14 := F14.binds (ps := ["row"]) fun _ _ _ _ _ _ us hl => match us, hl with | [_], _ => rfl
  have b15 := F15.binds (ps := ["row", "point"]) fun _ _ _ _ _ _ us hl => match us, hl with | [_, _], _ => rfl
  have b16 := F16.binds (ps := ["value", "low", "high"]) fun _ _ _ _ _ _ us hl => match us, hl with | [_, _, _], _ => rfl
  have b17 := F17.binds (ps := ["value", "many", "most"]) fun _ _ _ _ _ _ us hl => match us, hl with | [_, _, _], _ => rfl
  have b18 := F18.binds (ps := ["value", "many"]) fun _ _ _ _ _ _ us hl => match us, hl with | [_, _], _ => rfl
  have b19 := F19.binds (ps := ["value"]) fun _ _ _ _ _ _ us hl => match us, hl with | [_], _ => rfl
  have b20 := F20.binds (ps := ["row", "point"]) fun _ _ _ _ _ _ us hl => match us, hl with | [_, _], _ => rfl
  have b21 := F21.binds (ps := ["system", "point"]) fun _ _ _ _ _ _ us hl => match us, hl with | [_, _], _ => rfl
  have b22 := F22.binds (ps := ["system", "value"]) fun _ _ _ _ _ _ us hl => match us, hl with | [_, _], _ => rfl
  have b23 := F23.binds (ps := ["system", "value"]) fun _ _ _ _ _ _ us hl => match us, hl with | [_, _], _ => rfl
  have b24 := F24.binds (ps := ["system", "weights"]) fun _ _ _ _ _ _ us hl => match us, hl with | [_, _], _ => rfl
  have b25 := F25.binds (ps := ["system", "value"]) fun _ _ _ _ _ _ us hl => match us, hl with | [_, _], _ => rfl
  have b26 := F26.binds (ps := ["system", "row", "value"]) fun _ _ _ _ _ _ us hl => match us, hl with | [_, _, _], _ => rfl
  have b27 := F27.binds (ps := ["row", "point"]) fun _ _ _ _ _ _ us hl => match us, hl with | [_, _], _ => rfl
  have b28 := F28.binds (ps := ["system", "point"]) fun _ _ _ _ _ _ us hl => match us, hl with | [_, _], _ => rfl
  have b29 := F29.binds (ps := ["system", "row"]) fun _ _ _ _ _ _ us hl => match us, hl with | [_, _], _ => rfl
  have b30 := F30.binds (ps := ["system", "k"]) fun _ _ _ _ _ _ us hl => match us, hl with | [_, _], _ => rfl
  have b31 := F31.binds (ps := ["system"]) fun _ _ _ _ _ _ us hl => match us, hl with | [_], _ => rfl
  have b32 := F32.binds (ps := ["row"]) fun _ _ _ _ _ _ us hl => match us, hl with | [_], _ => rfl
  have b33 := F33.binds (ps := ["script"]) fun _ _ _ _ _ _ us hl => match us, hl with | [_], _ => rfl
  have b34 := F34.binds (ps := ["state", "most"]) fun _ _ _ _ _ _ us hl => match us, hl with | [_, _], _ => rfl
  have b35 := F35.binds (ps := ["state", "row"]) fun _ _ _ _ _ _ us hl => match us, hl with | [_, _], _ => rfl
  have b36 := F36.binds (ps := ["above", "below"]) fun _ _ _ _ _ _ us hl => match us, hl with | [_, _], _ => rfl
  have b37 := F37.binds (ps := ["value"]) fun _ _ _ _ _ _ us hl => match us, hl with | [_], _ => rfl
  have b38 := F38.binds (ps := ["value", "many"]) fun _ _ _ _ _ _ us hl => match us, hl with | [_, _], _ => rfl
  have b39 := F39.binds (ps := ["one", "other"]) fun _ _ _ _ _ _ us hl => match us, hl with | [_, _], _ => rfl
  have b40 := F40.binds (ps := ["one", "other"]) fun _ _ _ _ _ _ us hl => match us, hl with | [_, _], _ => rfl
  have b41 := F41.binds (ps := ["one", "other"]) fun _ _ _ _ _ _ us hl => match us, hl with | [_, _], _ => rfl
  have b42 := F42.binds (ps := ["one", "other"]) fun _ _ _ _ _ _ us hl => match us, hl with | [_, _], _ => rfl
  have b43 := F43.binds (ps := ["numbers", "point"]) fun _ _ _ _ _ _ us hl => match us, hl with | [_, _], _ => rfl
  have b44 := F44.binds (ps := ["state", "most", "rows", "closed"]) fun _ _ _ _ _ _ us hl => match us, hl with | [_, _, _, _], _ => rfl
  have b45 := F45.binds (ps := ["system", "point"]) fun _ _ _ _ _ _ us hl => match us, hl with | [_, _], _ => rfl
  have b46 := F46.binds (ps := ["system", "weights"]) fun _ _ _ _ _ _ us hl => match us, hl with | [_, _], _ => rfl
  have b47 := F47.binds (ps := ["system", "value"]) fun _ _ _ _ _ _ us hl => match us, hl with | [_, _], _ => rfl
  have b48 := F48.binds (ps := ["system", "value"]) fun _ _ _ _ _ _ us hl => match us, hl with | [_, _], _ => rfl
  have b49 := F49.binds (ps := ["state"]) fun _ _ _ _ _ _ us hl => match us, hl with | [_], _ => rfl
  have b50 := F50.binds (ps := ["value", "many"]) fun _ _ _ _ _ _ us hl => match us, hl with | [_, _], _ => rfl
  have b51 := F51.binds (ps := ["value"]) fun _ _ _ _ _ _ us hl => match us, hl with | [_], _ => rfl
  have b52 := F52.binds (ps := ["state"]) fun _ _ _ _ _ _ us hl => match us, hl with | [_], _ => rfl
  refine ⟨PySem.W.fnOf "law" "law" (defArgs s_law) (defBody s_law) (defScope s_law) .none kV53 dc53 pm53 an53 cd53 ct53, fun s v => .of_eq rfl, fun base _ _ => ?_⟩
  have O_divisor := ok_divisor (P := l.prog) (w := w) (mg := mg) (base := base) (2 ^ 3000) y_abs F0
  have C_divisor := cal_mk F0 O_divisor (PySem.W.mg_of X G a0) b0
  have O_part := ok_part (P := l.prog) (w := w) (mg := mg) (base := base) (2 ^ 3000) C_divisor F1
  have C_part := cal_mk F1 O_part (PySem.W.mg_of X G a1) b1
  have O_is_part := ok_is_part (P := l.prog) (w := w) (mg := mg) (base := base) (2 ^ 3000) y_all y_bool y_int y_isinstance y_len y_tuple C_divisor F2
  have C_is_part := cal_mk F2 O_is_part (PySem.W.mg_of X G a2) b2
  have O_plus := ok_plus (P := l.prog) (w := w) (mg := mg) (base := base) (2 ^ 3000) C_part F3
  have C_plus := cal_mk F3 O_plus (PySem.W.mg_of X G a3) b3
  have O_minus := ok_minus (P := l.prog) (w := w) (mg := mg) (base := base) (2 ^ 3000) C_part F4
  have C_minus := cal_mk F4 O_minus (PySem.W.mg_of X G a4) b4
  have O_times := ok_times (P := l.prog) (w := w) (mg := mg) (base := base) (2 ^ 3000) C_part F5
  have C_times := cal_mk F5 O_times (PySem.W.mg_of X G a5) b5
  have O_over := ok_over (P := l.prog) (w := w) (mg := mg) (base := base) (2 ^ 3000) C_part F6
  have C_over := cal_mk F6 O_over (PySem.W.mg_of X G a6) b6
  have O_is_less := ok_is_less (P := l.prog) (w := w) (mg := mg) (base := base) (2 ^ 3000) F7
  have C_is_less := cal_mk F7 O_is_less (PySem.W.mg_of X G a7) b7
  have O_total := ok_total (P := l.prog) (w := w) (mg := mg) (base := base) (2 ^ 3000) C_plus F8
  have C_total := cal_mk F8 O_total (PySem.W.mg_of X G a8) b8
  have O_least_of := ok_least_of (P := l.prog) (w := w) (mg := mg) (base := base) (2 ^ 3000) C_is_less F9
  have C_least_of := cal_mk F9 O_least_of (PySem.W.mg_of X G a9) b9
  have O_whole_below := ok_whole_below (P := l.prog) (w := w) (mg := mg) (base := base) (2 ^ 3000) F10
  have C_whole_below := cal_mk F10 O_whole_below (PySem.W.mg_of X G a10) b10
  have O_whole_above := ok_whole_above (P := l.prog) (w := w) (mg := mg) (base := base) (2 ^ 3000) F11
  have C_whole_above := cal_mk F11 O_whole_above (PySem.W.mg_of X G a11) b11
  have O_is_whole_part := ok_is_whole_part (P := l.prog) (w := w) (mg := mg) (base := base) (2 ^ 3000) F12
  have C_is_whole_part := cal_mk F12 O_is_whole_part (PySem.W.mg_of X G a12) b12
  have O_are_parts := ok_are_parts (P := l.prog) (w := w) (mg := mg) (base := base) (2 ^ 3000) y_all y_isinstance y_len y_tuple C_is_part F13
  have C_are_parts := cal_mk F13 O_are_parts (PySem.W.mg_of X G a13) b13
  have O_scaled := ok_scaled (P := l.prog) (w := w) (mg := mg) (base := base) (2 ^ 3000) y_tuple C_divisor F14
  have C_scaled := cal_mk F14 O_scaled (PySem.W.mg_of X G a14) b14
  have O_dot := ok_dot (P := l.prog) (w := w) (mg := mg) (base := base) (2 ^ 3000) y_len y_range C_times C_total F15
  have C_dot := cal_mk F15 O_dot (PySem.W.mg_of X G a15) b15
  have O_is_whole := ok_is_whole (P := l.prog) (w := w) (mg := mg) (base := base) (2 ^ 3000) y_bool y_int y_isinstance F16
  have C_is_whole := cal_mk F16 O_is_whole (PySem.W.mg_of X G a16) b16
  have O_are_numbers := ok_are_numbers (P := l.prog) (w := w) (mg := mg) (base := base) (2 ^ 3000) y_all y_isinstance y_len y_tuple C_is_whole F17
  have C_are_numbers := cal_mk F17 O_are_numbers (PySem.W.mg_of X G a17) b17
  have O_is_row := ok_is_row (P := l.prog) (w := w) (mg := mg) (base := base) (2 ^ 3000) y_isinstance y_len y_tuple c_MOST_NUMBER c_KINDS C_are_numbers C_is_whole F18
  have C_is_row := cal_mk F18 O_is_row (PySem.W.mg_of X G a18) b18
  have O_is_system := ok_is_system (P := l.prog) (w := w) (mg := mg) (base := base) (2 ^ 3000) y_all y_isinstance y_len y_tuple c_MOST_ROWS c_MOST_UNKNOWNS C_is_row C_is_whole F19
  have C_is_system := cal_mk F19 O_is_system (PySem.W.mg_of X G a19) b19
  have O_keeps := ok_keeps (P := l.prog) (w := w) (mg := mg) (base := base) (2 ^ 3000) C_dot C_is_less F20
  have C_keeps := cal_mk F20 O_keeps (PySem.W.mg_of X G a20) b20
  have O_keeps_all := ok_keeps_all (P := l.prog) (w := w) (mg := mg) (base := base) (2 ^ 3000) y_all C_keeps F21
  have C_keeps_all := cal_mk F21 O_keeps_all (PySem.W.mg_of X G a21) b21
  have O_is_point := ok_is_point (P := l.prog) (w := w) (mg := mg) (base := base) (2 ^ 3000) C_are_parts C_keeps_all F22
  have C_is_point := cal_mk F22 O_is_point (PySem.W.mg_of X G a22) b22
  have O_are_weights := ok_are_weights (P := l.prog) (w := w) (mg := mg) (base := base) (2 ^ 3000) y_all y_len y_range C_are_parts F23
  have C_are_weights := cal_mk F23 O_are_weights (PySem.W.mg_of X G a23) b23
  have O_weighed := ok_weighed (P := l.prog) (w := w) (mg := mg) (base := base) (2 ^ 3000) y_len y_range y_tuple C_plus C_times F24
  have C_weighed := cal_mk F24 O_weighed (PySem.W.mg_of X G a24) b24
  have O_is_barred := ok_is_barred (P := l.prog) (w := w) (mg := mg) (base := base) (2 ^ 3000) y_all C_are_weights C_weighed F25
  have C_is_barred := cal_mk F25 O_is_barred (PySem.W.mg_of X G a25) b25
  have O_shows_row := ok_shows_row (P := l.prog) (w := w) (mg := mg) (base := base) (2 ^ 3000) y_tuple C_are_weights C_is_less C_weighed F26
  have C_shows_row := cal_mk F26 O_shows_row (PySem.W.mg_of X G a26) b26
  have O_slack := ok_slack (P := l.prog) (w := w) (mg := mg) (base := base) (2 ^ 3000) C_dot C_plus F27
  have C_slack := cal_mk F27 O_slack (PySem.W.mg_of X G a27) b27
  have O_tight := ok_tight (P := l.prog) (w := w) (mg := mg) (base := base) (2 ^ 3000) y_len y_range C_slack F28
  have C_tight := cal_mk F28 O_tight (PySem.W.mg_of X G a28) b28
  have O_with_row := ok_with_row (P := l.prog) (w := w) (mg := mg) (base := base) (2 ^ 3000) F29
  have C_with_row := cal_mk F29 O_with_row (PySem.W.mg_of X G a29) b29
  have O_without := ok_without (P := l.prog) (w := w) (mg := mg) (base := base) (2 ^ 3000) F30
  have C_without := cal_mk F30 O_without (PySem.W.mg_of X G a30) b30
  have O_loosened := ok_loosened (P := l.prog) (w := w) (mg := mg) (base := base) (2 ^ 3000) y_tuple F31
  have C_loosened := cal_mk F31 O_loosened (PySem.W.mg_of X G a31) b31
  have O_turned := ok_turned (P := l.prog) (w := w) (mg := mg) (base := base) (2 ^ 3000) y_tuple F32
  have C_turned := cal_mk F32 O_turned (PySem.W.mg_of X G a32) b32
  have O_law_state := ok_law_state (P := l.prog) (w := w) (mg := mg) (base := base) y_abs y_len F33
  have O_law_take := ok_law_take (P := l.prog) (w := w) (mg := mg) (base := base) (2 ^ 3000) y_int y_len F34
  have C_law_take := cal_mk F34 O_law_take (PySem.W.mg_of X G a34) b34
  have O_law_pick := ok_law_pick (P := l.prog) (w := w) (mg := mg) (base := base) (2 ^ 3000) y_len C_law_take F35
  have C_law_pick := cal_mk F35 O_law_pick (PySem.W.mg_of X G a35) b35
  have O_law_fr := ok_law_fr (P := l.prog) (w := w) (mg := mg) (base := base) (2 ^ 3000) y_abs y_int y_range F36
  have C_law_fr := cal_mk F36 O_law_fr (PySem.W.mg_of X G a36) b36
  have O_law_is_fr := ok_law_is_fr (P := l.prog) (w := w) (mg := mg) (base := base) (2 ^ 3000) y_bool y_int y_isinstance y_len y_tuple C_law_fr F37
  have C_law_is_fr := cal_mk F37 O_law_is_fr (PySem.W.mg_of X G a37) b37
  have O_law_are_frs := ok_law_are_frs (P := l.prog) (w := w) (mg := mg) (base := base) (2 ^ 3000) y_isinstance y_len y_tuple C_law_is_fr F38
  have C_law_are_frs := cal_mk F38 O_law_are_frs (PySem.W.mg_of X G a38) b38
  have O_law_add := ok_law_add (P := l.prog) (w := w) (mg := mg) (base := base) (2 ^ 3000) C_law_fr F39
  have C_law_add := cal_mk F39 O_law_add (PySem.W.mg_of X G a39) b39
  have O_law_mul := ok_law_mul (P := l.prog) (w := w) (mg := mg) (base := base) (2 ^ 3000) C_law_fr F40
  have C_law_mul := cal_mk F40 O_law_mul (PySem.W.mg_of X G a40) b40
  have O_law_sub := ok_law_sub (P := l.prog) (w := w) (mg := mg) (base := base) (2 ^ 3000) C_law_add F41
  have C_law_sub := cal_mk F41 O_law_sub (PySem.W.mg_of X G a41) b41
  have O_law_sign := ok_law_sign (P := l.prog) (w := w) (mg := mg) (base := base) (2 ^ 3000) F42
  have C_law_sign := cal_mk F42 O_law_sign (PySem.W.mg_of X G a42) b42
  have O_law_at := ok_law_at (P := l.prog) (w := w) (mg := mg) (base := base) (2 ^ 3000) y_len y_range C_law_add C_law_fr F43
  have C_law_at := cal_mk F43 O_law_at (PySem.W.mg_of X G a43) b43
  have O_law_system := ok_law_system (P := l.prog) (w := w) (mg := mg) (base := base) (2 ^ 3000) y_range y_sum y_tuple C_law_pick C_law_take F44
  have C_law_system := cal_mk F44 O_law_system (PySem.W.mg_of X G a44) b44
  have O_law_keeps := ok_law_keeps (P := l.prog) (w := w) (mg := mg) (base := base) (2 ^ 3000) C_law_at C_law_sign F45
  have C_law_keeps := cal_mk F45 O_law_keeps (PySem.W.mg_of X G a45) b45
  have O_law_weigh := ok_law_weigh (P := l.prog) (w := w) (mg := mg) (base := base) (2 ^ 3000) y_len y_range C_law_add C_law_mul F46
  have C_law_weigh := cal_mk F46 O_law_weigh (PySem.W.mg_of X G a46) b46
  have O_law_weights := ok_law_weights (P := l.prog) (w := w) (mg := mg) (base := base) (2 ^ 3000) y_len y_range C_law_are_frs F47
  have C_law_weights := cal_mk F47 O_law_weights (PySem.W.mg_of X G a47) b47
  have O_law_bars := ok_law_bars (P := l.prog) (w := w) (mg := mg) (base := base) (2 ^ 3000) y_len C_law_weigh C_law_weights F48
  have C_law_bars := cal_mk F48 O_law_bars (PySem.W.mg_of X G a48) b48
  have O_law_drawn := ok_law_drawn (P := l.prog) (w := w) (mg := mg) (base := base) (2 ^ 3000) C_law_fr C_law_take F49
  have C_law_drawn := cal_mk F49 O_law_drawn (PySem.W.mg_of X G a49) b49
  have O_law_is_row := ok_law_is_row (P := l.prog) (w := w) (mg := mg) (base := base) (2 ^ 3000) y_bool y_int y_isinstance y_len y_tuple F50
  have C_law_is_row := cal_mk F50 O_law_is_row (PySem.W.mg_of X G a50) b50
  have O_law_is_system := ok_law_is_system (P := l.prog) (w := w) (mg := mg) (base := base) (2 ^ 3000) y_bool y_int y_isinstance y_len y_tuple C_law_is_row F51
  have C_law_is_system := cal_mk F51 O_law_is_system (PySem.W.mg_of X G a51) b51
  have O_law_reckons := ok_law_reckons (P := l.prog) (w := w) (mg := mg) (base := base) (2 ^ 3000) y_abs y_int y_len y_list y_range y_tuple C_law_add C_law_are_frs C_law_at C_law_drawn C_law_fr C_law_is_fr C_law_mul C_law_pick C_law_sign C_law_sub C_law_take C_are_parts C_divisor C_dot C_is_less C_is_part C_is_whole_part C_least_of C_minus C_over C_part C_plus C_scaled C_times C_total C_whole_above C_whole_below F52
  have C_law_reckons := cal_mk F52 O_law_reckons (PySem.W.mg_of X G a52) b52
  exact ok_law (2 ^ 3000) y_isinstance y_len y_list y_range y_tuple c_MOST_ROWS c_MOST_UNKNOWNS c_MOST_NUMBER c_KINDS C_law_are_frs C_law_at C_law_bars C_law_drawn C_law_is_row C_law_is_system C_law_keeps C_law_pick C_law_reckons C_law_sign C_law_sub C_law_system C_law_take C_law_weigh C_law_weights C_are_numbers C_are_weights C_is_barred C_is_point C_is_row C_is_system C_is_whole C_keeps C_keeps_all C_loosened C_shows_row C_slack C_tight C_turned C_weighed C_with_row C_without (fun S g _ => law_ev (Nat.pow_le_pow_right (by decide) (by decide)) g) F53 O_law_state (PySem.W.mg_of X G a33) F33.kp b33
end K01
open PySem PySem.W PyProof.Rows
set_option maxHeartbeats 0 in
theorem PySem.Challenge.cw_boundwright_k01_parts_rows_and_weights_holds : PySem.Challenge.rw_boundwright_k01_parts_rows_and_weights.Holds := by
  w_on; o_law; k_head; (case hw => w_witness2)
  k_fill
  refine L2.walk_of (l := PySem.Challenge.rw_boundwright_k01_parts_rows_and_weights) (n := 63) (k := 9) (x := "script") (CX := fun _ => L2.CX0) (sp := fun w => DV.spLaw _) rfl (by decide) rfl ⟨rfl, by decide, by decide⟩ (fun w h Y => PySem.W.kIn_of Y) ?F (fun _ _ a ns hl _ hS => ⟨a, ns, rfl, hS, hl, fun _ => rfl⟩) (fun _ _ _ _ _ h => h)
  case F =>
    intro w mg fa h KX G hmg
    refine' K01.all_mk KX G hmg ?a0 ?l0 ?c0 ?k0 ?a1 ?l1 ?c1 ?k1 ?a2 ?l2 ?c2 ?k2 ?a3 ?l3 ?c3 ?k3 ?a4 ?l4 ?c4 ?k4 ?a5 ?l5 ?c5 ?k5 ?a6 ?l6 ?c6 ?k6 ?a7 ?l7 ?c7 ?k7 ?a8 ?l8 ?c8 ?k8 ?a9 ?l9 ?c9 ?k9 ?a10 ?l10 ?c10 ?k10 ?a11 ?l11 ?c11 ?k11 ?a12 ?l12 ?c12 ?k12 ?a13 ?l13 ?c13 ?k13 ?a14 ?l14 ?c14 ?k14 ?a15 ?l15 ?c15 ?k15 ?a16 ?l16 ?c16 ?k16 ?a17 ?l17 ?c17 ?k17 ?a18 ?l18 ?c18 ?k18 ?a19 ?l19 ?c19 ?k19 ?a20 ?l20 ?c20 ?k20 ?a21 ?l21 ?c21 ?k21 ?a22 ?l22 ?c22 ?k22 ?a23 ?l23 ?c23 ?k23 ?a24 ?l24 ?c24 ?k24 ?a25 ?l25 ?c25 ?k25 ?a26 ?l26 ?c26 ?k26 ?a27 ?l27 ?c27 ?k27 ?a28 ?l28 ?c28 ?k28 ?a29 ?l29 ?c29 ?k29 ?a30 ?l30 ?c30 ?k30 ?a31 ?l31 ?c31 ?k31 ?a32 ?l32 ?c32 ?k32 ?a33 ?l33 ?c33 ?k33 ?a34 ?l34 ?c34 ?k34 ?a35 ?l35 ?c35 ?k35 ?a36 ?l36 ?c36 ?k36 ?a37 ?l37 ?c37 ?k37 ?a38 ?l38 ?c38 ?k38 ?a39 ?l39 ?c39 ?k39 ?a40 ?l40 ?c40 ?k40 ?a41 ?l41 ?c41 ?k41 ?a42 ?l42 ?c42 ?k42 ?a43 ?l43 ?c43 ?k43 ?a44 ?l44 ?c44 ?k44 ?a45 ?l45 ?c45 ?k45 ?a46 ?l46 ?c46 ?k46 ?a47 ?l47 ?c47 ?k47 ?a48 ?l48 ?c48 ?k48 ?a49 ?l49 ?c49 ?k49 ?a50 ?l50 ?c50 ?k50 ?a51 ?l51 ?c51 ?k51 ?a52 ?l52 ?c52 ?k52 ?a53 ?l53 ?c53 ?k53 ?z_abs ?z_all ?z_bool ?z_int ?z_isinstance ?z_len ?z_list ?z_range ?z_sum ?z_tuple ?g_KINDS ?h_KINDS ?g_MOST_NUMBER ?g_MOST_ROWS ?g_MOST_UNKNOWNS
    (case a0 => k_is); (case l0 => k_is); (case c0 => k_is); (case k0 => k_is); (case a1 => k_is); (case l1 => k_is)
    (case c1 => k_is); (case k1 => k_is); (case a2 => k_is); (case l2 => k_is); (case c2 => k_is); (case k2 => k_is)
    (case a3 => k_is); (case l3 => k_is); (case c3 => k_is); (case k3 => k_is); (case a4 => k_is); (case l4 => k_is)
    (case c4 => k_is); (case k4 => k_is); (case a5 => k_is); (case l5 => k_is); (case c5 => k_is); (case k5 => k_is)
    (case a6 => k_is); (case l6 => k_is); (case c6 => k_is); (case k6 => k_is); (case a7 => k_is); (case l7 => k_is)
    (case c7 => k_is); (case k7 => k_is); (case a8 => k_is); (case l8 => k_is); (case c8 => k_is); (case k8 => k_is)
    (case a9 => k_is); (case l9 => k_is); (case c9 => k_is); (case k9 => k_is); (case a10 => k_is); (case l10 => k_is)
    (case c10 => k_is); (case k10 => k_is); (case a11 => k_is); (case l11 => k_is); (case c11 => k_is); (case k11 => k_is)
    (case a12 => k_is); (case l12 => k_is); (case c12 => k_is); (case k12 => k_is); (case a13 => k_is); (case l13 => k_is)
    (case c13 => k_is); (case k13 => k_is); (case a14 => k_is); (case l14 => k_is); (case c14 => k_is); (case k14 => k_is)
    (case a15 => k_is); (case l15 => k_is); (case c15 => k_is); (case k15 => k_is); (case a16 => k_is); (case l16 => k_is)
    (case c16 => k_is); (case k16 => k_is); (case a17 => k_is); (case l17 => k_is); (case c17 => k_is); (case k17 => k_is)
    (case a18 => k_is); (case l18 => k_is); (case c18 => k_is); (case k18 => k_is); (case a19 => k_is); (case l19 => k_is)
    (case c19 => k_is); (case k19 => k_is); (case a20 => k_is); (case l20 => k_is); (case c20 => k_is); (case k20 => k_is)
    (case a21 => k_is); (case l21 => k_is); (case c21 => k_is); (case k21 => k_is); (case a22 => k_is); (case l22 => k_is)
    (case c22 => k_is); (case k22 => k_is); (case a23 => k_is); (case l23 => k_is); (case c23 => k_is); (case k23 => k_is)
    (case a24 => k_is); (case l24 => k_is); (case c24 => k_is); (case k24 => k_is); (case a25 => k_is); (case l25 => k_is)
    (case c25 => k_is); (case k25 => k_is); (case a26 => k_is); (case l26 => k_is); (case c26 => k_is); (case k26 => k_is)
    (case a27 => k_is); (case l27 => k_is); (case c27 => k_is); (case k27 => k_is); (case a28 => k_is); (case l28 => k_is)
    (case c28 => k_is); (case k28 => k_is); (case a29 => k_is); (case l29 => k_is); (case c29 => k_is); (case k29 => k_is)
    (case a30 => k_is); (case l30 => k_is); (case c30 => k_is); (case k30 => k_is); (case a31 => k_is); (case l31 => k_is)
    (case c31 => k_is); (case k31 => k_is); (case a32 => k_is); (case l32 => k_is); (case c32 => k_is); (case k32 => k_is)
    (case a33 => k_is); (case l33 => k_is); (case c33 => k_is); (case k33 => k_is); (case a34 => k_is); (case l34 => k_is)
    (case c34 => k_is); (case k34 => k_is); (case a35 => k_is); (case l35 => k_is); (case c35 => k_is); (case k35 => k_is)
    (case a36 => k_is); (case l36 => k_is); (case c36 => k_is); (case k36 => k_is); (case a37 => k_is); (case l37 => k_is)
    (case c37 => k_is); (case k37 => k_is); (case a38 => k_is); (case l38 => k_is); (case c38 => k_is); (case k38 => k_is)
    (case a39 => k_is); (case l39 => k_is); (case c39 => k_is); (case k39 => k_is); (case a40 => k_is); (case l40 => k_is)
    (case c40 => k_is); (case k40 => k_is); (case a41 => k_is); (case l41 => k_is); (case c41 => k_is); (case k41 => k_is)
    (case a42 => k_is); (case l42 => k_is); (case c42 => k_is); (case k42 => k_is); (case a43 => k_is); (case l43 => k_is)
    (case c43 => k_is); (case k43 => k_is); (case a44 => k_is); (case l44 => k_is); (case c44 => k_is); (case k44 => k_is)
    (case a45 => k_is); (case l45 => k_is); (case c45 => k_is); (case k45 => k_is); (case a46 => k_is); (case l46 => k_is)
    (case c46 => k_is); (case k46 => k_is); (case a47 => k_is); (case l47 => k_is); (case c47 => k_is); (case k47 => k_is)
    (case a48 => k_is); (case l48 => k_is); (case c48 => k_is); (case k48 => k_is); (case a49 => k_is); (case l49 => k_is)
    (case c49 => k_is); (case k49 => k_is); (case a50 => k_is); (case l50 => k_is); (case c50 => k_is); (case k50 => k_is)
    (case a51 => k_is); (case l51 => k_is); (case c51 => k_is); (case k51 => k_is); (case a52 => k_is); (case l52 => k_is)
    (case c52 => k_is); (case k52 => k_is); (case a53 => k_is); (case l53 => k_is); (case c53 => k_is); (case k53 => k_is)
    (case z_abs => k_is); (case z_all => k_is); (case z_bool => k_is); (case z_int => k_is); (case z_isinstance => k_is); (case z_len => k_is)
    (case z_list => k_is); (case z_range => k_is); (case z_sum => k_is); (case z_tuple => k_is); (case g_KINDS => k_is); (case h_KINDS => k_is)
    (case g_MOST_NUMBER => k_is); (case g_MOST_ROWS => k_is); (case g_MOST_UNKNOWNS => k_is)

