import PyProof.Rows.All
import Wide.All
import OpenK.AllK
import Wide.FinOn
import HandS.ForMost
import HandS.Deep
import HandS.DictComp
import HandS.Conv
import HandS.Flow
import HandS.Style
import HandS.Codes
import HandS.Steps
import HandS.StrMore
import HandS.Replace
import HandS.RaiseMore
import HandS.SortInts
import PyProof.Rows.ReprShort
import PySem.Challenge.RW_movedyears_k55_records
set_option Elab.async false
set_option linter.all false
set_option maxRecDepth 100000
set_option maxHeartbeats 4000000
/-! A layer over HandS: data, frozen and changing heaps, slots; judgements whose readings know no heap. -/
namespace DL
open PySem L2

/-! ### data -/
inductive D where
  | non | bl (b : Bool) | int (i : Int) | str (s : Str)
  | lst (xs : List D) | tup (xs : List D) | scr (xs : List D)
  | dk (ks : List Key) (xs : List D) | dt (ks : List (List Key)) (xs : List D)
  | ins (c : Str) (fs : List Str) (xs : List D)
  deriving Inhabited

/-- what the module's text has written -/
structure Cy where
  K : PySem.W.Frag
  mg : Str → Option Value

mutual
/-- the value v stands for the data d in the heap F -/
def Dr (c : Cy) (F : Hp) (v : V) : D → Prop
  | .non => v = .non
  | .bl b => v = .bl b
  | .int i => v = .int i
  | .str s => v = .str s
  | .lst ds => ∃ a vs, v = .ref a ∧ F a = some (.lst vs) ∧ DrL c F vs ds
  | .tup ds => ∃ a vs, v = .ref a ∧ F a = some (.tup vs) ∧ DrL c F vs ds
  | .scr ds => ∃ a vs, v = .ref a ∧ SqL c.K F a vs ∧ DrL c F vs ds
  | .dk ks ds => ∃ a ps, v = .ref a ∧ Rd F a (.dK ps) ∧ ps.map (·.1) = ks ∧ DrL c F (ps.map (·.2)) ds
  | .dt ks ds => ∃ a ps, v = .ref a ∧ Rd F a (.dT ps) ∧ ps.map (·.1) = ks ∧ DrL c F (ps.map (·.2)) ds
  | .ins n fs ds => ∃ a C dx ps, v = .ref a ∧ F a = some (.ins C dx ps) ∧ c.mg n = some (.ref C) ∧ ps.map (·.1) = fs ∧ DrL c F (ps.map (·.2)) ds
def DrL (c : Cy) (F : Hp) (vs : List V) : List D → Prop
  | [] => vs = []
  | d :: ds => ∃ v vr, vs = v :: vr ∧ Dr c F v d ∧ DrL c F vr ds
end

/-! ### heaps that grow -/
/-- an object that no lock changes -/
def Pl : HO → Prop
  | .lst _ => True
  | .tup _ => True
  | .ins _ _ _ => True
  | .own _ => True
  | _ => False
/-- readable things stay readable -/
structure LeD (F G : Hp) : Prop where
  pl : ∀ a o, F a = some o → Pl o → G a = some o
  rd : ∀ a u, Rd F a u → Rd G a u
theorem LeD.refl (F : Hp) : LeD F F := ⟨fun _ _ h _ => h, fun _ _ h => h⟩
theorem LeD.trans {F G J : Hp} (a : LeD F G) (b : LeD G J) : LeD F J := ⟨fun x o h p => b.pl x o (a.pl x o h p) p, fun x u h => b.rd x u (a.rd x u h)⟩
theorem same_rd {F G : Hp} (s : Same F G) {a : Addr} {u : HO} (h : Rd F a u) : Rd G a u := by
  rcases h with h | ⟨o, h⟩
  · exact .inl (s _ _ h)
  · exact .inr ⟨o, s _ _ h⟩
theorem LeD.seq {F G : Hp} (s : LeD F G) {K : PySem.W.Frag} {a : Addr} {xs : List V} (h : SqL K F a xs) : SqL K G a xs := by
  rcases h with h | h
  · exact .inl (s.rd _ _ h)
  · exact .inr h
theorem LeD.of {F G : Hp} (s : Same F G) : LeD F G := ⟨fun a o h _ => s a o h, fun a u h => same_rd s h⟩

mutual
theorem Dr.leD {c : Cy} {F G : Hp} (s : LeD F G) : ∀ (d : D) {v : V}, Dr c F v d → Dr c G v d
  | .non, v, h => by simpa only [Dr] using h
  | .bl b, v, h => by simpa only [Dr] using h
  | .int i, v, h => by simpa only [Dr] using h
  | .str x, v, h => by simpa only [Dr] using h
  | .lst ds, v, h => by
    simp only [Dr] at h ⊢
    obtain ⟨a, vs, e, q, r⟩ := h
    exact ⟨a, vs, e, s.pl _ _ q trivial, DrL.leD s ds r⟩
  | .tup ds, v, h => by
    simp only [Dr] at h ⊢
    obtain ⟨a, vs, e, q, r⟩ := h
    exact ⟨a, vs, e, s.pl _ _ q trivial, DrL.leD s ds r⟩
  | .scr ds, v, h => by
    simp only [Dr] at h ⊢
    obtain ⟨a, vs, e, q, r⟩ := h
    exact ⟨a, vs, e, s.seq q, DrL.leD s ds r⟩
  | .dk ks ds, v, h => by
    simp only [Dr] at h ⊢
    obtain ⟨a, vs, e, q, k, r⟩ := h
    exact ⟨a, vs, e, s.rd _ _ q, k, DrL.leD s ds r⟩
  | .dt ks ds, v, h => by
    simp only [Dr] at h ⊢
    obtain ⟨a, vs, e, q, k, r⟩ := h
    exact ⟨a, vs, e, s.rd _ _ q, k, DrL.leD s ds r⟩
  | .ins n fs ds, v, h => by
    simp only [Dr] at h ⊢
    obtain ⟨a, C, dx, ps, e, q, m, k, r⟩ := h
    exact ⟨a, C, dx, ps, e, s.pl _ _ q trivial, m, k, DrL.leD s ds r⟩
theorem DrL.leD {c : Cy} {F G : Hp} (s : LeD F G) : ∀ (ds : List D) {vs : List V}, DrL c F vs ds → DrL c G vs ds
  | [], vs, h => by simpa only [DrL] using h
  | d :: ds, vs, h => by
    simp only [DrL] at h ⊢
    obtain ⟨v, vr, e, q, r⟩ := h
    exact ⟨v, vr, e, Dr.leD s d q, DrL.leD s ds r⟩
end
theorem Dr.up {c : Cy} {F G : Hp} {d : D} {v : V} (s : Same F G) (h : Dr c F v d) : Dr c G v d := Dr.leD (.of s) d h
theorem DrL.up {c : Cy} {F G : Hp} {ds : List D} {vs : List V} (s : Same F G) (h : DrL c F vs ds) : DrL c G vs ds := DrL.leD (.of s) ds h

theorem DrL.nil {c : Cy} {F : Hp} : DrL c F [] [] := by simp only [DrL]
theorem DrL.cons {c : Cy} {F : Hp} {v : V} {vs : List V} {d : D} {ds : List D} (h : Dr c F v d) (r : DrL c F vs ds) : DrL c F (v :: vs) (d :: ds) := by
  simp only [DrL]
  exact ⟨v, vs, rfl, h, r⟩
theorem DrL.nil_iff {c : Cy} {F : Hp} {vs : List V} (h : DrL c F vs []) : vs = [] := by simpa only [DrL] using h
theorem DrL.cons_iff {c : Cy} {F : Hp} {vs : List V} {d : D} {ds : List D} (h : DrL c F vs (d :: ds)) : ∃ v vr, vs = v :: vr ∧ Dr c F v d ∧ DrL c F vr ds := by simpa only [DrL] using h
theorem DrL.length {c : Cy} {F : Hp} : ∀ {ds : List D} {vs : List V}, DrL c F vs ds → vs.length = ds.length
  | [], vs, h => by rw [h.nil_iff]; rfl
  | d :: ds, vs, h => by
    obtain ⟨v, vr, rfl, _, r⟩ := h.cons_iff
    rw [List.length_cons, List.length_cons, DrL.length r]
theorem DrL.append {c : Cy} {F : Hp} : ∀ {ds es : List D} {vs us : List V}, DrL c F vs ds → DrL c F us es → DrL c F (vs ++ us) (ds ++ es)
  | [], es, vs, us, h, r => by rw [h.nil_iff]; exact r
  | d :: ds, es, vs, us, h, r => by
    obtain ⟨v, vr, rfl, q, t⟩ := h.cons_iff
    exact .cons q (DrL.append t r)
theorem DrL.get {c : Cy} {F : Hp} : ∀ {ds : List D} {vs : List V} {i : Nat} {d : D}, DrL c F vs ds → ds[i]? = some d → ∃ v, vs[i]? = some v ∧ Dr c F v d
  | [], _, _, _, _, e => by simp at e
  | d :: ds, vs, 0, x, h, e => by
    obtain ⟨v, vr, rfl, q, t⟩ := h.cons_iff
    simp at e; subst e
    exact ⟨v, rfl, q⟩
  | d :: ds, vs, i + 1, x, h, e => by
    obtain ⟨v, vr, rfl, q, t⟩ := h.cons_iff
    obtain ⟨u, h1, h2⟩ := DrL.get (i := i) t (by simpa using e)
    exact ⟨u, by simpa using h1, h2⟩
theorem DrL.get' {c : Cy} {F : Hp} : ∀ {ds : List D} {vs : List V} {i : Nat} {v : V}, DrL c F vs ds → vs[i]? = some v → ∃ d, ds[i]? = some d ∧ Dr c F v d
  | [], vs, i, v, h, e => by rw [h.nil_iff] at e; simp at e
  | d :: ds, vs, 0, x, h, e => by
    obtain ⟨v, vr, rfl, q, t⟩ := h.cons_iff
    simp at e; subst e
    exact ⟨d, rfl, q⟩
  | d :: ds, vs, i + 1, x, h, e => by
    obtain ⟨v, vr, rfl, q, t⟩ := h.cons_iff
    obtain ⟨u, h1, h2⟩ := DrL.get' (i := i) t (by simpa using e)
    exact ⟨u, by simpa using h1, h2⟩
theorem DrL.set {c : Cy} {F : Hp} : ∀ {ds : List D} {vs : List V} {i : Nat} {d : D} {v : V}, DrL c F vs ds → Dr c F v d → DrL c F (vs.set i v) (ds.set i d)
  | [], vs, i, d, v, h, _ => by rw [h.nil_iff]; exact .nil
  | e :: ds, vs, 0, d, v, h, q => by
    obtain ⟨u, vr, rfl, _, t⟩ := h.cons_iff
    exact .cons q t
  | e :: ds, vs, i + 1, d, v, h, q => by
    obtain ⟨u, vr, rfl, r, t⟩ := h.cons_iff
    exact .cons r (DrL.set t q)
theorem DrL.take {c : Cy} {F : Hp} : ∀ {ds : List D} {vs : List V} (n : Nat), DrL c F vs ds → DrL c F (vs.take n) (ds.take n)
  | _, _, 0, _ => .nil
  | [], vs, n + 1, h => by rw [h.nil_iff]; exact .nil
  | e :: ds, vs, n + 1, h => by
    obtain ⟨u, vr, rfl, r, t⟩ := h.cons_iff
    exact .cons r (DrL.take n t)
theorem DrL.drop {c : Cy} {F : Hp} : ∀ {ds : List D} {vs : List V} (n : Nat), DrL c F vs ds → DrL c F (vs.drop n) (ds.drop n)
  | _, _, 0, h => h
  | [], vs, n + 1, h => by rw [h.nil_iff]; exact .nil
  | e :: ds, vs, n + 1, h => by
    obtain ⟨u, vr, rfl, r, t⟩ := h.cons_iff
    exact DrL.drop n t
theorem DrL.ints {c : Cy} {F : Hp} : ∀ {ns : List Int} {vs : List V}, DrL c F vs (ns.map D.int) → vs = ns.map V.int
  | [], vs, h => h.nil_iff
  | n :: ns, vs, h => by
    obtain ⟨u, vr, rfl, r, t⟩ := h.cons_iff
    simp only [Dr] at r
    rw [r, DrL.ints t]; rfl
theorem DrL.of_ints {c : Cy} {F : Hp} : ∀ (ns : List Int), DrL c F (ns.map V.int) (ns.map D.int)
  | [] => .nil
  | n :: ns => .cons (by simp only [Dr]) (DrL.of_ints ns)

/-! ### the frozen part and the changing part -/
def HH (F M : Hp) : Hp := fun a => match M a with
  | some o => some o
  | none => F a
def Dj (F M : Hp) : Prop := ∀ a o, M a = some o → F a = none
theorem hh_m {F M : Hp} {a : Addr} {o : HO} (h : M a = some o) : HH F M a = some o := by unfold HH; rw [h]
theorem hh_n {F M : Hp} {a : Addr} (h : M a = none) : HH F M a = F a := by unfold HH; rw [h]
theorem Dj.mn {F M : Hp} (d : Dj F M) {a : Addr} {o : HO} (h : F a = some o) : M a = none := by
  cases q : M a with
  | none => rfl
  | some u => rw [d a u q] at h; cases h
theorem Dj.f {F M : Hp} (d : Dj F M) {a : Addr} {o : HO} (h : F a = some o) : HH F M a = some o := by rw [hh_n (d.mn h)]; exact h
theorem Dj.same {F M : Hp} (d : Dj F M) : Same F (HH F M) := fun _ _ h => d.f h
theorem hh_none {F M : Hp} {a : Addr} (h : HH F M a = none) : F a = none ∧ M a = none := by
  unfold HH at h
  cases q : M a with
  | none => rw [q] at h; exact ⟨h, rfl⟩
  | some o => rw [q] at h; cases h
theorem hh_some {F M : Hp} {a : Addr} {o : HO} (h : HH F M a = some o) : M a = some o ∨ (M a = none ∧ F a = some o) := by
  unfold HH at h
  cases q : M a with
  | none => rw [q] at h; exact .inr ⟨rfl, h⟩
  | some u => rw [q] at h; exact .inl h
/-- a new thing, frozen at once -/
theorem hh_updF {F M : Hp} {a : Addr} {o : HO} (h : M a = none) : upd (HH F M) a o = HH (upd F a o) M := by
  funext b
  by_cases e : b = a
  · subst e; rw [upd_same, hh_n h, upd_same]
  · rw [upd_ne e]
    unfold HH
    cases M b with
    | none => exact (upd_ne e).symm
    | some u => rfl
/-- a new thing that may change; a changed thing -/
theorem hh_updM {F M : Hp} {a : Addr} {o : HO} : upd (HH F M) a o = HH F (upd M a o) := by
  funext b
  by_cases e : b = a
  · subst e; rw [upd_same, hh_m upd_same]
  · rw [upd_ne e]
    unfold HH
    rw [upd_ne e]
theorem Dj.updF {F M : Hp} (d : Dj F M) {a : Addr} {o : HO} (h : M a = none) : Dj (upd F a o) M := fun b u q => by
  have e : b ≠ a := fun z => by rw [z, h] at q; cases q
  rw [upd_ne e]; exact d b u q
theorem Dj.updM {F M : Hp} (d : Dj F M) {a : Addr} {o : HO} (h : F a = none) : Dj F (upd M a o) := fun b u q => by
  by_cases e : b = a
  · rw [e]; exact h
  · rw [upd_ne e] at q; exact d b u q
theorem Same.updF {F : Hp} {a : Addr} {o : HO} (h : F a = none) : Same F (upd F a o) := fun b u q => by
  rw [upd_ne (ne_of_none q h)]; exact q
/-- a thing of the changing part is frozen -/
theorem hh_freeze {F M : Hp} {a : Addr} {o : HO} (h : M a = none) : HH F (upd M a o) = HH (upd F a o) M := by
  rw [← hh_updM, hh_updF h]
end DL

/-! Slots, the relation of a def's state, judgements. -/
namespace DL
open PySem L2

/-- what stands in a slot: nothing that is known; shared data; an own list, dict, instance (its items are shared); the box of digits -/
inductive Sl where
  | no | sh (d : D) | ol (ds : List D) | ok (ks : List Key) (ds : List D) | ot (ks : List (List Key)) (ds : List D) | oi (n : Str) (fs : List Str) (ds : List D) | bx
  deriving Inhabited

/-- an own object: what it holds -/
def ObR (c : Cy) (F : Hp) : Sl → HO → Prop
  | .ol ds, o => ∃ vs, o = .lst vs ∧ DrL c F vs ds
  | .ok ks ds, o => ∃ ps, o = .dK ps ∧ ps.map (·.1) = ks ∧ DrL c F (ps.map (·.2)) ds
  | .ot ks ds, o => ∃ ps, o = .dT ps ∧ ps.map (·.1) = ks ∧ DrL c F (ps.map (·.2)) ds
  | .oi n fs ds, o => ∃ C dx ps, o = .ins C dx ps ∧ c.mg n = some (.ref C) ∧ ps.map (·.1) = fs ∧ DrL c F (ps.map (·.2)) ds
  | _, _ => False
theorem ObR.leD {c : Cy} {F G : Hp} (s : LeD F G) : ∀ {sl : Sl} {o : HO}, ObR c F sl o → ObR c G sl o
  | .ol ds, o, ⟨vs, e, h⟩ => ⟨vs, e, h.leD s⟩
  | .ok ks ds, o, ⟨ps, e, k, h⟩ => ⟨ps, e, k, h.leD s⟩
  | .ot ks ds, o, ⟨ps, e, k, h⟩ => ⟨ps, e, k, h.leD s⟩
  | .oi n fs ds, o, ⟨C, dx, ps, e, m, k, h⟩ => ⟨C, dx, ps, e, m, k, h.leD s⟩
  | .no, _, h => h.elim
  | .sh _, _, h => h.elim
  | .bx, _, h => h.elim
/-- the data of an own object -/
def obD : Sl → D
  | .ol ds => .lst ds
  | .ok ks ds => .dk ks ds
  | .ot ks ds => .dt ks ds
  | .oi n fs ds => .ins n fs ds
  | .sh d => d
  | _ => .non
theorem ObR.dr {c : Cy} {F : Hp} {a : Addr} : ∀ {sl : Sl} {o : HO}, ObR c F sl o → F a = some o → Dr c F (.ref a) (obD sl)
  | .ol ds, o, ⟨vs, e, h⟩, q => by subst e; simp only [obD, Dr]; exact ⟨a, vs, rfl, q, h⟩
  | .ok ks ds, o, ⟨ps, e, k, h⟩, q => by subst e; simp only [obD, Dr]; exact ⟨a, ps, rfl, .inl q, k, h⟩
  | .ot ks ds, o, ⟨ps, e, k, h⟩, q => by subst e; simp only [obD, Dr]; exact ⟨a, ps, rfl, .inl q, k, h⟩
  | .oi n fs ds, o, ⟨C, dx, ps, e, m, k, h⟩, q => by subst e; simp only [obD, Dr]; exact ⟨a, C, dx, ps, rfl, q, m, k, h⟩
  | .no, _, h, _ => h.elim
  | .sh _, _, h, _ => h.elim
  | .bx, _, h, _ => h.elim

/-- the slots' values; M: the frame's changing part M0 and the own objects -/
def RelE (c : Cy) (b : Option Addr) (F M0 : Hp) : List Sl → St → Hp → Prop
  | [], σ, M => σ = [] ∧ M = M0
  | s :: ρ, σ, M => ∃ v σr, σ = v :: σr ∧ match s with
    | .no => RelE c b F M0 ρ σr M
    | .sh d => (∃ x, v = some x ∧ Dr c F x d) ∧ RelE c b F M0 ρ σr M
    | .bx => (∃ a, b = some a ∧ v = some (.ref a)) ∧ RelE c b F M0 ρ σr M
    | sl => ∃ a o M', v = some (.ref a) ∧ ObR c F sl o ∧ F a = none ∧ M' a = none ∧ M = upd M' a o ∧ RelE c b F M0 ρ σr M'

/-- the box of digits at a -/
def Box (F M : Hp) (a : Addr) : Prop := ∃ (da : Addr) (ns : List Int) (n : Int), M a = some (.lst [.ref da, .int n]) ∧ F da = some (.lst (ns.map V.int)) ∧ 0 ≤ n
structure Rel (c : Cy) (b : Option Addr) (ρ : List Sl) (σ : St) (F M M0 : Hp) : Prop where
  dj : Dj F M
  env : RelE c b F M0 ρ σ M
  box : ∀ a, b = some a → Box F M0 a
/-- the frame's changing part but for the box -/
def MR (b : Option Addr) (M M' : Hp) : Prop := ∀ a, b ≠ some a → M' a = M a
theorem MR.refl (b : Option Addr) (M : Hp) : MR b M M := fun _ _ => rfl
theorem MR.trans {b : Option Addr} {M M1 M2 : Hp} (h : MR b M M1) (h' : MR b M1 M2) : MR b M M2 := fun a e => (h' a e).trans (h a e)
/-- all that is tracked stays, but for the box -/
def Ext (b : Option Addr) (H H' : Hp) : Prop := ∀ a o, b ≠ some a → H a = some o → H' a = some o
theorem Ext.refl (b : Option Addr) (H : Hp) : Ext b H H := fun _ _ _ h => h
theorem Ext.trans {b : Option Addr} {H H1 H2 : Hp} (h : Ext b H H1) (h' : Ext b H1 H2) : Ext b H H2 := fun a o e q => h' a o e (h a o e q)

section
variable {c : Cy} {b : Option Addr} {F G M M0 : Hp}
theorem Box.leD (s : LeD F G) {a : Addr} (h : Box F M a) : Box G M a := by
  obtain ⟨da, ns, n, h1, h2, h3⟩ := h
  exact ⟨da, ns, n, h1, s.pl _ _ h2 trivial, h3⟩
/-- the frozen part grows -/
theorem RelE.leD (s : LeD F G) (nw : ∀ a o, M0 a = some o → F a = none → G a = none) : ∀ {ρ : List Sl} {σ : St} {M : Hp}, (∀ a o, M a = some o → F a = none → G a = none) → RelE c b F M0 ρ σ M → RelE c b G M0 ρ σ M
  | [], σ, M, n, h => h
  | s1 :: ρ, σ, M, n, h => by
    obtain ⟨v, σr, e, h⟩ := h
    refine ⟨v, σr, e, ?_⟩
    have own : ∀ sl : Sl, (∃ a o M', v = some (.ref a) ∧ ObR c F sl o ∧ F a = none ∧ M' a = none ∧ M = upd M' a o ∧ RelE c b F M0 ρ σr M') →
        ∃ a o M', v = some (.ref a) ∧ ObR c G sl o ∧ G a = none ∧ M' a = none ∧ M = upd M' a o ∧ RelE c b G M0 ρ σr M' := fun sl h => by
      obtain ⟨a, o, M', e1, r, f, m, e2, t⟩ := h
      refine ⟨a, o, M', e1, r.leD s, n a o (by rw [e2]; exact upd_same) f, m, e2, RelE.leD s nw (fun x u q z => n x u ?_ z) t⟩
      rw [e2, upd_ne (ne_of_none q m)]
      exact q
    cases s1 with
    | no => exact RelE.leD s nw n h
    | sh d =>
      obtain ⟨⟨x, e1, q⟩, t⟩ := h
      exact ⟨⟨x, e1, q.leD s⟩, RelE.leD s nw n t⟩
    | bx =>
      obtain ⟨q, t⟩ := h
      exact ⟨q, RelE.leD s nw n t⟩
    | ol ds => exact own (.ol ds) h
    | ok ks ds => exact own (.ok ks ds) h
    | ot ks ds => exact own (.ot ks ds) h
    | oi n fs ds => exact own (.oi n fs ds) h
theorem RelE.length : ∀ {ρ : List Sl} {σ : St} {M : Hp}, RelE c b F M0 ρ σ M → σ.length = ρ.length
  | [], σ, M, h => by rw [h.1]; rfl
  | s1 :: ρ, σ, M, h => by
    obtain ⟨v, σr, e, h⟩ := h
    subst e
    rw [List.length_cons, List.length_cons]
    congr 1
    cases s1 with
    | no => exact RelE.length h
    | sh d => exact RelE.length h.2
    | bx => exact RelE.length h.2
    | ol ds => obtain ⟨_, _, _, _, _, _, _, _, t⟩ := h; exact RelE.length t
    | ok ks ds => obtain ⟨_, _, _, _, _, _, _, _, t⟩ := h; exact RelE.length t
    | ot ks ds => obtain ⟨_, _, _, _, _, _, _, _, t⟩ := h; exact RelE.length t
    | oi n fs ds => obtain ⟨_, _, _, _, _, _, _, _, t⟩ := h; exact RelE.length t
/-- the frame's part lies in the whole -/
theorem RelE.sub : ∀ {ρ : List Sl} {σ : St} {M : Hp}, RelE c b F M0 ρ σ M → ∀ a o, M0 a = some o → M a = some o
  | [], σ, M, h, a, o, q => by rw [h.2]; exact q
  | s1 :: ρ, σ, M, h, a, o, q => by
    obtain ⟨v, σr, e, h⟩ := h
    have own : ∀ sl : Sl, (∃ a o M', v = some (.ref a) ∧ ObR c F sl o ∧ F a = none ∧ M' a = none ∧ M = upd M' a o ∧ RelE c b F M0 ρ σr M') → M a = some o := fun sl h => by
      obtain ⟨x, u, M', e1, r, f, m, e2, t⟩ := h
      have z := RelE.sub t a o q
      rw [e2, upd_ne (ne_of_none z m)]
      exact z
    cases s1 with
    | no => exact RelE.sub h a o q
    | sh d => exact RelE.sub h.2 a o q
    | bx => exact RelE.sub h.2 a o q
    | ol ds => exact own (.ol ds) h
    | ok ks ds => exact own (.ok ks ds) h
    | ot ks ds => exact own (.ot ks ds) h
    | oi n fs ds => exact own (.oi n fs ds) h
theorem upd_comm {H : Hp} {a d : Addr} {o u : HO} (h : a ≠ d) : upd (upd H a o) d u = upd (upd H d u) a o := by
  funext x
  by_cases e : x = a
  · subst e; rw [upd_ne h, upd_same, upd_same]
  · by_cases e2 : x = d
    · subst e2; rw [upd_same, upd_ne e, upd_same]
    · rw [upd_ne e2, upd_ne e, upd_ne e, upd_ne e2]
/-- a thing of the frame changes, or is new there -/
theorem RelE.frame {x : Addr} {u : HO} : ∀ {ρ : List Sl} {σ : St} {M : Hp}, RelE c b F M0 ρ σ M → (M x = none ∨ (M0 x).isSome = true) → RelE c b F (upd M0 x u) ρ σ (upd M x u)
  | [], σ, M, h, _ => ⟨h.1, by rw [h.2]⟩
  | s1 :: ρ, σ, M, h, hx => by
    obtain ⟨v, σr, e, h⟩ := h
    refine ⟨v, σr, e, ?_⟩
    have own : ∀ sl : Sl, (∃ a o M', v = some (.ref a) ∧ ObR c F sl o ∧ F a = none ∧ M' a = none ∧ M = upd M' a o ∧ RelE c b F M0 ρ σr M') →
        ∃ a o M', v = some (.ref a) ∧ ObR c F sl o ∧ F a = none ∧ M' a = none ∧ upd M x u = upd M' a o ∧ RelE c b F (upd M0 x u) ρ σr M' := fun sl h => by
      obtain ⟨a, o, M', e1, r, f, m, e2, t⟩ := h
      have ne : a ≠ x := fun z => by
        subst z
        rcases hx with hx | hx
        · rw [e2, upd_same] at hx; cases hx
        · obtain ⟨w, hw⟩ := Option.isSome_iff_exists.mp hx
          have := t.sub _ _ hw
          rw [m] at this; cases this
      have hx' : M' x = none ∨ (M0 x).isSome = true := by
        rcases hx with hx | hx
        · rw [e2, upd_ne ne.symm] at hx; exact .inl hx
        · exact .inr hx
      exact ⟨a, o, upd M' x u, e1, r, f, by rw [upd_ne ne]; exact m, by rw [e2, upd_comm ne], RelE.frame t hx'⟩
    cases s1 with
    | no => exact RelE.frame h hx
    | sh d => exact ⟨h.1, RelE.frame h.2 hx⟩
    | bx => exact ⟨h.1, RelE.frame h.2 hx⟩
    | ol ds => exact own (.ol ds) h
    | ok ks ds => exact own (.ok ks ds) h
    | ot ks ds => exact own (.ot ks ds) h
    | oi n fs ds => exact own (.oi n fs ds) h
/-- the frame's part is another one on the box -/
theorem RelE.mr {N0 : Hp} {x : Addr} (mr : MR (some x) M0 N0) (hx : (M0 x).isSome = true) (hx' : (N0 x).isSome = true) : ∀ {ρ : List Sl} {σ : St} {M : Hp}, RelE c b F M0 ρ σ M →
    ∃ N, RelE c b F N0 ρ σ N ∧ MR (some x) M N ∧ N x = N0 x := fun {ρ σ M} h => by
  obtain ⟨w, hw⟩ := Option.isSome_iff_exists.mp hx'
  have e : N0 = upd M0 x w := by
    funext y
    by_cases z : y = x
    · rw [z, upd_same, hw]
    · rw [upd_ne z]
      exact mr y fun q => z (Option.some.inj q).symm
  refine ⟨upd M x w, by rw [e]; exact h.frame (.inr hx), fun y q => upd_ne fun z => q (by rw [z]), by rw [upd_same, hw]⟩
/-- the value in a slot -/
theorem RelE.get : ∀ {ρ : List Sl} {σ : St} {M : Hp} {i : Nat} {d : D}, RelE c b F M0 ρ σ M → ρ[i]? = some (.sh d) → ∃ x, σ[i]? = some (some x) ∧ Dr c F x d
  | [], σ, M, i, d, h, e => by simp at e
  | s1 :: ρ, σ, M, 0, d, h, e => by
    obtain ⟨v, σr, e1, h⟩ := h
    simp at e; subst e; subst e1
    obtain ⟨⟨x, e2, q⟩, _⟩ := h
    exact ⟨x, by rw [e2]; rfl, q⟩
  | s1 :: ρ, σ, M, i + 1, d, h, e => by
    obtain ⟨v, σr, e1, h⟩ := h
    subst e1
    have e' : ρ[i]? = some (.sh d) := by simpa using e
    have go : ∀ {M' : Hp}, RelE c b F M0 ρ σr M' → ∃ x, (v :: σr)[i + 1]? = some (some x) ∧ Dr c F x d := fun t => by
      obtain ⟨x, h1, h2⟩ := RelE.get t e'
      exact ⟨x, by simpa using h1, h2⟩
    cases s1 with
    | no => exact go h
    | sh d => exact go h.2
    | bx => exact go h.2
    | ol ds => obtain ⟨_, _, _, _, _, _, _, _, t⟩ := h; exact go t
    | ok ks ds => obtain ⟨_, _, _, _, _, _, _, _, t⟩ := h; exact go t
    | ot ks ds => obtain ⟨_, _, _, _, _, _, _, _, t⟩ := h; exact go t
    | oi n fs ds => obtain ⟨_, _, _, _, _, _, _, _, t⟩ := h; exact go t
theorem RelE.getB : ∀ {ρ : List Sl} {σ : St} {M : Hp} {i : Nat}, RelE c b F M0 ρ σ M → ρ[i]? = some .bx → ∃ a, b = some a ∧ σ[i]? = some (some (.ref a))
  | [], σ, M, i, h, e => by simp at e
  | s1 :: ρ, σ, M, 0, h, e => by
    obtain ⟨v, σr, e1, h⟩ := h
    simp at e; subst e; subst e1
    obtain ⟨⟨x, e2, q⟩, _⟩ := h
    exact ⟨x, e2, by rw [q]; rfl⟩
  | s1 :: ρ, σ, M, i + 1, h, e => by
    obtain ⟨v, σr, e1, h⟩ := h
    subst e1
    have e' : ρ[i]? = some .bx := by simpa using e
    have go : ∀ {M' : Hp}, RelE c b F M0 ρ σr M' → ∃ a, b = some a ∧ (v :: σr)[i + 1]? = some (some (.ref a)) := fun t => by
      obtain ⟨x, h1, h2⟩ := RelE.getB t e'
      exact ⟨x, h1, by simpa using h2⟩
    cases s1 with
    | no => exact go h
    | sh d => exact go h.2
    | bx => exact go h.2
    | ol ds => obtain ⟨_, _, _, _, _, _, _, _, t⟩ := h; exact go t
    | ok ks ds => obtain ⟨_, _, _, _, _, _, _, _, t⟩ := h; exact go t
    | ot ks ds => obtain ⟨_, _, _, _, _, _, _, _, t⟩ := h; exact go t
    | oi n fs ds => obtain ⟨_, _, _, _, _, _, _, _, t⟩ := h; exact go t
/-- an own slot: its object; it may be changed; it may be frozen -/
def isOwn : Sl → Prop
  | .ol _ => True
  | .ok _ _ => True
  | .ot _ _ => True
  | .oi _ _ _ => True
  | _ => False
theorem RelE.own : ∀ {ρ : List Sl} {σ : St} {M : Hp} {i : Nat} {sl : Sl}, RelE c b F M0 ρ σ M → ρ[i]? = some sl → isOwn sl →
    ∃ a o M', σ[i]? = some (some (.ref a)) ∧ ObR c F sl o ∧ F a = none ∧ M' a = none ∧ M = upd M' a o ∧ M0 a = none ∧
      (∀ x, RelE c b F M0 (ρ.set i .no) (σ.set i x) M') ∧
      ∀ (sl' : Sl) (o' : HO), isOwn sl' → ObR c F sl' o' → RelE c b F M0 (ρ.set i sl') σ (upd M' a o')
  | [], σ, M, i, sl, h, e, _ => by simp at e
  | s1 :: ρ, σ, M, 0, sl, h, e, hs => by
    obtain ⟨v, σr, e1, h⟩ := h
    simp at e; subst e; subst e1
    have own : (∃ a o M', v = some (.ref a) ∧ ObR c F s1 o ∧ F a = none ∧ M' a = none ∧ M = upd M' a o ∧ RelE c b F M0 ρ σr M') := by
      cases s1 <;> first | exact h | exact hs.elim
    obtain ⟨a, o, M', e2, r, f, m, e3, t⟩ := own
    subst e2
    refine ⟨a, o, M', rfl, r, f, m, e3, ?_, fun x => ⟨x, σr, rfl, t⟩, fun sl' o' hs' r' => ⟨some (.ref a), σr, rfl, ?_⟩⟩
    · cases q : M0 a with
      | none => rfl
      | some u => rw [t.sub _ _ q] at m; cases m
    · cases sl' <;> first | exact hs'.elim | exact ⟨a, o', M', rfl, r', f, m, rfl, t⟩
  | s1 :: ρ, σ, M, i + 1, sl, h, e, hs => by
    obtain ⟨v, σr, e1, h⟩ := h
    subst e1
    have e' : ρ[i]? = some sl := by simpa using e
    have down : ∀ {M1 : Hp} (P : Hp → Hp → Prop), RelE c b F M0 ρ σr M1 → True := fun _ _ => trivial
    cases s1 with
    | no =>
      obtain ⟨a, o, M', h1, h2, h3, h4, h5, h6, h7, h8⟩ := RelE.own h e' hs
      exact ⟨a, o, M', by simpa using h1, h2, h3, h4, h5, h6, fun x => ⟨v, σr.set i x, rfl, h7 x⟩, fun sl' o' p q => ⟨v, σr, rfl, h8 sl' o' p q⟩⟩
    | sh d =>
      obtain ⟨a, o, M', h1, h2, h3, h4, h5, h6, h7, h8⟩ := RelE.own h.2 e' hs
      exact ⟨a, o, M', by simpa using h1, h2, h3, h4, h5, h6, fun x => ⟨v, σr.set i x, rfl, h.1, h7 x⟩, fun sl' o' p q => ⟨v, σr, rfl, h.1, h8 sl' o' p q⟩⟩
    | bx =>
      obtain ⟨a, o, M', h1, h2, h3, h4, h5, h6, h7, h8⟩ := RelE.own h.2 e' hs
      exact ⟨a, o, M', by simpa using h1, h2, h3, h4, h5, h6, fun x => ⟨v, σr.set i x, rfl, h.1, h7 x⟩, fun sl' o' p q => ⟨v, σr, rfl, h.1, h8 sl' o' p q⟩⟩
    | ol ds =>
      obtain ⟨x, u, N, k1, k2, k3, k4, k5, t⟩ := h
      obtain ⟨a, o, M', h1, h2, h3, h4, h5, h6, h7, h8⟩ := RelE.own t e' hs
      have ne : x ≠ a := fun z => by rw [z, h5, upd_same] at k4; cases k4
      refine ⟨a, o, upd M' x u, by simpa using h1, h2, h3, by rw [upd_ne ne.symm]; exact h4, by rw [k5, h5, upd_comm ne.symm], h6, fun y => ⟨v, σr.set i y, rfl, x, u, M', k1, k2, k3, ?_, rfl, h7 y⟩, fun sl' o' p q => ⟨v, σr, rfl, x, u, upd M' a o', k1, k2, k3, ?_, upd_comm ne, h8 sl' o' p q⟩⟩
      · rw [h5, upd_ne ne] at k4; exact k4
      · rw [h5, upd_ne ne] at k4; rw [upd_ne ne]; exact k4
    | ok ks ds =>
      obtain ⟨x, u, N, k1, k2, k3, k4, k5, t⟩ := h
      obtain ⟨a, o, M', h1, h2, h3, h4, h5, h6, h7, h8⟩ := RelE.own t e' hs
      have ne : x ≠ a := fun z => by rw [z, h5, upd_same] at k4; cases k4
      refine ⟨a, o, upd M' x u, by simpa using h1, h2, h3, by rw [upd_ne ne.symm]; exact h4, by rw [k5, h5, upd_comm ne.symm], h6, fun y => ⟨v, σr.set i y, rfl, x, u, M', k1, k2, k3, ?_, rfl, h7 y⟩, fun sl' o' p q => ⟨v, σr, rfl, x, u, upd M' a o', k1, k2, k3, ?_, upd_comm ne, h8 sl' o' p q⟩⟩
      · rw [h5, upd_ne ne] at k4; exact k4
      · rw [h5, upd_ne ne] at k4; rw [upd_ne ne]; exact k4
    | ot ks ds =>
      obtain ⟨x, u, N, k1, k2, k3, k4, k5, t⟩ := h
      obtain ⟨a, o, M', h1, h2, h3, h4, h5, h6, h7, h8⟩ := RelE.own t e' hs
      have ne : x ≠ a := fun z => by rw [z, h5, upd_same] at k4; cases k4
      refine ⟨a, o, upd M' x u, by simpa using h1, h2, h3, by rw [upd_ne ne.symm]; exact h4, by rw [k5, h5, upd_comm ne.symm], h6, fun y => ⟨v, σr.set i y, rfl, x, u, M', k1, k2, k3, ?_, rfl, h7 y⟩, fun sl' o' p q => ⟨v, σr, rfl, x, u, upd M' a o', k1, k2, k3, ?_, upd_comm ne, h8 sl' o' p q⟩⟩
      · rw [h5, upd_ne ne] at k4; exact k4
      · rw [h5, upd_ne ne] at k4; rw [upd_ne ne]; exact k4
    | oi n fs ds =>
      obtain ⟨x, u, N, k1, k2, k3, k4, k5, t⟩ := h
      obtain ⟨a, o, M', h1, h2, h3, h4, h5, h6, h7, h8⟩ := RelE.own t e' hs
      have ne : x ≠ a := fun z => by rw [z, h5, upd_same] at k4; cases k4
      refine ⟨a, o, upd M' x u, by simpa using h1, h2, h3, by rw [upd_ne ne.symm]; exact h4, by rw [k5, h5, upd_comm ne.symm], h6, fun y => ⟨v, σr.set i y, rfl, x, u, M', k1, k2, k3, ?_, rfl, h7 y⟩, fun sl' o' p q => ⟨v, σr, rfl, x, u, upd M' a o', k1, k2, k3, ?_, upd_comm ne, h8 sl' o' p q⟩⟩
      · rw [h5, upd_ne ne] at k4; exact k4
      · rw [h5, upd_ne ne] at k4; rw [upd_ne ne]; exact k4
/-- a slot that holds no own object is stored -/
theorem RelE.setSh {x : V} {d : D} (q : Dr c F x d) : ∀ {ρ : List Sl} {σ : St} {M : Hp} {i : Nat} {sl : Sl}, RelE c b F M0 ρ σ M → ρ[i]? = some sl → ¬ isOwn sl → RelE c b F M0 (ρ.set i (.sh d)) (σ.set i (some x)) M
  | [], σ, M, i, sl, h, e, _ => by simp at e
  | s1 :: ρ, σ, M, 0, sl, h, e, hs => by
    obtain ⟨v, σr, e1, h⟩ := h
    simp at e; subst e; subst e1
    refine ⟨some x, σr, rfl, ⟨x, rfl, q⟩, ?_⟩
    cases s1 <;> first | exact h | exact h.2 | exact (hs trivial).elim
  | s1 :: ρ, σ, M, i + 1, sl, h, e, hs => by
    obtain ⟨v, σr, e1, h⟩ := h
    subst e1
    have e' : ρ[i]? = some sl := by simpa using e
    refine ⟨v, σr.set i (some x), rfl, ?_⟩
    have own : ∀ s2 : Sl, (∃ a o M', v = some (.ref a) ∧ ObR c F s2 o ∧ F a = none ∧ M' a = none ∧ M = upd M' a o ∧ RelE c b F M0 ρ σr M') →
        ∃ a o M', v = some (.ref a) ∧ ObR c F s2 o ∧ F a = none ∧ M' a = none ∧ M = upd M' a o ∧ RelE c b F M0 (ρ.set i (.sh d)) (σr.set i (some x)) M' := fun s2 h => by
      obtain ⟨a, o, M', k1, k2, k3, k4, k5, t⟩ := h
      exact ⟨a, o, M', k1, k2, k3, k4, k5, RelE.setSh q t e' hs⟩
    cases s1 with
    | no => exact RelE.setSh q h e' hs
    | sh d => exact ⟨h.1, RelE.setSh q h.2 e' hs⟩
    | bx => exact ⟨h.1, RelE.setSh q h.2 e' hs⟩
    | ol ds => exact own (.ol ds) h
    | ok ks ds => exact own (.ok ks ds) h
    | ot ks ds => exact own (.ot ks ds) h
    | oi n fs ds => exact own (.oi n fs ds) h
/-- a slot that holds no own object is given one -/
theorem RelE.setOw {a : Addr} {o : HO} {so : Sl} (ho : isOwn so) (r : ObR c F so o) (f : F a = none) : ∀ {ρ : List Sl} {σ : St} {M : Hp} {i : Nat} {sl : Sl}, RelE c b F M0 ρ σ M → M a = none → ρ[i]? = some sl → ¬ isOwn sl →
    RelE c b F M0 (ρ.set i so) (σ.set i (some (.ref a))) (upd M a o)
  | [], σ, M, i, sl, h, _, e, _ => by simp at e
  | s1 :: ρ, σ, M, 0, sl, h, m, e, hs => by
    obtain ⟨v, σr, e1, h⟩ := h
    simp at e; subst e; subst e1
    refine ⟨some (.ref a), σr, rfl, ?_⟩
    have t : RelE c b F M0 ρ σr M := by cases s1 <;> first | exact h | exact h.2 | exact (hs trivial).elim
    cases so <;> first | exact ho.elim | exact ⟨a, o, M, rfl, r, f, m, rfl, t⟩
  | s1 :: ρ, σ, M, i + 1, sl, h, m, e, hs => by
    obtain ⟨v, σr, e1, h⟩ := h
    subst e1
    have e' : ρ[i]? = some sl := by simpa using e
    refine ⟨v, σr.set i (some (.ref a)), rfl, ?_⟩
    have own : ∀ s2 : Sl, (∃ x u M', v = some (.ref x) ∧ ObR c F s2 u ∧ F x = none ∧ M' x = none ∧ M = upd M' x u ∧ RelE c b F M0 ρ σr M') →
        ∃ x u M', v = some (.ref x) ∧ ObR c F s2 u ∧ F x = none ∧ M' x = none ∧ upd M a o = upd M' x u ∧ RelE c b F M0 (ρ.set i so) (σr.set i (some (.ref a))) M' := fun s2 h => by
      obtain ⟨x, u, M', k1, k2, k3, k4, k5, t⟩ := h
      have ne : x ≠ a := fun z => by rw [k5, z, upd_same] at m; cases m
      have m' : M' a = none := by rw [k5, upd_ne ne.symm] at m; exact m
      exact ⟨x, u, upd M' a o, k1, k2, k3, by rw [upd_ne ne]; exact k4, by rw [k5, upd_comm ne], RelE.setOw ho r f t m' e' hs⟩
    cases s1 with
    | no => exact RelE.setOw ho r f h m e' hs
    | sh d => exact ⟨h.1, RelE.setOw ho r f h.2 m e' hs⟩
    | bx => exact ⟨h.1, RelE.setOw ho r f h.2 m e' hs⟩
    | ol ds => exact own (.ol ds) h
    | ok ks ds => exact own (.ok ks ds) h
    | ot ks ds => exact own (.ot ks ds) h
    | oi n fs ds => exact own (.oi n fs ds) h
/-- a slot that holds no own object is forgotten, whatever stands there -/
theorem RelE.forget {x : Option V} : ∀ {ρ : List Sl} {σ : St} {M : Hp} {i : Nat} {sl : Sl}, RelE c b F M0 ρ σ M → ρ[i]? = some sl → ¬ isOwn sl → RelE c b F M0 (ρ.set i .no) (σ.set i x) M
  | [], σ, M, i, sl, h, e, _ => by simp at e
  | s1 :: ρ, σ, M, 0, sl, h, e, hs => by
    obtain ⟨v, σr, e1, h⟩ := h
    simp at e; subst e; subst e1
    refine ⟨x, σr, rfl, ?_⟩
    cases s1 <;> first | exact h | exact h.2 | exact (hs trivial).elim
  | s1 :: ρ, σ, M, i + 1, sl, h, e, hs => by
    obtain ⟨v, σr, e1, h⟩ := h
    subst e1
    have e' : ρ[i]? = some sl := by simpa using e
    refine ⟨v, σr.set i x, rfl, ?_⟩
    have own : ∀ s2 : Sl, (∃ a o M', v = some (.ref a) ∧ ObR c F s2 o ∧ F a = none ∧ M' a = none ∧ M = upd M' a o ∧ RelE c b F M0 ρ σr M') →
        ∃ a o M', v = some (.ref a) ∧ ObR c F s2 o ∧ F a = none ∧ M' a = none ∧ M = upd M' a o ∧ RelE c b F M0 (ρ.set i .no) (σr.set i x) M' := fun s2 h => by
      obtain ⟨a, o, M', k1, k2, k3, k4, k5, t⟩ := h
      exact ⟨a, o, M', k1, k2, k3, k4, k5, RelE.forget t e' hs⟩
    cases s1 with
    | no => exact RelE.forget h e' hs
    | sh d => exact ⟨h.1, RelE.forget h.2 e' hs⟩
    | bx => exact ⟨h.1, RelE.forget h.2 e' hs⟩
    | ol ds => exact own (.ol ds) h
    | ok ks ds => exact own (.ok ks ds) h
    | ot ks ds => exact own (.ot ks ds) h
    | oi n fs ds => exact own (.oi n fs ds) h
end
end DL

/-! Judgements: a piece of syntax, its reading over heaps, and what that asks of data alone; expressions. -/
namespace DL
open PySem L2

abbrev WE := List Sl → (D → List Sl → Prop) → Prop
abbrev WT := List Sl → (Bool → List Sl → Prop) → Prop
abbrev WA := List Sl → (List D → List Sl → Prop) → Prop
/-- behind an expression -/
structure Aft (c : Cy) (b : Option Addr) (F M M0 : Hp) (ρ : List Sl) (σ : St) (F' M' M0' : Hp) : Prop where
  same : Same F F'
  ext : Ext b (HH F M) (HH F' M')
  rel : Rel c b ρ σ F' M' M0'
  mr : MR b M0 M0'
section
variable {c : Cy} {b : Option Addr} {F M M0 F1 M1 M01 F2 M2 M02 : Hp} {ρ ρ1 ρ2 : List Sl} {σ σ1 σ2 : St}
theorem Rel.aft (h : Rel c b ρ σ F M M0) : Aft c b F M M0 ρ σ F M M0 := ⟨Same.refl _, Ext.refl _ _, h, MR.refl _ _⟩
theorem Aft.trans (a : Aft c b F M M0 ρ1 σ1 F1 M1 M01) (h : Aft c b F1 M1 M01 ρ2 σ2 F2 M2 M02) : Aft c b F M M0 ρ2 σ2 F2 M2 M02 :=
  ⟨a.same.trans h.same, a.ext.trans h.ext, h.rel, a.mr.trans h.mr⟩
/-- a frozen address is not the box -/
theorem Rel.nb (h : Rel c b ρ σ F M M0) {a : Addr} {o : HO} (q : F a = some o) : b ≠ some a := fun e => by
  obtain ⟨_, _, _, h1, _⟩ := h.box a e
  have h2 := h.dj a _ (h.env.sub a _ h1)
  rw [q] at h2; cases h2
end

/-- readable as data: its own object may still change -/
def Rk (c : Cy) (b : Option Addr) (F M : Hp) (v : V) : D → Prop
  | .lst ds => ∃ a vs, v = .ref a ∧ b ≠ some a ∧ HH F M a = some (.lst vs) ∧ DrL c F vs ds
  | .dk ks ds => ∃ a ps, v = .ref a ∧ b ≠ some a ∧ Rd (HH F M) a (.dK ps) ∧ ps.map (·.1) = ks ∧ DrL c F (ps.map (·.2)) ds
  | .dt ks ds => ∃ a ps, v = .ref a ∧ b ≠ some a ∧ Rd (HH F M) a (.dT ps) ∧ ps.map (·.1) = ks ∧ DrL c F (ps.map (·.2)) ds
  | .ins n fs ds => ∃ a C dx ps, v = .ref a ∧ b ≠ some a ∧ HH F M a = some (.ins C dx ps) ∧ c.mg n = some (.ref C) ∧ ps.map (·.1) = fs ∧ DrL c F (ps.map (·.2)) ds
  | d => Dr c F v d
theorem Rk.of {c : Cy} {b : Option Addr} {F M : Hp} {v : V} {d : D} (dj : Dj F M) (nb : ∀ a o, F a = some o → b ≠ some a) (h : Dr c F v d) : Rk c b F M v d := by
  cases d with
  | lst ds => simp only [Dr] at h; obtain ⟨a, vs, e, q, r⟩ := h; exact ⟨a, vs, e, nb a _ q, dj.f q, r⟩
  | dk ks ds =>
    simp only [Dr] at h; obtain ⟨a, vs, e, q, k, r⟩ := h
    exact ⟨a, vs, e, by rcases q with q | ⟨o, q⟩ <;> exact nb a _ q, same_rd dj.same q, k, r⟩
  | dt ks ds =>
    simp only [Dr] at h; obtain ⟨a, vs, e, q, k, r⟩ := h
    exact ⟨a, vs, e, by rcases q with q | ⟨o, q⟩ <;> exact nb a _ q, same_rd dj.same q, k, r⟩
  | ins n fs ds => simp only [Dr] at h; obtain ⟨a, C, dx, ps, e, q, m, k, r⟩ := h; exact ⟨a, C, dx, ps, e, nb a _ q, dj.f q, m, k, r⟩
  | _ => exact h
theorem Rk.stay {c : Cy} {b : Option Addr} {F M F' M' : Hp} {v : V} {d : D} (s : Same F F') (x : Ext b (HH F M) (HH F' M')) (h : Rk c b F M v d) : Rk c b F' M' v d := by
  have rd : ∀ {a : Addr} {u : HO}, b ≠ some a → Rd (HH F M) a u → Rd (HH F' M') a u := fun n q => by
    rcases q with q | ⟨o, q⟩
    · exact .inl (x _ _ n q)
    · exact .inr ⟨o, x _ _ n q⟩
  cases d with
  | lst ds => obtain ⟨a, vs, e, n, q, r⟩ := h; exact ⟨a, vs, e, n, x _ _ n q, r.up s⟩
  | dk ks ds => obtain ⟨a, vs, e, n, q, k, r⟩ := h; exact ⟨a, vs, e, n, rd n q, k, r.up s⟩
  | dt ks ds => obtain ⟨a, vs, e, n, q, k, r⟩ := h; exact ⟨a, vs, e, n, rd n q, k, r.up s⟩
  | non => exact Dr.up s h
  | bl _ => exact Dr.up s h
  | int _ => exact Dr.up s h
  | str _ => exact Dr.up s h
  | tup _ => exact Dr.up s h
  | scr _ => exact Dr.up s h
  | ins n fs ds => obtain ⟨a, C, dx, ps, e, n, q, m, k, r⟩ := h; exact ⟨a, C, dx, ps, e, n, x _ _ n q, m, k, r.up s⟩

def Snd (c : Cy) (te : TE) (w : WE) : Prop := ∀ {b : Option Addr} {ρ : List Sl} {σ : St} {F M M0 : Hp}, Rel c b ρ σ F M M0 → ∀ (Qd : D → List Sl → Prop) (Q : VK), w ρ Qd →
  (∀ d ρ' v F' M' M0', Qd d ρ' → Aft c b F M M0 ρ' σ F' M' M0' → Dr c F' v d → Q v (HH F' M')) → te σ (HH F M) Q
def Snp (c : Cy) (te : TE) (w : WE) : Prop := ∀ {b : Option Addr} {ρ : List Sl} {σ : St} {F M M0 : Hp}, Rel c b ρ σ F M M0 → ∀ (Qd : D → List Sl → Prop) (Q : VK), w ρ Qd →
  (∀ d ρ' v F' M' M0', Qd d ρ' → Aft c b F M M0 ρ' σ F' M' M0' → Rk c b F' M' v d → Q v (HH F' M')) → te σ (HH F M) Q
def Snt (c : Cy) (tt : TT) (w : WT) : Prop := ∀ {b : Option Addr} {ρ : List Sl} {σ : St} {F M M0 : Hp}, Rel c b ρ σ F M M0 → ∀ (Qd : Bool → List Sl → Prop) (Q : Bool → Hp → Prop), w ρ Qd →
  (∀ k ρ' F' M' M0', Qd k ρ' → Aft c b F M M0 ρ' σ F' M' M0' → Q k (HH F' M')) → tt σ (HH F M) Q
def Sna (c : Cy) (ta : TA) (w : WA) : Prop := ∀ {b : Option Addr} {ρ : List Sl} {σ : St} {F M M0 : Hp}, Rel c b ρ σ F M M0 → ∀ (Qd : List D → List Sl → Prop) (Q : List V → Hp → Prop), w ρ Qd →
  (∀ ds ρ' vs F' M' M0', Qd ds ρ' → Aft c b F M M0 ρ' σ F' M' M0' → DrL c F' vs ds → Q vs (HH F' M')) → ta σ (HH F M) Q
/-- a new own object -/
def Snf (c : Cy) (te : TE) (w : List Sl → (Sl → List Sl → Prop) → Prop) : Prop := ∀ {b : Option Addr} {ρ : List Sl} {σ : St} {F M M0 : Hp}, Rel c b ρ σ F M M0 → ∀ (Qd : Sl → List Sl → Prop) (Q : VK), w ρ Qd →
  (∀ sl ρ' a o F' M' M0', Qd sl ρ' → Aft c b F M M0 ρ' σ F' M' M0' → isOwn sl → ObR c F' sl o → F' a = none → M' a = none → Q (.ref a) (HH F' (upd M' a o))) → te σ (HH F M) Q

abbrev cy (X : Cx) : Cy := ⟨X.K, X.mg⟩
structure DE (X : Cx) (e : Expr) (te : TE) (w : WE) : Prop where
  pe : PE X e te
  sn : Snd (cy X) te w
structure DP (X : Cx) (e : Expr) (te : TE) (w : WE) : Prop where
  pe : PE X e te
  sn : Snp (cy X) te w
structure DT (X : Cx) (e : Expr) (tt : TT) (w : WT) : Prop where
  pe : PT X e tt
  sn : Snt (cy X) tt w
structure DWt (X : Cx) (e : Expr) (tt : TT) (w : WT) : Prop where
  pe : PW X e tt
  sn : Snt (cy X) tt w
structure DA (X : Cx) (es : List Expr) (ta : TA) (w : WA) : Prop where
  pe : PA X es ta
  sn : Sna (cy X) ta w
structure DF (X : Cx) (e : Expr) (te : TE) (w : List Sl → (Sl → List Sl → Prop) → Prop) : Prop where
  pe : PE X e te
  sn : Snf (cy X) te w

section
variable {X : Cx} {e a b' : Expr} {te ta tb : TE} {w wa wb : WE} {pos : Pos}
theorem DE.dp (h : DE X e te w) : DP X e te w := ⟨h.pe, fun {b ρ σ F M M0} R Qd Q hw k =>
  h.sn R Qd Q hw fun d ρ' v F' M' M0' q A r => k d ρ' v F' M' M0' q A (Rk.of A.rel.dj (fun a o z => A.rel.nb z) r)⟩

/-! ### freezing -/
theorem Rel.freeze {c : Cy} {b : Option Addr} {ρ : List Sl} {σ : St} {F M M0 : Hp} {i : Nat} {sl : Sl} (R : Rel c b ρ σ F M M0) (e : ρ[i]? = some sl) (hs : isOwn sl) :
    ∃ a F' M', σ[i]? = some (some (.ref a)) ∧ HH F M = HH F' M' ∧ Aft c b F M M0 (ρ.set i (.sh (obD sl))) σ F' M' M0 ∧ Dr c F' (.ref a) (obD sl) := by
  obtain ⟨a, o, M', h1, h2, h3, h4, h5, h6, h7, h8⟩ := R.env.own e hs
  have eH : HH F M = HH (upd F a o) M' := by rw [h5, hh_freeze h4]
  have sm : Same F (upd F a o) := Same.updF h3
  have dj : Dj (upd F a o) M' := Dj.updF (fun x u q => R.dj x u (by rw [h5, upd_ne (ne_of_none q h4)]; exact q)) h4
  have r : Dr c (upd F a o) (.ref a) (obD sl) := (h2.leD (.of sm)).dr upd_same
  have m0 : ∀ x u, M0 x = some u → F x = none → (upd F a o) x = none := fun x u q f => by rw [upd_ne (ne_of_none q h6)]; exact f
  have t1 := RelE.leD (LeD.of sm) m0 (M := M') (fun x u q f => by rw [upd_ne (ne_of_none q h4)]; exact f) (h7 (some (.ref a)))
  have hl : i < ρ.length := by
    rcases Nat.lt_or_ge i ρ.length with z | z
    · exact z
    · rw [List.getElem?_eq_none z] at e; cases e
  have t2 := RelE.setSh r t1 (List.getElem?_set_self hl) (fun z => z)
  rw [List.set_set, List.set_set] at t2
  have es : σ.set i (some (.ref a)) = σ := by
    obtain ⟨hi, ei⟩ := List.getElem?_eq_some_iff.mp h1
    rw [← ei]; exact List.set_getElem_self hi
  rw [es] at t2
  refine ⟨a, _, M', h1, eH, ⟨sm, ?_, ⟨dj, t2, fun x q => (R.box x q).leD (.of sm)⟩, MR.refl _ _⟩, r⟩
  rw [← eH]; exact Ext.refl _ _

/-! ### names and constants -/
def wVar (i : Nat) : WE := fun ρ Q => match ρ[i]? with
  | some (.sh d) => Q d ρ
  | some .no => False
  | some .bx => False
  | some sl => Q (obD sl) (ρ.set i (.sh (obD sl)))
  | none => False
def wPk (i : Nat) : WE := fun ρ Q => match ρ[i]? with
  | some (.sh d) => Q d ρ
  | some .no => False
  | some .bx => False
  | some sl => Q (obD sl) ρ
  | none => False
theorem snd_var {c : Cy} (i : Nat) : Snd c (tVar i) (wVar i) := fun {b ρ σ F M M0} R Qd Q hw k => by
  unfold wVar at hw
  have go : ∀ sl, ρ[i]? = some sl → isOwn sl → Qd (obD sl) (ρ.set i (.sh (obD sl))) → tVar i σ (HH F M) Q := fun sl e hs q => by
    obtain ⟨a, F', M', h1, h2, h3, h4⟩ := R.freeze e hs
    refine ⟨.ref a, h1, ?_⟩
    rw [h2]
    exact k _ _ _ _ _ _ q h3 h4
  cases e : ρ[i]? with
  | none => rw [e] at hw; exact hw.elim
  | some sl =>
    rw [e] at hw
    cases sl with
    | sh d =>
      obtain ⟨x, h1, h2⟩ := R.env.get e
      exact ⟨x, h1, k d ρ x F M M0 hw R.aft h2⟩
    | no => exact hw.elim
    | bx => exact hw.elim
    | ol ds => exact go _ e trivial hw
    | ok ks ds => exact go _ e trivial hw
    | ot ks ds => exact go _ e trivial hw
    | oi n fs ds => exact go _ e trivial hw
theorem snp_var {c : Cy} (i : Nat) : Snp c (tVar i) (wPk i) := fun {b ρ σ F M M0} R Qd Q hw k => by
  unfold wPk at hw
  have go : ∀ sl, ρ[i]? = some sl → isOwn sl → Qd (obD sl) ρ → tVar i σ (HH F M) Q := fun sl e hs q => by
    obtain ⟨a, o, M', h1, h2, h3, h4, h5, h6, h7, h8⟩ := R.env.own e hs
    refine ⟨.ref a, h1, ?_⟩
    have nb : b ≠ some a := fun z => by
      obtain ⟨_, _, _, q1, _⟩ := R.box a z
      rw [h6] at q1; cases q1
    have hH : HH F M a = some o := hh_m (by rw [h5]; exact upd_same)
    refine k _ ρ _ F M M0 q R.aft ?_
    cases sl with
    | ol ds => obtain ⟨vs, e2, r⟩ := h2; subst e2; exact ⟨a, vs, rfl, nb, hH, r⟩
    | ok ks ds => obtain ⟨vs, e2, r⟩ := h2; subst e2; exact ⟨a, vs, rfl, nb, .inl hH, r⟩
    | ot ks ds => obtain ⟨vs, e2, r⟩ := h2; subst e2; exact ⟨a, vs, rfl, nb, .inl hH, r⟩
    | oi n fs ds => obtain ⟨C, dx, ps, e2, m, r⟩ := h2; subst e2; exact ⟨a, C, dx, ps, rfl, nb, hH, m, r⟩
    | _ => exact hs.elim
  cases e : ρ[i]? with
  | none => rw [e] at hw; exact hw.elim
  | some sl =>
    rw [e] at hw
    cases sl with
    | sh d =>
      obtain ⟨x, h1, h2⟩ := R.env.get e
      exact ⟨x, h1, k d ρ x F M M0 hw R.aft (Rk.of R.dj (fun a o z => R.nb z) h2)⟩
    | no => exact hw.elim
    | bx => exact hw.elim
    | ol ds => exact go _ e trivial hw
    | ok ks ds => exact go _ e trivial hw
    | ot ks ds => exact go _ e trivial hw
    | oi n fs ds => exact go _ e trivial hw
theorem de_var (i : Nat) {x : Str} {pos : Pos} (hN : X.N[i]? = some x := by rfl) (hv : Vis X.env.scope x := by first | exact Or.inl rfl | exact Or.inr (Or.inl rfl) | exact Or.inr (Or.inr rfl)) (hd : (x == ("__debug__" : Str)) = false := by decide)
    (hcd : (x == ("__classdict__" : Str)) = false := by decide) : DE X (.Name x pos) (tVar i) (wVar i) := ⟨pe_var hN hv hd hcd, snd_var i⟩
theorem dp_var (i : Nat) {x : Str} {pos : Pos} (hN : X.N[i]? = some x := by rfl) (hv : Vis X.env.scope x := by first | exact Or.inl rfl | exact Or.inr (Or.inl rfl) | exact Or.inr (Or.inr rfl)) (hd : (x == ("__debug__" : Str)) = false := by decide)
    (hcd : (x == ("__classdict__" : Str)) = false := by decide) : DP X (.Name x pos) (tVar i) (wPk i) := ⟨pe_var hN hv hd hcd, snp_var i⟩
def wC (d : D) : WE := fun ρ Q => Q d ρ
theorem snd_c {c : Cy} {v : V} {d : D} (h : ∀ F, Dr c F v d) : Snd c (tC v) (wC d) := fun {b ρ σ F M M0} R Qd Q hw k => k d ρ v F M M0 hw R.aft (h F)
theorem de_int {i j} : DE X (.Constant (.int i) j pos) (tC (.int i)) (wC (.int i)) := ⟨pe_int, snd_c fun F => by simp only [Dr]⟩
theorem de_bl {i j} : DE X (.Constant (.bool i) j pos) (tC (.bl i)) (wC (.bl i)) := ⟨pe_bl, snd_c fun F => by simp only [Dr]⟩
theorem de_non {j} : DE X (.Constant .none j pos) (tC .non) (wC .non) := ⟨pe_non, snd_c fun F => by simp only [Dr]⟩
theorem de_str {x j} : DE X (.Constant (.str x) j pos) (tC (.str x)) (wC (.str x)) := ⟨pe_str, snd_c fun F => by simp only [Dr]⟩
theorem de_globI {x : Str} {i : Int} {u : Value} (hg : Gl X x) (hm : X.mg x = some u) (r : ∃ t, u = .int i t) (hd : (x == ("__debug__" : Str)) = false := by decide) : DE X (.Name x pos) (tC (.int i)) (wC (.int i)) :=
  ⟨pe_glob hg hm r hd, snd_c fun F => by simp only [Dr]⟩
theorem de_globS {x s : Str} {u : Value} (hg : Gl X x) (hm : X.mg x = some u) (r : ∃ t, u = .str s t) (hd : (x == ("__debug__" : Str)) = false := by decide) : DE X (.Name x pos) (tC (.str s)) (wC (.str s)) :=
  ⟨pe_glob hg hm r hd, snd_c fun F => by simp only [Dr]⟩

/-! ### operations on two values -/
/-- an operation that changes no thing; its result may be new -/
def Rop (c : Cy) (r : R2) (wr : D → D → (D → Prop) → Prop) : Prop := ∀ {b : Option Addr} {F M : Hp} {x y : V} {d1 d2 : D} (Qd : D → Prop) (Q : VK), Dj F M → Rk c b F M x d1 → Rk c b F M y d2 → wr d1 d2 Qd →
  (∀ d v F', Qd d → Same F F' → Dj F' M → (∀ a, F a = none → (M a).isSome = true → F' a = none) → Dr c F' v d → Q v (HH F' M)) → r x y (HH F M) Q
/-- the heap has grown by frozen things -/
theorem Rel.grow {c : Cy} {b : Option Addr} {ρ : List Sl} {σ : St} {F M M0 F' : Hp} (R : Rel c b ρ σ F M M0) (s : Same F F') (dj : Dj F' M) : Aft c b F M M0 ρ σ F' M M0 := by
  refine ⟨s, fun a o _ q => ?_, ⟨dj, RelE.leD (LeD.of s) (fun a o q _ => dj a o (R.env.sub a o q)) (fun a o q _ => dj a o q) R.env, fun a q => (R.box a q).leD (.of s)⟩, MR.refl _ _⟩
  rcases hh_some q with z | ⟨z1, z2⟩
  · exact hh_m z
  · rw [hh_n z1]; exact s _ _ z2
def wOp (wr : D → D → (D → Prop) → Prop) (wa wb : WE) : WE := fun ρ Q => wa ρ fun d1 ρ1 => wb ρ1 fun d2 ρ2 => wr d1 d2 fun d => Q d ρ2
theorem snd_op {c : Cy} {r : R2} {wr : D → D → (D → Prop) → Prop} (hr : Rop c r wr) (ha : Snp c ta wa) (hb : Snp c tb wb) : Snd c (tOp r ta tb) (wOp wr wa wb) := fun {b ρ σ F M M0} R Qd Q hw k => by
  refine ha R _ _ hw fun d1 ρ1 x F1 M1 M01 q1 A1 r1 => ?_
  refine hb A1.rel _ _ q1 fun d2 ρ2 y F2 M2 M02 q2 A2 r2 => ?_
  refine hr (b := b) _ _ A2.rel.dj (r1.stay A2.same A2.ext) r2 q2 fun d v F' q s dj nf rv => ?_
  exact k d ρ2 v F' M2 M02 q ((A1.trans A2).trans (A2.rel.grow s dj)) rv
theorem de_op {op : Operator} {r : R2} {wr : D → D → (D → Prop) → Prop} (ho : OpR X (binaryOp op) r) (hr : Rop (cy X) r wr) (ha : DP X a ta wa) (hb : DP X b' tb wb) : DE X (.BinOp a op b' pos) (tOp r ta tb) (wOp wr wa wb) :=
  ⟨pe_op ho ha.pe hb.pe, snd_op hr ha.sn hb.sn⟩
theorem de_cmp {op : CmpOp} {r : R2} {wr : D → D → (D → Prop) → Prop} (ho : OpR X (compareOp op) r) (hr : Rop (cy X) r wr) (ha : DP X a ta wa) (hb : DP X b' tb wb) (hm : behindInMarks op b' = false) : DE X (.Compare a [op] [b'] pos) (tOp r ta tb) (wOp wr wa wb) :=
  ⟨pe_cmpR ho ha.pe hb.pe hm, snd_op hr ha.sn hb.sn⟩
/-- a bool's test -/
def wTst (w : WE) : WT := fun ρ Q => w ρ fun d ρ' => match d with
  | .bl k => Q k ρ'
  | _ => False
theorem snt_test {c : Cy} (h : Snd c te w) : Snt c (tTest te) (wTst w) := fun {b ρ σ F M M0} R Qd Q hw k => by
  refine h R _ _ hw fun d ρ' v F' M' M0' q A r => ?_
  cases d with
  | bl j => simp only [Dr] at r; exact ⟨j, r, k j ρ' F' M' M0' q A⟩
  | _ => exact q.elim
theorem snt_B {c : Cy} (h : Snd c te w) : Snt c (tB te) (wTst w) := fun {b ρ σ F M M0} R Qd Q hw k => by
  refine h R _ _ hw fun d ρ' v F' M' M0' q A r => ?_
  cases d with
  | bl j => simp only [Dr] at r; exact ⟨j, r, k j ρ' F' M' M0' q A⟩
  | _ => exact q.elim
theorem dt_cmp {op : CmpOp} {r : R2} {wr : D → D → (D → Prop) → Prop} (ho : OpR X (compareOp op) r) (hr : Rop (cy X) r wr) (ha : DP X a ta wa) (hb : DP X b' tb wb) (hm : behindInMarks op b' = false) : DT X (.Compare a [op] [b'] pos) (tTest (tOp r ta tb)) (wTst (wOp wr wa wb)) :=
  ⟨pt_cmpR ho ha.pe hb.pe hm, snt_test (snd_op hr ha.sn hb.sn)⟩
theorem dt_val (h : DE X e te w) (he : ∀ whole, isTrue e X.env whole = (do let v ← whole; standAt e.pos; holding [v] (truthy v)) := by intro _; rfl) : DT X e (tB te) (wTst w) := ⟨pt_val h.pe he, snt_B h.sn⟩
/-- a comparison a < b < c -/
def wChain (wr wr' : D → D → (D → Prop) → Prop) (wa wb wc : WE) : WE := fun ρ Q => wa ρ fun d1 ρ1 => wb ρ1 fun d2 ρ2 => wr d1 d2 fun d => match d with
  | .bl true => wc ρ2 fun d3 ρ3 => wr' d2 d3 fun d' => Q d' ρ3
  | .bl false => Q (.bl false) ρ2
  | _ => False
theorem snd_chain {c : Cy} {r r' : R2} {wr wr' : D → D → (D → Prop) → Prop} {tc : TE} {wc : WE} (hr : Rop c r wr) (hr' : Rop c r' wr') (ha : Snp c ta wa) (hb : Snp c tb wb) (hc : Snp c tc wc) : Snd c (tChain r r' ta tb tc) (wChain wr wr' wa wb wc) := fun {b ρ σ F M M0} R Qd Q hw k => by
  refine ha R _ _ hw fun d1 ρ1 x F1 M1 M01 q1 A1 r1 => ?_
  refine hb A1.rel _ _ q1 fun d2 ρ2 y F2 M2 M02 q2 A2 r2 => ?_
  refine hr (b := b) _ _ A2.rel.dj (r1.stay A2.same A2.ext) r2 q2 fun d v F3 q s dj nf rv => ?_
  have A3 := (A1.trans A2).trans (A2.rel.grow s dj)
  cases d with
  | bl j =>
    simp only [Dr] at rv
    refine ⟨j, rv, ?_⟩
    cases j with
    | true =>
      rw [if_pos rfl]
      refine hc A3.rel _ _ q fun d3 ρ3 z F4 M4 M04 q3 A4 r3 => ?_
      refine hr' (b := b) _ _ A4.rel.dj ((r2.stay s (A2.rel.grow s dj).ext).stay A4.same A4.ext) r3 q3 fun d' v' F5 q' s' dj' nf' rv' => ?_
      exact k d' ρ3 v' F5 M4 M04 q' ((A3.trans A4).trans (A4.rel.grow s' dj')) rv'
    | false =>
      rw [if_neg Bool.false_ne_true]
      exact k _ ρ2 _ F3 M2 M02 q A3 (by simp only [Dr])
  | _ => exact q.elim
theorem de_chain {op op' : CmpOp} {c' : Expr} {tc : TE} {wc : WE} {r r' : R2} {wr wr' : D → D → (D → Prop) → Prop} (ho : OpR X (compareOp op) r) (ho' : OpR X (compareOp op') r') (hr : Rop (cy X) r wr) (hr' : Rop (cy X) r' wr') (ha : DP X a ta wa) (hb : DP X b' tb wb) (hc : DP X c' tc wc)
    (h : PE X a ta → PE X b' tb → PE X c' tc → PE X (.Compare a [op, op'] [b', c'] pos) (tChain r r' ta tb tc) := by exact fun p q r => pe_chain (by assumption) (by assumption) p q r) : DE X (.Compare a [op, op'] [b', c'] pos) (tChain r r' ta tb tc) (wChain wr wr' wa wb wc) :=
  ⟨h ha.pe hb.pe hc.pe, snd_chain hr hr' ha.sn hb.sn hc.sn⟩
/-- operations on one value -/
def Ro1 (c : Cy) (r : V → Hp → VK → Prop) (wr : D → (D → Prop) → Prop) : Prop := ∀ {b : Option Addr} {F M : Hp} {x : V} {d1 : D} (Qd : D → Prop) (Q : VK), Dj F M → Rk c b F M x d1 → wr d1 Qd →
  (∀ d v F', Qd d → Same F F' → Dj F' M → Dr c F' v d → Q v (HH F' M)) → r x (HH F M) Q
def wUn (wr : D → (D → Prop) → Prop) (wa : WE) : WE := fun ρ Q => wa ρ fun d1 ρ1 => wr d1 fun d => Q d ρ1
theorem snd_un {c : Cy} {r : V → Hp → VK → Prop} {wr : D → (D → Prop) → Prop} (hr : Ro1 c r wr) (ha : Snp c ta wa) : Snd c (tUn r ta) (wUn wr wa) := fun {b ρ σ F M M0} R Qd Q hw k => by
  refine ha R _ _ hw fun d1 ρ1 x F1 M1 M01 q1 A1 r1 => ?_
  refine hr (b := b) _ _ A1.rel.dj r1 q1 fun d v F' q s dj rv => ?_
  exact k d ρ1 v F' M1 M01 q (A1.trans (A1.rel.grow s dj)) rv
theorem de_un {op : UnaryOp} {r : V → Hp → VK → Prop} {wr : D → (D → Prop) → Prop} (ho : UnR X (unaryOp op) r) (hr : Ro1 (cy X) r wr) (ha : DP X a ta wa) : DE X (.UnaryOp op a pos) (tUn r ta) (wUn wr wa) := ⟨pe_un ho ha.pe, snd_un hr ha.sn⟩

/-! ### and, or, not, if else -/
variable {tA tB' : TT} {wA wB : WT} {rest : List Expr}
def wAnd (t u : WT) : WT := fun ρ Q => t ρ fun k ρ1 => match k with
  | true => u ρ1 Q
  | false => Q false ρ1
def wOr (t u : WT) : WT := fun ρ Q => t ρ fun k ρ1 => match k with
  | true => Q true ρ1
  | false => u ρ1 Q
def wNot (t : WT) : WT := fun ρ Q => t ρ fun k ρ1 => Q (!k) ρ1
theorem dw_and1 (ha : DT X a tA wA) : DWt X (.BoolOp .And [a] pos) tA wA := ⟨pw_and1 ha.pe, ha.sn⟩
theorem dw_or1 (ha : DT X a tA wA) : DWt X (.BoolOp .Or [a] pos) tA wA := ⟨pw_or1 ha.pe, ha.sn⟩
theorem dw_and (ha : DT X a tA wA) (hb : DWt X (.BoolOp .And (b' :: rest) pos) tB' wB) : DWt X (.BoolOp .And (a :: b' :: rest) pos) (tAnd tA tB') (wAnd wA wB) := ⟨pw_and ha.pe hb.pe, fun {b ρ σ F M M0} R Qd Q hw k => by
  refine ha.sn R _ _ hw fun j ρ1 F1 M1 M01 q1 A1 => ?_
  cases j with
  | true =>
    rw [if_pos rfl]
    exact hb.sn A1.rel _ _ q1 fun j ρ2 F2 M2 M02 q2 A2 => k j ρ2 F2 M2 M02 q2 (A1.trans A2)
  | false =>
    rw [if_neg Bool.false_ne_true]
    exact k _ _ _ _ _ q1 A1⟩
theorem dw_or (ha : DT X a tA wA) (hb : DWt X (.BoolOp .Or (b' :: rest) pos) tB' wB) : DWt X (.BoolOp .Or (a :: b' :: rest) pos) (tOr tA tB') (wOr wA wB) := ⟨pw_or ha.pe hb.pe, fun {b ρ σ F M M0} R Qd Q hw k => by
  refine ha.sn R _ _ hw fun j ρ1 F1 M1 M01 q1 A1 => ?_
  cases j with
  | false =>
    rw [if_neg Bool.false_ne_true]
    exact hb.sn A1.rel _ _ q1 fun j ρ2 F2 M2 M02 q2 A2 => k j ρ2 F2 M2 M02 q2 (A1.trans A2)
  | true =>
    rw [if_pos rfl]
    exact k _ _ _ _ _ q1 A1⟩
theorem DWt.dt (h : DWt X e tA wA) : DT X e tA wA := ⟨h.pe.pt, h.sn⟩
theorem dt_not (ha : DT X a tA wA) : DT X (.UnaryOp .Not a pos) (tNot tA) (wNot wA) := ⟨pt_not ha.pe, fun {b ρ σ F M M0} R Qd Q hw k => ha.sn R _ _ hw fun j ρ1 F1 M1 M01 q1 A1 => k _ ρ1 F1 M1 M01 q1 A1⟩
/-- .. as values -/
def wAndV (wa wb : WE) : WE := fun ρ Q => wa ρ fun d ρ1 => match d with
  | .bl true => wb ρ1 Q
  | .bl false => Q (.bl false) ρ1
  | _ => False
def wOrV (wa wb : WE) : WE := fun ρ Q => wa ρ fun d ρ1 => match d with
  | .bl true => Q (.bl true) ρ1
  | .bl false => wb ρ1 Q
  | _ => False
def wNotV (wa : WE) : WE := fun ρ Q => wa ρ fun d ρ1 => match d with
  | .bl k => Q (.bl (!k)) ρ1
  | _ => False
theorem de_one {op} (h : DE X a ta wa) : DE X (.BoolOp op [a] pos) ta wa := ⟨pe_one h.pe, h.sn⟩
theorem de_and (ha : DE X a ta wa) (hb : DE X (.BoolOp .And (b' :: rest) pos) tb wb) : DE X (.BoolOp .And (a :: b' :: rest) pos) (tAndV ta tb) (wAndV wa wb) := ⟨pe_and ha.pe hb.pe, fun {b ρ σ F M M0} R Qd Q hw k => by
  refine ha.sn R _ _ hw fun d ρ1 v F1 M1 M01 q1 A1 r => ?_
  cases d with
  | bl j =>
    simp only [Dr] at r
    refine ⟨j, r, ?_⟩
    cases j with
    | true =>
      rw [if_pos rfl]
      exact hb.sn A1.rel _ _ q1 fun d ρ2 v F2 M2 M02 q2 A2 r2 => k d ρ2 v F2 M2 M02 q2 (A1.trans A2) r2
    | false =>
      rw [if_neg Bool.false_ne_true]
      exact k _ _ _ _ _ _ q1 A1 (by simp only [Dr])
  | _ => exact q1.elim⟩
theorem de_or (ha : DE X a ta wa) (hb : DE X (.BoolOp .Or (b' :: rest) pos) tb wb) : DE X (.BoolOp .Or (a :: b' :: rest) pos) (tOrV ta tb) (wOrV wa wb) := ⟨pe_or ha.pe hb.pe, fun {b ρ σ F M M0} R Qd Q hw k => by
  refine ha.sn R _ _ hw fun d ρ1 v F1 M1 M01 q1 A1 r => ?_
  cases d with
  | bl j =>
    simp only [Dr] at r
    refine ⟨j, r, ?_⟩
    cases j with
    | false =>
      rw [if_neg Bool.false_ne_true]
      exact hb.sn A1.rel _ _ q1 fun d ρ2 v F2 M2 M02 q2 A2 r2 => k d ρ2 v F2 M2 M02 q2 (A1.trans A2) r2
    | true =>
      rw [if_pos rfl]
      exact k _ _ _ _ _ _ q1 A1 (by simp only [Dr])
  | _ => exact q1.elim⟩
theorem de_not (ha : DE X a ta wa) : DE X (.UnaryOp .Not a pos) (tNotV ta) (wNotV wa) := ⟨pe_not ha.pe, fun {b ρ σ F M M0} R Qd Q hw k => by
  refine ha.sn R _ _ hw fun d ρ1 v F1 M1 M01 q1 A1 r => ?_
  cases d with
  | bl j => simp only [Dr] at r; exact ⟨j, r, k _ ρ1 _ F1 M1 M01 q1 A1 (by simp only [Dr])⟩
  | _ => exact q1.elim⟩
def wIfE (t : WT) (wa wb : WE) : WE := fun ρ Q => t ρ fun k ρ1 => match k with
  | true => wa ρ1 Q
  | false => wb ρ1 Q
theorem de_if {c' : Expr} (hc : DT X c' tA wA) (ha : DE X a ta wa) (hb : DE X b' tb wb) : DE X (.IfExp c' a b' pos) (tIf tA ta tb) (wIfE wA wa wb) := ⟨pe_ifExp hc.pe ha.pe hb.pe, fun {b ρ σ F M M0} R Qd Q hw k => by
  refine hc.sn R _ _ hw fun j ρ1 F1 M1 M01 q1 A1 => ?_
  cases j with
  | true =>
    rw [if_pos rfl]
    exact ha.sn A1.rel _ _ q1 fun d ρ2 v F2 M2 M02 q2 A2 r2 => k d ρ2 v F2 M2 M02 q2 (A1.trans A2) r2
  | false =>
    rw [if_neg Bool.false_ne_true]
    exact hb.sn A1.rel _ _ q1 fun d ρ2 v F2 M2 M02 q2 A2 r2 => k d ρ2 v F2 M2 M02 q2 (A1.trans A2) r2⟩

/-! ### arguments, displays -/
variable {es : List Expr} {t : TA} {wt : WA}
def waNil : WA := fun ρ Q => Q [] ρ
def waCons (w : WE) (wr : WA) : WA := fun ρ Q => w ρ fun d ρ1 => wr ρ1 fun ds ρ2 => Q (d :: ds) ρ2
theorem da_nil : DA X [] tNil waNil := ⟨pa_nil, fun {b ρ σ F M M0} R Qd Q hw k => k [] ρ [] F M M0 hw R.aft .nil⟩
theorem da_cons (ha : DE X e te w) (hr : DA X es t wt) (hs : starEach (e :: es) X.env = (false, eval e X.env) :: starEach es X.env := by rfl) : DA X (e :: es) (tCons te t) (waCons w wt) :=
  ⟨pa_cons ha.pe hr.pe hs, fun {b ρ σ F M M0} R Qd Q hw k => by
    refine ha.sn R _ _ hw fun d ρ1 v F1 M1 M01 q1 A1 r1 => ?_
    exact hr.sn A1.rel _ _ q1 fun ds ρ2 vs F2 M2 M02 q2 A2 r2 => k (d :: ds) ρ2 (v :: vs) F2 M2 M02 q2 (A1.trans A2) (.cons (r1.up A2.same) r2)⟩
def wTup (wt : WA) : WE := fun ρ Q => wt ρ fun ds ρ1 => ds.length ≤ sizeLine ∧ Q (.tup ds) ρ1
theorem de_tup {x1} (h : DA X es t wt) : DE X (.Tuple es x1 pos) (tTup t) (wTup wt) := ⟨pe_tup h.pe, fun {b ρ σ F M M0} R Qd Q hw k => by
  refine h.sn R _ _ hw fun ds ρ1 vs F1 M1 M01 q1 A1 r1 => ⟨by rw [r1.length]; exact q1.1, fun p hp => ?_⟩
  obtain ⟨hf, hm⟩ := hh_none hp
  rw [hh_updF hm]
  have s : Same F1 (upd F1 p (.tup vs)) := Same.updF hf
  refine k _ ρ1 _ _ M1 M01 q1.2 (A1.trans (A1.rel.grow s (A1.rel.dj.updF hm))) ?_
  simp only [Dr]
  exact ⟨p, vs, rfl, upd_same, r1.up s⟩⟩
def wfLst (wt : WA) : List Sl → (Sl → List Sl → Prop) → Prop := fun ρ Q => wt ρ fun ds ρ1 => ds.length ≤ sizeLine ∧ Q (.ol ds) ρ1
theorem df_lst (h : DA X es t wt) : DF X (.List es pos) (tLst t) (wfLst wt) := ⟨pe_lst h.pe, fun {b ρ σ F M M0} R Qd Q hw k => by
  refine h.sn R _ _ hw fun ds ρ1 vs F1 M1 M01 q1 A1 r1 => ⟨by rw [r1.length]; exact q1.1, fun p hp => ?_⟩
  obtain ⟨hf, hm⟩ := hh_none hp
  rw [hh_updM]
  exact k (.ol ds) ρ1 p _ F1 M1 M01 q1.2 A1 trivial ⟨vs, rfl, r1⟩ hf hm⟩
/-- a new own object, frozen at once -/
def wFz (wf : List Sl → (Sl → List Sl → Prop) → Prop) : WE := fun ρ Q => wf ρ fun sl ρ1 => Q (obD sl) ρ1
theorem DF.de {wf : List Sl → (Sl → List Sl → Prop) → Prop} (h : DF X e te wf) : DE X e te (wFz wf) := ⟨h.pe, fun {b ρ σ F M M0} R Qd Q hw k => by
  refine h.sn R _ _ hw fun sl ρ1 a o F1 M1 M01 q1 A1 hs r f m => ?_
  rw [hh_freeze m]
  have s : Same F1 (upd F1 a o) := Same.updF f
  exact k _ ρ1 _ _ M1 M01 q1 (A1.trans (A1.rel.grow s (A1.rel.dj.updF m))) ((r.leD (.of s)).dr upd_same)⟩
end
end DL

/-! Statements, loops, comprehensions, defs. -/
namespace DL
open PySem L2

structure EnD where
  nx : List Sl → Prop
  rt : D → Prop
  bk : List Sl → Prop := fun _ => False
  ct : List Sl → Prop := fun _ => False
abbrev WS := List Sl → EnD → Prop
/-- the ends over heaps follow from the ends over data -/
structure Fin (c : Cy) (b : Option Addr) (F M0 : Hp) (E : EnD) (Dn : Ends) : Prop where
  nx : ∀ ρ σ F' M' M0', E.nx ρ → Same F F' → Rel c b ρ σ F' M' M0' → MR b M0 M0' → Dn.nx σ (HH F' M')
  bk : ∀ ρ σ F' M' M0', E.bk ρ → Same F F' → Rel c b ρ σ F' M' M0' → MR b M0 M0' → Dn.bk σ (HH F' M')
  ct : ∀ ρ σ F' M' M0', E.ct ρ → Same F F' → Rel c b ρ σ F' M' M0' → MR b M0 M0' → Dn.ct σ (HH F' M')
  rt : ∀ d v F' M0', E.rt d → Same F F' → Dj F' M0' → (∀ a, b = some a → Box F' M0' a) → MR b M0 M0' → Dr c F' v d → Dn.rt v (HH F' M0')
def Sns (c : Cy) (ts : TS) (w : WS) : Prop := ∀ {b : Option Addr} {ρ : List Sl} {σ : St} {F M M0 : Hp}, Rel c b ρ σ F M M0 → ∀ (E : EnD) (Dn : Ends), w ρ E → Fin c b F M0 E Dn → ts Dn σ (HH F M)
structure DS (X : Cx) (s : Stmt) (ts : TS) (w : WS) : Prop where
  ps : PS X s ts
  sn : Sns (cy X) ts w
structure DSs (X : Cx) (s : List Stmt) (ts : TS) (w : WS) : Prop where
  ps : PSs X s ts
  sn : Sns (cy X) ts w
section
variable {c : Cy} {b : Option Addr} {F M M0 F1 M1 M01 : Hp} {ρ ρ1 : List Sl} {σ : St} {E : EnD} {Dn : Ends}
theorem Fin.on (f : Fin c b F M0 E Dn) (s : Same F F1) (m : MR b M0 M01) : Fin c b F1 M01 E Dn :=
  ⟨fun ρ σ F' M' M0' e s' r m' => f.nx ρ σ F' M' M0' e (s.trans s') r (m.trans m'), fun ρ σ F' M' M0' e s' r m' => f.bk ρ σ F' M' M0' e (s.trans s') r (m.trans m'),
    fun ρ σ F' M' M0' e s' r m' => f.ct ρ σ F' M' M0' e (s.trans s') r (m.trans m'), fun d v F' M0' e s' dj bx m' r => f.rt d v F' M0' e (s.trans s') dj bx (m.trans m') r⟩
/-- all own objects frozen -/
theorem RelE.frzAll : ∀ {ρ : List Sl} {σ : St} {F M : Hp}, RelE c b F M0 ρ σ M → Dj F M → ∃ F', Same F F' ∧ HH F M = HH F' M0 ∧ Dj F' M0
  | [], σ, F, M, h, dj => by
    obtain ⟨_, rfl⟩ := h
    exact ⟨F, Same.refl _, rfl, dj⟩
  | s1 :: ρ, σ, F, M, h, dj => by
    obtain ⟨v, σr, e, h⟩ := h
    have own : ∀ sl : Sl, (∃ a o M', v = some (.ref a) ∧ ObR c F sl o ∧ F a = none ∧ M' a = none ∧ M = upd M' a o ∧ RelE c b F M0 ρ σr M') → ∃ F', Same F F' ∧ HH F M = HH F' M0 ∧ Dj F' M0 := fun sl h => by
      obtain ⟨a, o, M', e1, r, f, m, e2, t⟩ := h
      have dj' : Dj F M' := fun x u q => dj x u (by rw [e2, upd_ne (ne_of_none q m)]; exact q)
      have s : Same F (upd F a o) := Same.updF f
      have t' : RelE c b (upd F a o) M0 ρ σr M' := t.leD (.of s) (fun x u q z => by rw [upd_ne (ne_of_none (t.sub _ _ q) m)]; exact z) (fun x u q z => by rw [upd_ne (ne_of_none q m)]; exact z)
      obtain ⟨F', h1, h2, h3⟩ := RelE.frzAll t' (dj'.updF m)
      exact ⟨F', s.trans h1, by rw [e2, hh_freeze m, h2], h3⟩
    cases s1 with
    | no => exact RelE.frzAll h dj
    | sh d => exact RelE.frzAll h.2 dj
    | bx => exact RelE.frzAll h.2 dj
    | ol ds => exact own (.ol ds) h
    | ok ks ds => exact own (.ok ks ds) h
    | ot ks ds => exact own (.ot ks ds) h
    | oi n fs ds => exact own (.oi n fs ds) h
/-- a shared value comes to a slot -/
theorem Rel.set {x : V} {d : D} {i : Nat} {sl : Sl} (R : Rel c b ρ σ F M M0) (q : Dr c F x d) (e : ρ[i]? = some sl) :
    ∃ F' M', HH F M = HH F' M' ∧ Same F F' ∧ Rel c b (ρ.set i (.sh d)) (σ.set i (some x)) F' M' M0 := by
  by_cases hs : isOwn sl
  · obtain ⟨a, F', M', h1, h2, A, r⟩ := R.freeze e hs
    have hl : i < ρ.length := by
      rcases Nat.lt_or_ge i ρ.length with z | z
      · exact z
      · rw [List.getElem?_eq_none z] at e; cases e
    have t := RelE.setSh (q.up A.same) A.rel.env (List.getElem?_set_self hl) (fun z => z)
    rw [List.set_set] at t
    exact ⟨F', M', h2, A.same, A.rel.dj, t, A.rel.box⟩
  · exact ⟨F, M, rfl, Same.refl _, R.dj, R.env.setSh q e hs, R.box⟩
end

section
variable {X : Cx} {st : Stmt} {rest : List Stmt} {t u : TS} {wt wu : WS} {e : Expr} {te : TE} {w : WE} {pos : Pos}
def wNext : WS := fun ρ E => E.nx ρ
def wSeq (w1 w2 : WS) : WS := fun ρ E => w1 ρ { E with nx := fun ρ' => w2 ρ' E }
theorem dss_nil : DSs X [] tNext wNext := ⟨pss_nil, fun {b ρ σ F M M0} R E Dn hw f => f.nx ρ σ F M M0 hw (Same.refl _) R (MR.refl _ _)⟩
theorem sns_seq {c : Cy} (h1 : Sns c t wt) (h2 : Sns c u wu) : Sns c (tSeq t u) (wSeq wt wu) := fun {b ρ σ F M M0} R E Dn hw f =>
  h1 R _ { Dn with nx := u Dn } hw ⟨fun ρ' σ' F' M' M0' e s r m => h2 r E Dn e (f.on s m), f.bk, f.ct, f.rt⟩
theorem dss_cons (h1 : DS X st t wt) (h2 : DSs X rest u wu) : DSs X (st :: rest) (tSeq t u) (wSeq wt wu) := ⟨pss_cons h1.ps h2.ps, sns_seq h1.sn h2.sn⟩
theorem dss_one (h1 : DS X st t wt) : DSs X [st] t wt := ⟨pss_one h1.ps, h1.sn⟩
def wBreak : WS := fun ρ E => E.bk ρ
def wCont : WS := fun ρ E => E.ct ρ
theorem ds_pass : DS X (.Pass pos) tNext wNext := ⟨ps_pass, fun {b ρ σ F M M0} R E Dn hw f => f.nx ρ σ F M M0 hw (Same.refl _) R (MR.refl _ _)⟩
theorem ds_break : DS X (.Break pos) tBreak wBreak := ⟨ps_break, fun {b ρ σ F M M0} R E Dn hw f => f.bk ρ σ F M M0 hw (Same.refl _) R (MR.refl _ _)⟩
theorem ds_continue : DS X (.Continue pos) tCont wCont := ⟨ps_continue, fun {b ρ σ F M M0} R E Dn hw f => f.ct ρ σ F M M0 hw (Same.refl _) R (MR.refl _ _)⟩
theorem ds_doc {x j pos pos'} : DS X (.Expr (.Constant (.str x) j pos) pos') tNext wNext := ⟨ps_doc, fun {b ρ σ F M M0} R E Dn hw f => f.nx ρ σ F M M0 hw (Same.refl _) R (MR.refl _ _)⟩
def wDrop (w : WE) : WS := fun ρ E => w ρ fun _ ρ1 => E.nx ρ1
theorem ds_expr (he : DE X e te w) (hs : swapsWith e none pos.line X.env = pure false := by rfl) : DS X (.Expr e pos) (tDrop te) (wDrop w) := ⟨ps_expr he.pe hs, fun {b ρ σ F M M0} R E Dn hw f =>
  he.sn R _ _ hw fun d ρ1 v F1 M1 M01 q A r => f.nx ρ1 σ F1 M1 M01 q A.same A.rel A.mr⟩
def wRet (w : WE) : WS := fun ρ E => w ρ fun d _ => E.rt d
theorem ds_ret (he : DE X e te w) : DS X (.Return (some e) pos) (tRet te) (wRet w) := ⟨ps_ret he.pe, fun {b ρ σ F M M0} R E Dn hw f =>
  he.sn R _ _ hw fun d ρ1 v F1 M1 M01 q A r => by
    obtain ⟨F', s, eh, dj⟩ := A.rel.env.frzAll A.rel.dj
    rw [eh]
    exact f.rt d v F' M01 q (A.same.trans s) dj (fun a z => (A.rel.box a z).leD (.of s)) A.mr (r.up s)⟩
def wRetN : WS := fun _ E => E.rt .non
theorem ds_retN : DS X (.Return none pos) tRetN wRetN := ⟨ps_retN, fun {b ρ σ F M M0} R E Dn hw f => by
  obtain ⟨F', s, eh, dj⟩ := R.env.frzAll R.dj
  show Dn.rt .non (HH F M)
  rw [eh]
  exact f.rt .non .non F' M0 hw s dj (fun a z => (R.box a z).leD (.of s)) (MR.refl _ _) (by simp only [Dr])⟩
def wIf (wc : WT) (w1 w2 : WS) : WS := fun ρ E => wc ρ fun k ρ1 => match k with
  | true => w1 ρ1 E
  | false => w2 ρ1 E
theorem ds_if {c : Expr} {a b : List Stmt} {tc : TT} {wc : WT} (hc : DT X c tc wc) (ha : DSs X a t wt) (hb : DSs X b u wu) : DS X (.If c a b pos) (tIfS tc t u) (wIf wc wt wu) := ⟨ps_if hc.pe ha.ps hb.ps, fun {b ρ σ F M M0} R E Dn hw f => by
  refine hc.sn R _ _ hw fun k ρ1 F1 M1 M01 q A => ?_
  cases k with
  | true =>
    rw [if_pos rfl]
    exact ha.sn A.rel E Dn q (f.on A.same A.mr)
  | false =>
    rw [if_neg Bool.false_ne_true]
    exact hb.sn A.rel E Dn q (f.on A.same A.mr)⟩
/-! ### targets -/
abbrev WG := D → List Sl → (List Sl → Prop) → Prop
def Sng (c : Cy) (g : TG) (w : WG) (is : List Nat) : Prop := ∀ {b : Option Addr} {ρ : List Sl} {σ : St} {F M M0 : Hp} {v : V} {d : D}, Rel c b ρ σ F M M0 → Dr c F v d → ∀ (Qd : List Sl → Prop) (Q : St → Hp → Prop), w d ρ Qd →
  (∀ ρ' σ' F' M' M0', Qd ρ' → Same F F' → Ext b (HH F M) (HH F' M') → Rel c b ρ' σ' F' M' M0' → MR b M0 M0' → (∀ vs : List Nat, (∀ i ∈ is, i ∈ vs) → wipe σ' vs = wipe σ vs) → Q σ' (HH F' M')) → g v σ (HH F M) Q
structure DG (X : Cx) (e : Expr) (g : TG) (w : WG) (is : List Nat) : Prop where
  pg : PG X e g
  sn : Sng (cy X) g w is
theorem wipe_out {σ : St} {i : Nat} {x : Option V} : ∀ {vs : List Nat}, i ∉ vs → wipe (σ.set i x) vs = (wipe σ vs).set i x
  | [], _ => rfl
  | v :: vs, h => by
    have h1 : v ≠ i := fun e => h (by rw [e]; exact List.mem_cons_self)
    have h2 : i ∉ vs := fun e => h (List.mem_cons_of_mem _ e)
    unfold wipe
    rw [wipe_out h2, List.set_comm _ _ h1]
theorem wipe_in {σ : St} {i : Nat} {x : Option V} : ∀ {vs : List Nat}, i ∈ vs → wipe (σ.set i x) vs = wipe σ vs
  | [], h => absurd h (by simp)
  | v :: vs, h => by
    by_cases h2 : i ∈ vs
    · unfold wipe
      rw [wipe_in h2]
    · have e : i = v := (List.mem_cons.mp h).resolve_right h2
      subst e
      unfold wipe
      rw [wipe_out h2, List.set_set]
/-- a slot is stored -/
def wSt (i : Nat) (d : D) (ρ : List Sl) (Q : List Sl → Prop) : Prop := match ρ[i]? with
  | some _ => Q (ρ.set i (.sh d))
  | none => False
theorem sng_name {c : Cy} (i : Nat) : Sng c (gName i) (wSt i) [i] := fun {b ρ σ F M M0 v d} R r Qd Q hw k => by
  unfold wSt at hw
  cases e : ρ[i]? with
  | none => rw [e] at hw; exact hw.elim
  | some sl =>
    rw [e] at hw
    obtain ⟨F', M', eh, s, R'⟩ := R.set r e
    show Q (σ.set i (some v)) (HH F M)
    rw [eh]
    refine k _ _ F' M' M0 hw s ?_ R' (MR.refl _ _) fun vs hv => wipe_in (hv i (by simp))
    rw [eh]; exact Ext.refl _ _
theorem dg_name {i : Nat} {x : Str} (hN : X.N.Nodup) (hi : X.N[i]? = some x) (hx : Loc X.env.scope x) (hf : X.fn x = true ∨ X.env.scope.names.lookup x = some .local := by first | exact .inl rfl | exact .inr rfl | assumption) : DG X (.Name x pos) (gName i) (wSt i) [i] :=
  ⟨pg_name hN hi hx hf, sng_name i⟩
/-- several names -/
def gNames : List Nat → TGs
  | [] => gNil
  | i :: r => gCons (gName i) (gNames r)
def wStL : List Nat → List D → List Sl → (List Sl → Prop) → Prop
  | [], ds, ρ, Q => match ds with
    | [] => Q ρ
    | _ :: _ => False
  | i :: r, ds, ρ, Q => match ds with
    | [] => False
    | d :: ds => wSt i d ρ fun ρ1 => wStL r ds ρ1 Q
theorem sngs_names {c : Cy} : ∀ (is : List Nat) {b : Option Addr} {ρ : List Sl} {σ : St} {F M M0 : Hp} {vs : List V} {ds : List D}, Rel c b ρ σ F M M0 → DrL c F vs ds → ∀ (Qd : List Sl → Prop) (Q : St → Hp → Prop), wStL is ds ρ Qd →
    (∀ ρ' σ' F' M' M0', Qd ρ' → Same F F' → Ext b (HH F M) (HH F' M') → Rel c b ρ' σ' F' M' M0' → MR b M0 M0' → (∀ vs : List Nat, (∀ i ∈ is, i ∈ vs) → wipe σ' vs = wipe σ vs) → Q σ' (HH F' M')) → gNames is vs σ (HH F M) Q
  | [], b, ρ, σ, F, M, M0, vs, ds, R, r, Qd, Q, hw, k => by
    cases ds with
    | nil => exact ⟨r.nil_iff, k ρ σ F M M0 hw (Same.refl _) (Ext.refl _ _) R (MR.refl _ _) fun _ _ => rfl⟩
    | cons d ds => exact hw.elim
  | i :: is, b, ρ, σ, F, M, M0, vs, ds, R, r, Qd, Q, hw, k => by
    cases ds with
    | nil => exact hw.elim
    | cons d ds =>
      obtain ⟨v, vr, rfl, r1, r2⟩ := r.cons_iff
      refine ⟨v, vr, rfl, ?_⟩
      have hw : wSt i d ρ fun ρ1 => wStL is ds ρ1 Qd := hw
      refine sng_name i R r1 _ _ hw fun ρ1 σ1 F1 M1 M01 q s x R1 m z => ?_
      exact sngs_names is R1 (r2.up s) Qd Q q fun ρ2 σ2 F2 M2 M02 q2 s2 x2 R2 m2 z2 => k ρ2 σ2 F2 M2 M02 q2 (s.trans s2) (x.trans x2) R2 (m.trans m2) fun vs hv =>
        (z2 vs fun j hj => hv j (List.mem_cons_of_mem _ hj)).trans (z vs fun j hj => hv j (by rw [List.mem_singleton.mp hj]; exact List.mem_cons_self))
def wTp (is : List Nat) : WG := fun d ρ Q => match d with
  | .tup ds => ds.length = is.length ∧ wStL is ds ρ Q
  | _ => False
theorem sng_tup {c : Cy} (is : List Nat) {n : Nat} (hn : n = is.length) : Sng c (gTup c.K n (gNames is)) (wTp is) is := fun {b ρ σ F M M0 v d} R r Qd Q hw k => by
  cases d with
  | tup ds =>
    simp only [Dr] at r
    obtain ⟨a, vs, e, q, rl⟩ := r
    exact ⟨a, vs, e, SqT.of (R.dj.f q), by rw [rl.length, hn]; exact hw.1, sngs_names is R rl Qd Q hw.2 k⟩
  | _ => exact hw.elim
theorem dg_tup {es : List Expr} {k : Nat} (is : List Nat) (hc : X.calm = true) (h : PGs X es (gNames is)) (hn : (assignEach es X.env).length = is.length := by rfl) (hst : (assignEach es X.env).findIdx? (·.1) = none := by rfl) : DG X (.Tuple es k pos) (gTup X.K is.length (gNames is)) (wTp is) is :=
  ⟨pg_tup hc h hn hst, sng_tup (c := cy X) is rfl⟩
theorem gs_nil : PGs X [] (gNames []) := pgs_nil
theorem gs_cons {es : List Expr} {x : Str} {p : Pos} {i : Nat} {is : List Nat} (hN : X.N.Nodup) (hi : X.N[i]? = some x) (hx : Loc X.env.scope x) (hr : PGs X es (gNames is))
    (hs : (assignEach (.Name x p :: es) X.env).map (·.2) = assign (.Name x p) X.env :: (assignEach es X.env).map (·.2) := by rfl) (hf : X.fn x = true ∨ X.env.scope.names.lookup x = some .local := by first | exact .inl rfl | exact .inr rfl | assumption) : PGs X (.Name x p :: es) (gNames (i :: is)) :=
  pgs_cons (pg_name hN hi hx hf) hr hs
def wAsg (w : WE) (g : WG) : WS := fun ρ E => w ρ fun d ρ1 => g d ρ1 E.nx
theorem sns_asg {c : Cy} {g : TG} {wg : WG} {is : List Nat} (he : Snd c te w) (hg : Sng c g wg is) : Sns c (tAsg te g) (wAsg w wg) := fun {b ρ σ F M M0} R E Dn hw f =>
  he R _ _ hw fun d ρ1 v F1 M1 M01 q A r => hg A.rel r _ _ q fun ρ2 σ2 F2 M2 M02 q2 s x R2 m _ => f.nx ρ2 σ2 F2 M2 M02 q2 (A.same.trans s) R2 (A.mr.trans m)
theorem ds_asg {tg : Expr} {g : TG} {wg : WG} {is : List Nat} (he : DE X e te w) (hg : DG X tg g wg is) (hs : swapsWithSole [tg] e pos.line X.env = pure false := by rfl) (hw : swappedStores [tg] e X.env = pure none := by rfl)
    (h1 : (assignEach [tg] X.env).map (·.2) = [assign tg X.env] := by rfl) : DS X (.Assign [tg] e pos) (tAsg te g) (wAsg w wg) := ⟨ps_asg he.pe hg.pg hs hw h1, sns_asg he.sn hg.sn⟩
theorem ds_set {i : Nat} {x : Str} {pos' : Pos} (hN : X.N.Nodup) (hi : X.N[i]? = some x) (hx : Loc X.env.scope x) (he : DE X e te w) (hs : swapsWith e (some (.Name x pos')) pos.line X.env = pure false := by rfl) (hf : X.fn x = true ∨ X.env.scope.names.lookup x = some .local := by first | exact .inl rfl | exact .inr rfl | assumption) :
    DS X (.Assign [.Name x pos'] e pos) (tAsg te (gName i)) (wAsg w (wSt i)) := ⟨ps_set hN hi hx he.pe hs hf, sns_asg he.sn (sng_name i)⟩
/-- the name gets a new own object -/
def wAsgO (wf : List Sl → (Sl → List Sl → Prop) → Prop) (i : Nat) : WS := fun ρ E => wf ρ fun sl ρ1 => match ρ1[i]? with
  | some _ => E.nx (ρ1.set i sl)
  | none => False
theorem sns_asgO {c : Cy} {wf : List Sl → (Sl → List Sl → Prop) → Prop} {i : Nat} (he : Snf c te wf) : Sns c (tAsg te (gName i)) (wAsgO wf i) := fun {b ρ σ F M M0} R E Dn hw f =>
  he R _ _ hw fun sl ρ1 a o F1 M1 M01 q A hs r fr m => by
    cases e : ρ1[i]? with
    | none => simp only [e] at q
    | some s0 =>
      simp only [e] at q
      -- first forget what stood there
      have key : ∃ F' M', Same F1 F' ∧ HH F1 M1 = HH F' M' ∧ F' a = none ∧ M' a = none ∧ Dj F' M' ∧ RelE c b F' M01 (ρ1.set i .no) σ M' := by
        have es : σ.set i (σ[i]?.getD none) = σ := by
          cases h : σ[i]? with
          | none => rw [List.set_eq_of_length_le (List.getElem?_eq_none_iff.mp h)]
          | some x =>
            obtain ⟨hi, ei⟩ := List.getElem?_eq_some_iff.mp h
            show σ.set i x = σ
            rw [← ei]; exact List.set_getElem_self hi
        by_cases h0 : isOwn s0
        · obtain ⟨a', F', M', h1, h2, A', r'⟩ := A.rel.freeze e h0
          have hl : i < ρ1.length := by
            rcases Nat.lt_or_ge i ρ1.length with z | z
            · exact z
            · rw [List.getElem?_eq_none z] at e; cases e
          have t := RelE.forget (x := σ[i]?.getD none) A'.rel.env (List.getElem?_set_self hl) (fun z => z)
          rw [List.set_set, es] at t
          have hn : HH F' M' a = none := by rw [← h2, hh_n m]; exact fr
          obtain ⟨n1, n2⟩ := hh_none hn
          exact ⟨F', M', A'.same, h2, n1, n2, A'.rel.dj, t⟩
        · have t := RelE.forget (x := σ[i]?.getD none) A.rel.env e h0
          rw [es] at t
          exact ⟨F1, M1, Same.refl _, rfl, fr, m, A.rel.dj, t⟩
      obtain ⟨F', M', s, eh, n1, n2, dj, t⟩ := key
      have hl : i < ρ1.length := by
        rcases Nat.lt_or_ge i ρ1.length with z | z
        · exact z
        · rw [List.getElem?_eq_none z] at e; cases e
      have t2 := RelE.setOw hs (r.leD (.of s)) n1 t n2 (List.getElem?_set_self hl) (fun z => z)
      rw [List.set_set] at t2
      show Dn.nx (σ.set i (some (.ref a))) (HH F1 (upd M1 a o))
      rw [← hh_updM, eh, hh_updM]
      exact f.nx _ _ F' _ M01 q (A.same.trans s) ⟨dj.updM n1, t2, fun x z => (A.rel.box x z).leD (.of s)⟩ A.mr
theorem ds_setO {i : Nat} {x : Str} {pos' : Pos} {wf : List Sl → (Sl → List Sl → Prop) → Prop} (hN : X.N.Nodup) (hi : X.N[i]? = some x) (hx : Loc X.env.scope x) (he : DF X e te wf) (hs : swapsWith e (some (.Name x pos')) pos.line X.env = pure false := by rfl) (hf : X.fn x = true ∨ X.env.scope.names.lookup x = some .local := by first | exact .inl rfl | exact .inr rfl | assumption) :
    DS X (.Assign [.Name x pos'] e pos) (tAsg te (gName i)) (wAsgO wf i) := ⟨ps_set hN hi hx he.pe hs hf, sns_asgO he.sn⟩
/-- name op= e -/
def wAug (i : Nat) (wr : D → D → (D → Prop) → Prop) (w : WE) : WS := fun ρ E => match ρ[i]? with
  | some (.sh d0) => w ρ fun d ρ1 => wr d0 d fun d' => wSt i d' ρ1 E.nx
  | _ => False
theorem ds_aug {i : Nat} {x : Str} {op : Operator} {ti : TIp} {wr : D → D → (D → Prop) → Prop} {pos' : Pos} (hN : X.N.Nodup) (hi : X.N[i]? = some x) (hx : Loc X.env.scope x) (he : DE X e te w) (ho : PIp X op ti) (hr : Rop (cy X) ti wr) (hf : X.fn x = true ∨ X.env.scope.names.lookup x = some .local := by first | exact .inl rfl | exact .inr rfl | assumption) :
    DS X (.AugAssign (.Name x pos') op e pos) (tAug i te ti) (wAug i wr w) := ⟨ps_aug hN hi hx he.pe ho hf, fun {b ρ σ F M M0} R E Dn hw f => by
  unfold wAug at hw
  cases e : ρ[i]? with
  | none => rw [e] at hw; exact hw.elim
  | some sl =>
    rw [e] at hw
    cases sl with
    | sh d0 =>
      obtain ⟨x0, h1, h2⟩ := R.env.get e
      refine ⟨x0, h1, ?_⟩
      refine he.sn R _ _ hw fun d ρ1 v F1 M1 M01 q A r => ?_
      refine hr (b := b) _ _ A.rel.dj (Rk.of A.rel.dj (fun a o z => A.rel.nb z) (h2.up A.same)) (Rk.of A.rel.dj (fun a o z => A.rel.nb z) r) q fun d' v' F2 q' s dj _ r' => ?_
      have A2 := A.trans (A.rel.grow s dj)
      exact sng_name i A2.rel r' _ _ q' fun ρ2 σ2 F3 M3 M03 q2 s2 x2 R2 m2 _ => f.nx ρ2 σ2 F3 M3 M03 q2 (A2.same.trans s2) R2 (A2.mr.trans m2)
    | _ => exact hw.elim⟩
end

/-! ### loops -/
/-- what is walked yields these data -/
def ItOk (c : Cy) (J : It) (F : Hp) (ds : List D) : Prop := ∀ (F' M' : Hp), Same F F' → Dj F' M' → ∀ i, (∀ d, ds[i]? = some d → J.go i (HH F' M') ∧ ∀ x H3, J.yld i (HH F' M') x H3 → ∃ F3, H3 = HH F3 M' ∧ Same F' F3 ∧ Dj F3 M' ∧ Dr c F3 x d) ∧ (ds.length = i → J.stop i (HH F' M'))
def Sni (c : Cy) (wi : TI) (w : WA) : Prop := ∀ {b : Option Addr} {ρ : List Sl} {σ : St} {F M M0 : Hp}, Rel c b ρ σ F M M0 → ∀ (Qd : List D → List Sl → Prop) (Q : It → Hp → Prop), w ρ Qd →
  (∀ ds ρ' J F' M' M0', Qd ds ρ' → Aft c b F M M0 ρ' σ F' M' M0' → ItOk c J F' ds → Q J (HH F' M')) → wi σ (HH F M) Q
structure DI (X : Cx) (tg iter : Expr) (wi : TI) (w : WA) : Prop where
  pi : PI X tg iter wi
  sn : Sni (cy X) wi w
def wForL (wg : WG) (wb : WS) : List D → WS
  | [], ρ, E => E.nx ρ
  | d :: ds, ρ, E => wg d ρ fun ρ1 => wb ρ1 { nx := fun ρ2 => wForL wg wb ds ρ2 E, ct := fun ρ2 => wForL wg wb ds ρ2 E, bk := E.nx, rt := E.rt }
def wFor (wi : WA) (wg : WG) (wb : WS) : WS := fun ρ E => wi ρ fun ds ρ1 => wForL wg wb ds ρ1 E
theorem sns_for {c : Cy} {wi : TI} {g : TG} {tb : TS} {w : WA} {wg : WG} {wb : WS} {is : List Nat} (hi : Sni c wi w) (hg : Sng c g wg is) (hb : Sns c tb wb) : Sns c (tFor wi g tb) (wFor w wg wb) := fun {b ρ σ F M M0} R E Dn hw f => by
  refine hi R _ _ hw fun ds ρ1 J F1 M1 M01 q A it => ?_
  refine ⟨fun i m σ' H' => m = ds.length - i ∧ i ≤ ds.length ∧ ∃ ρ' F' M' M0', H' = HH F' M' ∧ Same F1 F' ∧ Rel c b ρ' σ' F' M' M0' ∧ MR b M01 M0' ∧ wForL wg wb (ds.drop i) ρ' E,
    ⟨ds.length, by simp, Nat.zero_le _, ρ1, F1, M1, M01, rfl, Same.refl _, A.rel, MR.refl _ _, q⟩, ?_⟩
  rintro i m σ' H' ⟨rfl, hil, ρ', F', M', M0', rfl, s, R', mr, hw'⟩
  by_cases hlt : i < ds.length
  · have ed : ds.drop i = ds[i] :: ds.drop (i + 1) := List.drop_eq_getElem_cons hlt
    rw [ed] at hw'
    have hd : ds[i]? = some ds[i] := List.getElem?_eq_getElem hlt
    refine .inr ⟨((it F' M' s R'.dj i).1 _ hd).1, fun σ2 H2 => i + 1 ≤ ds.length ∧ ∃ ρ' F' M' M0', H2 = HH F' M' ∧ Same F1 F' ∧ Rel c b ρ' σ2 F' M' M0' ∧ MR b M01 M0' ∧ wForL wg wb (ds.drop (i + 1)) ρ' E,
      fun σ2 H2 n2 => ⟨ds.length - (i + 1), by omega, rfl, n2.1, n2.2⟩, fun x H3 hy => ?_⟩
    obtain ⟨F3, rfl, s3, dj3, r3⟩ := ((it F' M' s R'.dj i).1 _ hd).2 x H3 hy
    have A3 := R'.grow s3 dj3
    refine hg A3.rel r3 _ _ hw' fun ρ4 σ4 F4 M4 M04 q4 s4 x4 R4 m4 _ => ?_
    have sAll := (s.trans s3).trans s4
    have mAll := mr.trans m4
    refine hb R4 _ { Dn with nx := _, ct := _, bk := Dn.nx } q4 ⟨fun ρ5 σ5 F5 M5 M05 e5 s5 R5 m5 => ⟨hlt, ρ5, F5, M5, M05, rfl, sAll.trans s5, R5, mAll.trans m5, e5⟩,
      fun ρ5 σ5 F5 M5 M05 e5 s5 R5 m5 => f.nx ρ5 σ5 F5 M5 M05 e5 ((A.same.trans sAll).trans s5) R5 ((A.mr.trans mAll).trans m5),
      fun ρ5 σ5 F5 M5 M05 e5 s5 R5 m5 => ⟨hlt, ρ5, F5, M5, M05, rfl, sAll.trans s5, R5, mAll.trans m5, e5⟩,
      fun d v F5 M05 e5 s5 dj5 bx5 m5 r5 => f.rt d v F5 M05 e5 ((A.same.trans sAll).trans s5) dj5 bx5 ((A.mr.trans mAll).trans m5) r5⟩
  · have e : i = ds.length := by omega
    subst e
    rw [List.drop_length] at hw'
    exact .inl ⟨(it F' M' s R'.dj _).2 rfl, f.nx ρ' σ' F' M' M0' hw' (A.same.trans s) R' (A.mr.trans mr)⟩
section
variable {X : Cx} {pos : Pos} {tg iter : Expr} {body : List Stmt} {wi : TI} {w : WA} {g : TG} {wg : WG} {tb : TS} {wb : WS}
theorem ds_for (hp : PassesOwn (model X.prog X.w) X.A X.env X.xe) (hc : X.calm = true) {is : List Nat} (hi : DI X tg iter wi w) (hg : DG X tg g wg is) (hb : DSs X body tb wb)
    (hs : ∀ x, foldedSetIterable iter X.env x = pure x := by intro _; rfl) : DS X (.For tg iter body [] pos) (tFor wi g tb) (wFor w wg wb) := ⟨ps_for hp hc hi.pi hg.pg hb.ps hs, sns_for hi.sn hg.sn hb.sn⟩
/-- over a frozen list -/
def wItL (w : WE) : WA := fun ρ Q => w ρ fun d ρ1 => match d with
  | .lst ds => Q ds ρ1
  | _ => False
theorem itl_ok {c : Cy} {F : Hp} {a : Addr} {vs : List V} {ds : List D} (h : F a = some (.lst vs)) (r : DrL c F vs ds) : ItOk c (Itl c.K a) F ds := fun F' M' s dj i => by
  have q : SqL c.K (HH F' M') a vs := SqL.of (dj.f (s _ _ h))
  refine ⟨fun d hd => ?_, fun e => ⟨vs, q, by rw [r.length]; omega⟩⟩
  obtain ⟨v, hv, rv⟩ := r.get hd
  refine ⟨⟨vs, v, q, hv⟩, fun x H3 hy => ?_⟩
  obtain ⟨rfl, hy⟩ := hy
  have e : x = v := Option.some.inj ((hy vs q).symm.trans hv)
  subst e
  exact ⟨F', rfl, Same.refl _, dj, rv.up s⟩
theorem di_list {e : Expr} {te : TE} {w : WE} (h : DE X e te w) : DI X tg e (iList X.K te) (wItL w) := ⟨pi_list h.pe, fun {b ρ σ F M M0} R Qd Q hw k => by
  refine h.sn R _ _ hw fun d ρ1 v F1 M1 M01 q A r => ?_
  cases d with
  | lst ds =>
    simp only [Dr] at r
    obtain ⟨a, vs, rfl, ha, rl⟩ := r
    exact ⟨a, rfl, ⟨vs, SqL.of (A.rel.dj.f ha)⟩, k ds ρ1 _ F1 M1 M01 q A (itl_ok (c := cy X) ha rl)⟩
  | _ => exact q.elim⟩
/-- over a tuple -/
def wItT (w : WE) : WA := fun ρ Q => w ρ fun d ρ1 => match d with
  | .tup ds => Q ds ρ1
  | _ => False
theorem itt_ok {c : Cy} {F : Hp} {a : Addr} {vs : List V} {ds : List D} (h : F a = some (.tup vs)) (r : DrL c F vs ds) : ItOk c (Itt c.K a) F ds := fun F' M' s dj i => by
  have q : SqT c.K (HH F' M') a vs := SqT.of (dj.f (s _ _ h))
  refine ⟨fun d hd => ?_, fun e => ⟨vs, q, by rw [r.length]; omega⟩⟩
  obtain ⟨v, hv, rv⟩ := r.get hd
  refine ⟨⟨vs, v, q, hv⟩, fun x H3 hy => ?_⟩
  obtain ⟨rfl, hy⟩ := hy
  have e : x = v := Option.some.inj ((hy vs q).symm.trans hv)
  subst e
  exact ⟨F', rfl, Same.refl _, dj, rv.up s⟩
theorem di_tup {e : Expr} {te : TE} {w : WE} (h : DE X e te w) : DI X tg e (iTup X.K te) (wItT w) := ⟨pi_tup h.pe, fun {b ρ σ F M M0} R Qd Q hw k => by
  refine h.sn R _ _ hw fun d ρ1 v F1 M1 M01 q A r => ?_
  cases d with
  | tup ds =>
    simp only [Dr] at r
    obtain ⟨a, vs, rfl, ha, rl⟩ := r
    exact ⟨a, rfl, ⟨vs, SqT.of (A.rel.dj.f ha)⟩, k ds ρ1 _ F1 M1 M01 q A (itt_ok (c := cy X) ha rl)⟩
  | _ => exact q.elim⟩
/-- over a range -/
def rangeD (lo hi : Int) : List D := (List.range (hi - lo).toNat).map fun i => D.int (lo + (i : Nat))
theorem itr_ok {c : Cy} {F : Hp} (lo : Int) (n : Nat) : ItOk c (Itr lo n) F ((List.range n).map fun i => D.int (lo + (i : Nat))) := fun F' M' s dj i => by
  refine ⟨fun d hd => ?_, fun e => ?_⟩
  · rw [List.getElem?_map] at hd
    have hi : i < n := by
      rcases Nat.lt_or_ge i n with z | z
      · exact z
      · rw [List.getElem?_eq_none (by simpa using z)] at hd; cases hd
    rw [List.getElem?_range hi] at hd
    have e : D.int (lo + (i : Nat)) = d := Option.some.inj hd
    subst e
    refine ⟨hi, fun x H3 hy => ?_⟩
    obtain ⟨rfl, rfl⟩ := hy
    exact ⟨F', rfl, Same.refl _, dj, by simp only [Dr]⟩
  · simp at e
    show n ≤ i
    omega
def wRg1 (wt : WA) : WA := fun ρ Q => wt ρ fun ds ρ1 => match ds with
  | [.int j] => (-(2 ^ 62) ≤ j ∧ j < 2 ^ 62) ∧ Q (rangeD 0 j) ρ1
  | _ => False
def wRg2 (wt : WA) : WA := fun ρ Q => wt ρ fun ds ρ1 => match ds with
  | [.int i, .int j] => (-(2 ^ 62) ≤ i ∧ i < 2 ^ 62 ∧ -(2 ^ 62) ≤ j ∧ j < 2 ^ 62) ∧ Q (rangeD i j) ρ1
  | _ => False
theorem di_range1 {a : Expr} {ta : TA} {wt : WA} {p pos : Pos} (hg : Gl X "range") (hm : X.mg "range" = none) (ha : DA X [a] ta wt) (hs : starEach [a] X.env = [(false, eval a X.env)] := by rfl) : DI X tg (.Call (.Name "range" p) [a] [] pos) (iRng1 ta) (wRg1 wt) :=
  ⟨pi_range1 hg hm ha.pe hs, fun {b ρ σ F M M0} R Qd Q hw k => by
    refine ha.sn R _ _ hw fun ds ρ1 vs F1 M1 M01 q A r => ?_
    match ds, q, r with
    | [.int j], ⟨⟨q1, q2⟩, q⟩, r =>
      obtain ⟨v, vr, rfl, r1, r2⟩ := r.cons_iff
      simp only [Dr] at r1
      have e2 := r2.nil_iff
      subst r1 e2
      refine ⟨j, rfl, q1, q2, k _ ρ1 _ F1 M1 M01 q A ?_⟩
      have h := itr_ok (c := cy X) (F := F1) 0 j.toNat
      unfold rangeD
      rw [Int.sub_zero]
      exact h⟩
theorem di_range2 {a a' : Expr} {ta : TA} {wt : WA} {p pos : Pos} (hg : Gl X "range") (hm : X.mg "range" = none) (ha : DA X [a, a'] ta wt) (hs : starEach [a, a'] X.env = [(false, eval a X.env), (false, eval a' X.env)] := by rfl) (hs2 : starEach [a'] X.env = [(false, eval a' X.env)] := by rfl) :
    DI X tg (.Call (.Name "range" p) [a, a'] [] pos) (iRng2 ta) (wRg2 wt) :=
  ⟨pi_range2 hg hm ha.pe hs hs2, fun {b ρ σ F M M0} R Qd Q hw k => by
    refine ha.sn R _ _ hw fun ds ρ1 vs F1 M1 M01 q A r => ?_
    match ds, q, r with
    | [.int i, .int j], ⟨q0, q⟩, r =>
      obtain ⟨v, vr, rfl, r1, r2⟩ := r.cons_iff
      obtain ⟨v', vr', rfl, r1', r2'⟩ := r2.cons_iff
      simp only [Dr] at r1 r1'
      have e2 := r2'.nil_iff
      subst r1 r1' e2
      exact ⟨i, j, rfl, q0, k _ ρ1 _ F1 M1 M01 q A (itr_ok (c := cy X) (F := F1) i (j - i).toNat)⟩⟩
/-- while: the invariant over the slots' data and a measure -/
def wWhile (wc : WT) (wb : WS) : WS := fun ρ E => ∃ W : Nat → List Sl → Prop, (∃ m, W m ρ) ∧ ∀ m ρ, W m ρ → wc ρ fun k ρ1 => match k with
  | true => wb ρ1 { E with nx := fun ρ2 => ∃ m', m' < m ∧ W m' ρ2, ct := fun ρ2 => ∃ m', m' < m ∧ W m' ρ2, bk := E.nx }
  | false => E.nx ρ1
theorem ds_while {c : Expr} {tc : TT} {wc : WT} (hp : PassesOwn (model X.prog X.w) X.A X.env X.xe) (hc : DT X c tc wc) (hb : DSs X body tb wb) : DS X (.While c body [] pos) (tWhile tc tb) (wWhile wc wb) := ⟨ps_while hp hc.pe hb.ps, fun {b ρ σ F M M0} R E Dn hw f => by
  obtain ⟨W, ⟨m0, w0⟩, turn⟩ := hw
  refine ⟨fun m σ' H' => ∃ ρ' F' M' M0', H' = HH F' M' ∧ Same F F' ∧ Rel (cy X) b ρ' σ' F' M' M0' ∧ MR b M0 M0' ∧ W m ρ', ⟨m0, ρ, F, M, M0, rfl, Same.refl _, R, MR.refl _ _, w0⟩, ?_⟩
  rintro m σ' H' ⟨ρ', F', M', M0', rfl, s, R', mr, wm⟩
  refine hc.sn R' _ _ (turn m ρ' wm) fun k ρ1 F1 M1 M01 q A => ?_
  cases k with
  | true =>
    rw [if_pos rfl]
    refine ⟨fun σ2 H2 => ∃ m', m' < m ∧ ∃ ρ' F' M' M0', H2 = HH F' M' ∧ Same F F' ∧ Rel (cy X) b ρ' σ2 F' M' M0' ∧ MR b M0 M0' ∧ W m' ρ', fun σ2 H2 ⟨m', l, h⟩ => ⟨m', l, h⟩, ?_⟩
    have sA := s.trans A.same
    have mA := mr.trans A.mr
    refine hb.sn A.rel _ { Dn with nx := _, ct := _, bk := Dn.nx } q ⟨fun ρ5 σ5 F5 M5 M05 ⟨m', l, e5⟩ s5 R5 m5 => ⟨m', l, ρ5, F5, M5, M05, rfl, sA.trans s5, R5, mA.trans m5, e5⟩,
      fun ρ5 σ5 F5 M5 M05 e5 s5 R5 m5 => f.nx ρ5 σ5 F5 M5 M05 e5 (sA.trans s5) R5 (mA.trans m5),
      fun ρ5 σ5 F5 M5 M05 ⟨m', l, e5⟩ s5 R5 m5 => ⟨m', l, ρ5, F5, M5, M05, rfl, sA.trans s5, R5, mA.trans m5, e5⟩,
      fun d v F5 M05 e5 s5 dj5 bx5 m5 r5 => f.rt d v F5 M05 e5 (sA.trans s5) dj5 bx5 (mA.trans m5) r5⟩
  | false =>
    rw [if_neg Bool.false_ne_true]
    exact f.nx ρ1 σ' F1 M1 M01 q (s.trans A.same) A.rel (mr.trans A.mr)⟩
end
end DL

/-! Comprehensions, defs, calls, instances. -/
namespace DL
open PySem PySem.Spec PyProof.Rows L2

/-! ### blocks of comprehensions -/
def wipeD (ρ : List Sl) : List Nat → List Sl
  | [] => ρ
  | v :: vs => (wipeD ρ vs).set v .no
def noOwnB (ρ : List Sl) (vs : List Nat) : Bool := vs.all fun i => match ρ[i]? with
  | some (.ol _) => false
  | some (.ok _ _) => false
  | some (.ot _ _) => false
  | some (.oi _ _ _) => false
  | _ => true
theorem noOwn_of {ρ : List Sl} {vs : List Nat} (h : noOwnB ρ vs = true) : ∀ i ∈ vs, ∀ sl, ρ[i]? = some sl → ¬ isOwn sl := fun i hi sl e ho => by
  have q := List.all_eq_true.mp h i hi
  rw [e] at q
  cases sl <;> first | exact ho.elim | cases q
section
variable {c : Cy} {b : Option Addr} {F M M0 : Hp}
theorem wipeD_get {ρ : List Sl} {i : Nat} {sl : Sl} : ∀ {vs : List Nat}, (wipeD ρ vs)[i]? = some sl → sl = .no ∨ ρ[i]? = some sl
  | [], h => .inr h
  | v :: vs, h => by
    unfold wipeD at h
    by_cases e : v = i
    · subst e
      by_cases hl : v < (wipeD ρ vs).length
      · rw [List.getElem?_set_self hl] at h; exact .inl (Option.some.inj h).symm
      · rw [List.getElem?_eq_none (by simpa using hl)] at h; cases h
    · rw [List.getElem?_set_ne e] at h; exact wipeD_get h
theorem RelE.wipe {ρ : List Sl} {σ : L2.St} {M : Hp} (h : RelE c b F M0 ρ σ M) : ∀ {vs : List Nat}, (∀ i ∈ vs, ∀ sl, ρ[i]? = some sl → ¬ isOwn sl) → RelE c b F M0 (wipeD ρ vs) (wipe σ vs) M
  | [], _ => h
  | v :: vs, n => by
    have ih := RelE.wipe h (vs := vs) fun i hi => n i (List.mem_cons_of_mem _ hi)
    unfold wipeD L2.wipe
    cases e : (wipeD ρ vs)[v]? with
    | none =>
      have l1 := List.getElem?_eq_none_iff.mp e
      rw [List.set_eq_of_length_le l1, List.set_eq_of_length_le (by rw [ih.length]; exact l1)]
      exact ih
    | some sl =>
      refine ih.forget e ?_
      rcases wipeD_get e with z | z
      · rw [z]; exact fun q => q
      · exact n v List.mem_cons_self sl z
theorem RelE.unwipe : ∀ {vs : List Nat} {ρ : List Sl} {σ : L2.St} {M : Hp}, RelE c b F M0 ρ (L2.wipe σ vs) M → (∀ i ∈ vs, ∀ sl, ρ[i]? = some sl → ¬ isOwn sl) → ∃ ρ', ρ' = wipeD ρ vs.reverse ∧ RelE c b F M0 ρ' σ M
  | [], ρ, σ, M, h, _ => ⟨ρ, rfl, h⟩
  | v :: vs, ρ, σ, M, h, n => by
    unfold L2.wipe at h
    have h2 : RelE c b F M0 (ρ.set v .no) (L2.wipe σ vs) M := by
      cases e : ρ[v]? with
      | none =>
        have l1 := List.getElem?_eq_none_iff.mp e
        have l2 := h.length
        rw [List.length_set] at l2
        rw [List.set_eq_of_length_le l1]
        rw [List.set_eq_of_length_le (by omega)] at h
        exact h
      | some sl =>
        have t := h.forget (x := (L2.wipe σ vs)[v]?.getD none) e (n v List.mem_cons_self sl e)
        rw [List.set_set] at t
        have es : (L2.wipe σ vs).set v ((L2.wipe σ vs)[v]?.getD none) = L2.wipe σ vs := by
          cases q : (L2.wipe σ vs)[v]? with
          | none => exact List.set_eq_of_length_le (List.getElem?_eq_none_iff.mp q)
          | some x =>
            obtain ⟨hi, ei⟩ := List.getElem?_eq_some_iff.mp q
            show (L2.wipe σ vs).set v x = _
            rw [← ei]; exact List.set_getElem_self hi
        rw [es] at t
        exact t
    obtain ⟨ρ', e, t⟩ := RelE.unwipe h2 fun i hi sl q => by
      by_cases z : v = i
      · subst z
        by_cases hl : v < ρ.length
        · rw [List.getElem?_set_self hl] at q
          rw [← Option.some.inj q]; exact fun w => w
        · rw [List.getElem?_eq_none (by simpa using hl)] at q; cases q
      · rw [List.getElem?_set_ne z] at q
        exact n i (List.mem_cons_of_mem _ hi) sl q
    refine ⟨ρ', ?_, t⟩
    rw [e, List.reverse_cons]
    have ap : ∀ (us : List Nat) (τ : List Sl), wipeD (τ.set v .no) us = wipeD τ (us ++ [v]) := fun us τ => by
      induction us with
      | nil => rfl
      | cons u us ih => show (wipeD (τ.set v .no) us).set u .no = (wipeD τ (us ++ [v])).set u .no; rw [ih]
    exact ap _ _
def del (H : Hp) (x : Addr) : Hp := fun a => if a = x then none else H a
theorem del_same {H : Hp} {x : Addr} : del H x x = none := if_pos rfl
theorem del_ne {H : Hp} {x a : Addr} (h : a ≠ x) : del H x a = H a := if_neg h
theorem upd_del {H : Hp} {x : Addr} {o : HO} : upd (del H x) x o = upd H x o := by
  funext a
  by_cases e : a = x
  · subst e; rw [upd_same, upd_same]
  · rw [upd_ne e, upd_ne e, del_ne e]
theorem upd_self {H : Hp} {x : Addr} {o : HO} (h : H x = some o) : upd H x o = H := by
  funext a
  by_cases e : a = x
  · subst e; rw [upd_same, h]
  · rw [upd_ne e]
/-- a thing of the frame is taken away -/
theorem RelE.unframe {x : Addr} {u : HO} (hx : M0 x = some u) : ∀ {ρ : List Sl} {σ : L2.St} {M : Hp}, RelE c b F M0 ρ σ M → RelE c b F (del M0 x) ρ σ (del M x)
  | [], σ, M, h => ⟨h.1, by rw [h.2]⟩
  | s1 :: ρ, σ, M, h => by
    obtain ⟨v, σr, e, h⟩ := h
    refine ⟨v, σr, e, ?_⟩
    have own : ∀ sl : Sl, (∃ a o M', v = some (.ref a) ∧ ObR c F sl o ∧ F a = none ∧ M' a = none ∧ M = upd M' a o ∧ RelE c b F M0 ρ σr M') →
        ∃ a o M', v = some (.ref a) ∧ ObR c F sl o ∧ F a = none ∧ M' a = none ∧ del M x = upd M' a o ∧ RelE c b F (del M0 x) ρ σr M' := fun sl h => by
      obtain ⟨a, o, M', e1, r, f, m, e2, t⟩ := h
      have ne : a ≠ x := fun z => by
        subst z
        have := t.sub _ _ hx
        rw [m] at this; cases this
      refine ⟨a, o, del M' x, e1, r, f, by rw [del_ne ne]; exact m, ?_, RelE.unframe hx t⟩
      rw [e2]
      funext y
      by_cases ey : y = x
      · subst ey; rw [del_same, upd_ne ne.symm, del_same]
      · rw [del_ne ey]
        by_cases ea : y = a
        · subst ea; rw [upd_same, upd_same]
        · rw [upd_ne ea, upd_ne ea, del_ne ey]
    cases s1 with
    | no => exact RelE.unframe hx h
    | sh d => exact ⟨h.1, RelE.unframe hx h.2⟩
    | bx => exact ⟨h.1, RelE.unframe hx h.2⟩
    | ol ds => exact own (.ol ds) h
    | ok ks ds => exact own (.ok ks ds) h
    | ot ks ds => exact own (.ot ks ds) h
    | oi n fs ds => exact own (.oi n fs ds) h
/-- a new thing p lies in the frame for a while -/
theorem Rel.lay {ρ : List Sl} {σ : L2.St} {p : Addr} {o : HO} (R : Rel c b ρ σ F M M0) (f : F p = none) (m : M p = none) : Rel c b ρ σ F (upd M p o) (upd M0 p o) := by
  have m0 : M0 p = none := by
    cases q : M0 p with
    | none => rfl
    | some u => rw [R.env.sub _ _ q] at m; cases m
  refine ⟨R.dj.updM f, R.env.frame (.inl m), fun a q => ?_⟩
  obtain ⟨da, ns, n, h1, h2, h3⟩ := R.box a q
  exact ⟨da, ns, n, by rw [upd_ne (ne_of_none h1 m0)]; exact h1, h2, h3⟩
theorem Rel.unlay {ρ : List Sl} {σ : L2.St} {p : Addr} {o : HO} (R : Rel c b ρ σ F M M0) (h : M0 p = some o) (nb : b ≠ some p) : Rel c b ρ σ F (del M p) (del M0 p) := by
  refine ⟨fun a u q => R.dj a u ?_, R.env.unframe h, fun a q => ?_⟩
  · by_cases e : a = p
    · subst e; rw [del_same] at q; cases q
    · rw [del_ne e] at q; exact q
  · obtain ⟨da, ns, n, h1, h2, h3⟩ := R.box a q
    have e : a ≠ p := fun e => nb (by rw [← e]; exact q)
    exact ⟨da, ns, n, by rw [del_ne e]; exact h1, h2, h3⟩
end

theorem wipe_idem (τ : L2.St) : ∀ us : List Nat, L2.wipe (L2.wipe τ us) us = L2.wipe τ us
  | [] => rfl
  | u :: us => by
    show (L2.wipe ((L2.wipe τ us).set u none) us).set u none = (L2.wipe τ us).set u none
    by_cases hu : u ∈ us
    · rw [wipe_in hu, wipe_idem τ us]
    · rw [wipe_out hu, wipe_idem τ us, List.set_set]
def wLcL (vs : List Nat) (wg : WG) (wt : WT) (we : WE) : List D → List Sl → List D → (List D → List Sl → Prop) → Prop
  | [], ρ, acc, Q => Q acc ρ
  | d :: ds, ρ, acc, Q => wg d ρ fun ρ1 => wt ρ1 fun k ρ2 => match k with
    | true => we ρ2 fun y ρ3 => noOwnB ρ3 vs = true ∧ wLcL vs wg wt we ds (wipeD ρ3 vs) (acc ++ [y]) Q
    | false => noOwnB ρ2 vs = true ∧ wLcL vs wg wt we ds (wipeD ρ2 vs) acc Q
def wLc (vs : List Nat) (wi : WA) (wg : WG) (wt : WT) (we : WE) : List Sl → (Sl → List Sl → Prop) → Prop := fun ρ Q => wi ρ fun ds ρ1 => ds.length ≤ sizeLine ∧ noOwnB ρ1 vs = true ∧
  wLcL vs wg wt we ds (wipeD ρ1 vs) [] fun acc ρ2 => noOwnB ρ2 vs = true ∧ Q (.ol acc) (wipeD ρ2 vs.reverse)
def wYes : WT := fun ρ Q => Q true ρ
theorem snt_yes {c : Cy} : Snt c tYes wYes := fun {b ρ σ F M M0} R Qd Q hw k => k true ρ F M M0 hw R.aft
theorem snf_lc {c : Cy} {vs : List Nat} {wi : TI} {g : TG} {tt : TT} {te : TE} {w : WA} {wg : WG} {wt : WT} {we : WE} {is : List Nat} (his : ∀ i ∈ is, i ∈ vs) (hi : Sni c wi w) (hg : Sng c g wg is) (ht : Snt c tt wt) (he : Snd c te we) : Snf c (tLc wi g tt te vs) (wLc vs w wg wt we) := fun {b ρ σ F M M0} R Qd Q hw k => by
  refine hi R _ _ hw fun ds ρ1 J F1 M1 M01 q A it => ?_
  obtain ⟨hlen, hno, q⟩ := q
  intro p hp
  obtain ⟨hpf, hpm⟩ := hh_none hp
  have nbp : b ≠ some p := fun e => by
    obtain ⟨_, _, _, h1, _⟩ := A.rel.box p e
    rw [A.rel.env.sub _ _ h1] at hpm; cases hpm
  refine ⟨fun i m H' => m = ds.length - i ∧ i ≤ ds.length ∧ ∃ (ρ' : List Sl) (F' M' M0' : Hp) (acc : List D) (us : List V), H' = HH F' (upd M' p (.lst us)) ∧ F' p = none ∧ M' p = none ∧ Same F1 F' ∧ Ext b (HH F1 M1) (HH F' M') ∧
      Rel c b ρ' (L2.wipe σ vs) F' M' M0' ∧ MR b M01 M0' ∧ DrL c F' us acc ∧ acc.length ≤ i ∧ wLcL vs wg wt we (ds.drop i) ρ' acc fun acc ρ2 => noOwnB ρ2 vs = true ∧ Qd (.ol acc) (wipeD ρ2 vs.reverse), ⟨ds.length, by simp, Nat.zero_le _, wipeD ρ1 vs, F1, M1, M01, [], [], hh_updM, hpf, hpm, Same.refl _, Ext.refl _ _,
      ⟨A.rel.dj, A.rel.env.wipe (noOwn_of hno), A.rel.box⟩, MR.refl _ _, .nil, Nat.zero_le _, q⟩, ?_⟩
  rintro i m H' ⟨rfl, hil, ρ', F', M', M0', acc, us, rfl, fp, mp, s, x, R', mr, dr, hal, hw'⟩
  by_cases hlt : i < ds.length
  · have ed : ds.drop i = ds[i] :: ds.drop (i + 1) := List.drop_eq_getElem_cons hlt
    rw [ed] at hw'
    have hd : ds[i]? = some ds[i] := List.getElem?_eq_getElem hlt
    have L := R'.lay (o := .lst us) fp mp
    refine .inr ⟨((it F' _ s L.dj i).1 _ hd).1, fun H2 => i + 1 ≤ ds.length ∧ ∃ (ρ' : List Sl) (F' M' M0' : Hp) (acc : List D) (us : List V), H2 = HH F' (upd M' p (.lst us)) ∧ F' p = none ∧ M' p = none ∧ Same F1 F' ∧ Ext b (HH F1 M1) (HH F' M') ∧
      Rel c b ρ' (L2.wipe σ vs) F' M' M0' ∧ MR b M01 M0' ∧ DrL c F' us acc ∧ acc.length ≤ i + 1 ∧ wLcL vs wg wt we (ds.drop (i + 1)) ρ' acc fun acc ρ2 => noOwnB ρ2 vs = true ∧ Qd (.ol acc) (wipeD ρ2 vs.reverse), fun H2 n2 => ⟨ds.length - (i + 1), by omega, rfl, n2.1, n2.2⟩, fun y H3 hy => ?_⟩
    obtain ⟨F3, rfl, s3, dj3, r3⟩ := ((it F' _ s L.dj i).1 _ hd).2 y H3 hy
    have A3 := L.grow s3 dj3
    -- what is to be shown of any later state
    have back : ∀ {F4 M4 M04 : Hp} {ρ4 : List Sl}, Same F' F4 → Ext b (HH F' (upd M' p (.lst us))) (HH F4 M4) → Rel c b ρ4 (L2.wipe σ vs) F4 M4 M04 → MR b (upd M0' p (.lst us)) M04 →
        M4 p = some (.lst us) ∧ F4 p = none ∧ Same F1 F4 ∧ Ext b (HH F1 M1) (HH F4 (del M4 p)) ∧ Rel c b ρ4 (L2.wipe σ vs) F4 (del M4 p) (del M04 p) ∧ MR b M01 (del M04 p) := fun {F4 M4 M04 ρ4} s4 x4 R4 m4 => by
      have e0 : M04 p = some (.lst us) := by rw [m4 p nbp, upd_same]
      have e1 := R4.env.sub _ _ e0
      have e2 := R4.dj _ _ e1
      refine ⟨e1, e2, s.trans s4, fun a o na qa => ?_, R4.unlay e0 nbp, fun a na => ?_⟩
      · have nap : a ≠ p := fun z => by rw [z, hp] at qa; cases qa
        have q1 : HH F' (upd M' p (.lst us)) a = some o := by rw [← hh_updM, upd_ne nap]; exact x a o na qa
        have q2 := x4 a o na q1
        rcases hh_some q2 with z | ⟨z1, z2⟩
        · exact hh_m (by rw [del_ne nap]; exact z)
        · rw [hh_n (by rw [del_ne nap]; exact z1)]; exact z2
      · by_cases e : a = p
        · subst e
          rw [del_same]
          cases z : M01 a with
          | none => rfl
          | some u => rw [A.rel.env.sub _ _ z] at hpm; cases hpm
        · rw [del_ne e, m4 a na, upd_ne e, mr a na]
    refine hg A3.rel r3 _ _ hw' fun ρ4 σ4 F4 M4 M04 q4 s4 x4 R4 m4 wz => ⟨(wz vs his).trans (wipe_idem σ vs), ?_⟩
    refine ht R4 _ _ q4 fun kk ρ5 F5 M5 M05 q5 A5 => ?_
    have sA := (s3.trans s4).trans A5.same
    have xA := (A3.ext.trans x4).trans A5.ext
    have mA := m4.trans A5.mr
    -- the slots of the block are forgotten
    have wr : ∀ {F6 M6 M06 : Hp} {ρ6 : List Sl}, Rel c b ρ6 σ4 F6 M6 M06 → noOwnB ρ6 vs = true → Rel c b (wipeD ρ6 vs) (L2.wipe σ vs) F6 M6 M06 := fun {F6 M6 M06 ρ6} R6 n6 => by
      have t := R6.env.wipe (noOwn_of n6)
      have e : L2.wipe σ4 vs = L2.wipe σ vs := by
        exact (wz vs his).trans (wipe_idem σ vs)
      rw [e] at t
      exact ⟨R6.dj, t, R6.box⟩
    cases kk with
    | true =>
      rw [if_pos rfl]
      refine he A5.rel _ _ q5 fun d ρ6 z F6 M6 M06 q6 A6 r6 => ?_
      obtain ⟨e1, e2, b3, b4, b5, b6⟩ := back (sA.trans A6.same) (xA.trans A6.ext) (wr A6.rel q6.1) (mA.trans A6.mr)
      refine ⟨us, hh_m e1, ?_, hlt, wipeD ρ6 vs, F6, del M6 p, del M06 p, acc ++ [d], us ++ [z], ?_, e2, del_same, b3, b4, b5, b6, (dr.up (sA.trans A6.same)).append (.cons r6 .nil), ?_, q6.2⟩
      · rw [dr.length]; omega
      · rw [hh_updM, upd_del]
      · rw [List.length_append, List.length_singleton]; omega
    | false =>
      rw [if_neg Bool.false_ne_true]
      obtain ⟨e1, e2, b3, b4, b5, b6⟩ := back sA xA (wr A5.rel q5.1) mA
      refine ⟨hlt, wipeD ρ5 vs, F5, del M5 p, del M05 p, acc, us, ?_, e2, del_same, b3, b4, b5, b6, dr.up sA, by omega, q5.2⟩
      rw [upd_del, upd_self e1]
  · have e : i = ds.length := by omega
    subst e
    rw [List.drop_length] at hw'
    refine .inl ⟨(it F' _ s (R'.dj.updM fp) _).2 rfl, ?_⟩
    obtain ⟨hn2, hq⟩ := hw'
    obtain ⟨ρ2, e2, t2⟩ := R'.env.unwipe (noOwn_of hn2)
    subst e2
    exact k _ _ p _ F' M' M0' hq ⟨A.same.trans s, A.ext.trans x, ⟨R'.dj, t2, R'.box⟩, A.mr.trans mr⟩ trivial ⟨us, rfl, dr⟩ fp mp
structure DTs (X : Cx) (ifs : List Expr) (t : TT) (w : WT) : Prop where
  pe : PTs X ifs t
  sn : Snt (cy X) t w
section
variable {X : Cx}
theorem dts_nil : DTs X [] tYes wYes := ⟨pts_nil, snt_yes⟩
theorem dts_one {e : Expr} {t : TT} {w : WT} (h : DT X e t w) : DTs X [e] t w := ⟨pts_one h.pe, h.sn⟩
theorem df_lc {elt tg iter : Expr} {ifs : List Expr} {scope : Scope} {own : List (Str × Nat)} {pos : Pos} {wi : TI} {g : TG} {tt : TT} {te : TE} {w : WA} {wg : WG} {wt : WT} {we : WE} {is : List Nat} (hc : X.calm = true) (hN : X.N.Nodup) (hi : DI X tg iter wi w) (ok : BlkOk X.N X.env.scope scope own)
    (hg0 : DG (X.blk {} (fun _ => none) scope (compEnvC scope [] 0 X.env) []) tg g wg is) (ht0 : DTs (X.blk {} (fun _ => none) scope (compEnvC scope [] 0 X.env) []) ifs tt wt) (he0 : DE (X.blk {} (fun _ => none) scope (compEnvC scope [] 0 X.env) []) elt te we)
    (hg : ∀ (s : Shared) (H : Hp) (C : Addr) (cl : List (Str × Addr)) (fp : List Addr), DG (X.blk s H scope (compEnvC scope cl C X.env) fp) tg g wg is) (ht : ∀ (s : Shared) (H : Hp) (C : Addr) (cl : List (Str × Addr)) (fp : List Addr), DTs (X.blk s H scope (compEnvC scope cl C X.env) fp) ifs tt wt)
    (he : ∀ (s : Shared) (H : Hp) (C : Addr) (cl : List (Str × Addr)) (fp : List Addr), DE (X.blk s H scope (compEnvC scope cl C X.env) fp) elt te we) (his : ∀ i ∈ is, i ∈ own.map (·.2) := by decide) (hs : ∀ x, foldedSetIterable iter X.env x = pure x := by intro _; rfl) :
    DF X (.ListComp elt [⟨tg, iter, ifs, 0⟩] scope pos) (tLc wi g tt te (own.map (·.2))) (wLc (own.map (·.2)) w wg wt we) :=
  ⟨pe_lc hc hN hi.pi ok (fun s H C cl fp => (hg s H C cl fp).pg) (fun s H C cl fp => (ht s H C cl fp).pe) (fun s H C cl fp => (he s H C cl fp).pe) hs,
    snf_lc (c := cy X) his hi.sn hg0.sn ht0.sn he0.sn⟩
/-- name = [..], a local: the new list stays own, or is shared -/
theorem ds_setLcO {i : Nat} {y : Str} {py : Pos} {elt tg iter : Expr} {ifs : List Expr} {scope : Scope} {own : List (Str × Nat)} {pos spos : Pos} {wi : TI} {g : TG} {tt : TT} {te : TE} {w : WA} {wg : WG} {wt : WT} {we : WE} {is : List Nat} (hc : X.calm = true) (hN : X.N.Nodup) (hy : X.N[i]? = some y) (hyl : X.env.scope.names.lookup y = some .local)
    (hsw : swapsWith (.ListComp elt [⟨tg, iter, ifs, 0⟩] scope pos) (some (.Name y py)) spos.line X.env = pure true) (hi : DI X tg iter wi w) (ok : BlkOk X.N X.env.scope scope own)
    (hg0 : DG (X.blk {} (fun _ => none) scope (compEnvC scope [] 0 X.env) []) tg g wg is) (ht0 : DTs (X.blk {} (fun _ => none) scope (compEnvC scope [] 0 X.env) []) ifs tt wt) (he0 : DE (X.blk {} (fun _ => none) scope (compEnvC scope [] 0 X.env) []) elt te we)
    (hg : ∀ (s : Shared) (H : Hp) (C : Addr) (cl : List (Str × Addr)) (fp : List Addr), DG (X.blk s H scope (compEnvC scope cl C X.env) fp) tg g wg is) (ht : ∀ (s : Shared) (H : Hp) (C : Addr) (cl : List (Str × Addr)) (fp : List Addr), DTs (X.blk s H scope (compEnvC scope cl C X.env) fp) ifs tt wt)
    (he : ∀ (s : Shared) (H : Hp) (C : Addr) (cl : List (Str × Addr)) (fp : List Addr), DE (X.blk s H scope (compEnvC scope cl C X.env) fp) elt te we) (his : ∀ i ∈ is, i ∈ own.map (·.2) := by decide) (hs : ∀ x, foldedSetIterable iter X.env x = pure x := by intro _; rfl) :
    DS X (.Assign [.Name y py] (.ListComp elt [⟨tg, iter, ifs, 0⟩] scope pos) spos) (tAsg (tLc wi g tt te (own.map (·.2))) (gName i)) (wAsgO (wLc (own.map (·.2)) w wg wt we) i) :=
  ⟨ps_setLc hc hN hy hyl hsw hi.pi ok (fun s H C cl fp => (hg s H C cl fp).pg) (fun s H C cl fp => (ht s H C cl fp).pe) (fun s H C cl fp => (he s H C cl fp).pe) hs,
    sns_asgO (snf_lc (c := cy X) his hi.sn hg0.sn ht0.sn he0.sn)⟩
theorem ds_setLc {i : Nat} {y : Str} {py : Pos} {elt tg iter : Expr} {ifs : List Expr} {scope : Scope} {own : List (Str × Nat)} {pos spos : Pos} {wi : TI} {g : TG} {tt : TT} {te : TE} {w : WA} {wg : WG} {wt : WT} {we : WE} {is : List Nat} (hc : X.calm = true) (hN : X.N.Nodup) (hy : X.N[i]? = some y) (hyl : X.env.scope.names.lookup y = some .local)
    (hsw : swapsWith (.ListComp elt [⟨tg, iter, ifs, 0⟩] scope pos) (some (.Name y py)) spos.line X.env = pure true) (hi : DI X tg iter wi w) (ok : BlkOk X.N X.env.scope scope own)
    (hg0 : DG (X.blk {} (fun _ => none) scope (compEnvC scope [] 0 X.env) []) tg g wg is) (ht0 : DTs (X.blk {} (fun _ => none) scope (compEnvC scope [] 0 X.env) []) ifs tt wt) (he0 : DE (X.blk {} (fun _ => none) scope (compEnvC scope [] 0 X.env) []) elt te we)
    (hg : ∀ (s : Shared) (H : Hp) (C : Addr) (cl : List (Str × Addr)) (fp : List Addr), DG (X.blk s H scope (compEnvC scope cl C X.env) fp) tg g wg is) (ht : ∀ (s : Shared) (H : Hp) (C : Addr) (cl : List (Str × Addr)) (fp : List Addr), DTs (X.blk s H scope (compEnvC scope cl C X.env) fp) ifs tt wt)
    (he : ∀ (s : Shared) (H : Hp) (C : Addr) (cl : List (Str × Addr)) (fp : List Addr), DE (X.blk s H scope (compEnvC scope cl C X.env) fp) elt te we) (his : ∀ i ∈ is, i ∈ own.map (·.2) := by decide) (hs : ∀ x, foldedSetIterable iter X.env x = pure x := by intro _; rfl) :
    DS X (.Assign [.Name y py] (.ListComp elt [⟨tg, iter, ifs, 0⟩] scope pos) spos) (tAsg (tLc wi g tt te (own.map (·.2))) (gName i)) (wAsg (wFz (wLc (own.map (·.2)) w wg wt we)) (wSt i)) :=
  ⟨ps_setLc hc hN hy hyl hsw hi.pi ok (fun s H C cl fp => (hg s H C cl fp).pg) (fun s H C cl fp => (ht s H C cl fp).pe) (fun s H C cl fp => (he s H C cl fp).pe) hs,
    sns_asg (df_lc (pos := pos) hc hN hi ok hg0 ht0 he0 hg ht he his hs).de.sn (sng_name i)⟩
end

/-! ### defs -/
def ArgsD (c : Cy) (b : Option Addr) (F : Hp) : List Sl → List V → Prop
  | [], vs => vs = []
  | s :: r, vs => ∃ v vr, vs = v :: vr ∧ (match s with
    | .sh d => Dr c F v d
    | .bx => ∃ a, b = some a ∧ v = .ref a
    | _ => False) ∧ ArgsD c b F r vr
/-- a def's promise, of data alone -/
abbrev WFn := List Sl → (D → Prop) → Prop
def spF (c : Cy) (wf : WFn) : Sp := fun vs H Q _ => ∃ (b : Option Addr) (F M : Hp) (as : List Sl) (Qd : D → Prop), H = HH F M ∧ Dj F M ∧ (∀ a, b = some a → Box F M a) ∧ ArgsD c b F as vs ∧ wf as Qd ∧
  ∀ d v F' M', Qd d → Same F F' → Dj F' M' → (∀ a, b = some a → Box F' M' a) → MR b M M' → Dr c F' v d → Q v (HH F' M')
def startD (N : List Str) (as : List Sl) : List Sl := as ++ List.replicate (N.length - as.length) .no
section
variable {c : Cy} {b : Option Addr} {F M M0 : Hp}
theorem ArgsD.length : ∀ {as : List Sl} {vs : List V}, ArgsD c b F as vs → vs.length = as.length
  | [], vs, h => by rw [show vs = [] from h]; rfl
  | s :: r, vs, h => by
    obtain ⟨v, vr, rfl, _, t⟩ := h
    rw [List.length_cons, List.length_cons, ArgsD.length t]
theorem rel_nos : ∀ (n : Nat), RelE c b F M (List.replicate n .no) (List.replicate n none) M
  | 0 => ⟨rfl, rfl⟩
  | n + 1 => ⟨none, List.replicate n none, rfl, rel_nos n⟩
theorem ArgsD.rel {n : Nat} : ∀ {as : List Sl} {vs : List V}, ArgsD c b F as vs → RelE c b F M (as ++ List.replicate n .no) (vs.map some ++ List.replicate n none) M
  | [], vs, h => by rw [show vs = [] from h]; exact rel_nos n
  | s :: r, vs, h => by
    obtain ⟨v, vr, rfl, q, t⟩ := h
    refine ⟨some v, vr.map some ++ List.replicate n none, rfl, ?_⟩
    cases s with
    | sh d => exact ⟨⟨v, rfl, q⟩, ArgsD.rel t⟩
    | bx => obtain ⟨a, e1, e2⟩ := q; exact ⟨⟨a, e1, by rw [e2]⟩, ArgsD.rel t⟩
    | _ => exact q.elim
/-- behind a call -/
theorem Rel.after {ρ : List Sl} {σ : L2.St} {F' M' : Hp} (R : Rel c b ρ σ F M M0) (s : Same F F') (dj : Dj F' M') (bx : ∀ a, b = some a → Box F' M' a) (mr : MR b M M') : ∃ M0', Aft c b F M M0 ρ σ F' M' M0' := by
  have key : ∃ M0', RelE c b F M0' ρ σ M' ∧ MR b M0 M0' ∧ ∀ a, b = some a → M0' a = M' a := by
    cases b with
    | none =>
      have e : M' = M := funext fun a => mr a (fun z => nomatch z)
      rw [e]
      exact ⟨M0, R.env, MR.refl _ _, fun a z => nomatch z⟩
    | some a =>
      obtain ⟨da, ns, n, h1, h2, h3⟩ := bx a rfl
      obtain ⟨_, _, _, k1, _⟩ := R.box a rfl
      have e : M' = upd M a (.lst [.ref da, .int n]) := by
        funext x
        by_cases z : x = a
        · rw [z, upd_same, h1]
        · rw [upd_ne z]; exact mr x fun q => z (Option.some.inj q).symm
      refine ⟨upd M0 a (.lst [.ref da, .int n]), ?_, fun x q => upd_ne fun z => q (by rw [z]), fun x q => ?_⟩
      · rw [e]; exact R.env.frame (.inr (by rw [k1]; rfl))
      · rw [← Option.some.inj q, upd_same, h1]
  obtain ⟨M0', t, m, ha⟩ := key
  refine ⟨M0', s, fun a o na q => ?_, ⟨dj, t.leD (.of s) (fun a o q _ => dj a o (t.sub _ _ q)) (fun a o q _ => dj a o q), fun a q => ?_⟩, m⟩
  · rcases hh_some q with z | ⟨z1, z2⟩
    · exact hh_m (by rw [mr a na]; exact z)
    · rw [hh_n (by rw [mr a na]; exact z1)]; exact s _ _ z2
  · obtain ⟨da, ns, n, h1, h2, h3⟩ := bx a q
    exact ⟨da, ns, n, by rw [ha a q]; exact h1, h2, h3⟩
end
abbrev WAs := List Sl → (List Sl → List Sl → Prop) → Prop
def Snas (c : Cy) (ta : TA) (w : WAs) : Prop := ∀ {b : Option Addr} {ρ : List Sl} {σ : L2.St} {F M M0 : Hp}, Rel c b ρ σ F M M0 → ∀ (Qd : List Sl → List Sl → Prop) (Q : List V → Hp → Prop), w ρ Qd →
  (∀ as ρ' vs F' M' M0', Qd as ρ' → Aft c b F M M0 ρ' σ F' M' M0' → ArgsD c b F' as vs → Q vs (HH F' M')) → ta σ (HH F M) Q
structure DAs (X : Cx) (es : List Expr) (ta : TA) (w : WAs) : Prop where
  pe : PA X es ta
  sn : Snas (cy X) ta w
theorem ArgsD.up {c : Cy} {b : Option Addr} {F G : Hp} (s : Same F G) : ∀ {as : List Sl} {vs : List V}, ArgsD c b F as vs → ArgsD c b G as vs
  | [], vs, h => h
  | x :: r, vs, h => by
    obtain ⟨v, vr, rfl, q, t⟩ := h
    refine ⟨v, vr, rfl, ?_, ArgsD.up s t⟩
    cases x with
    | sh d => exact Dr.up s q
    | bx => exact q
    | _ => exact q.elim
def asNil : WAs := fun ρ Q => Q [] ρ
def asCons (w : WE) (wr : WAs) : WAs := fun ρ Q => w ρ fun d ρ1 => wr ρ1 fun as ρ2 => Q (.sh d :: as) ρ2
def asBox (i : Nat) (wr : WAs) : WAs := fun ρ Q => ρ[i]? = some .bx ∧ wr ρ fun as ρ2 => Q (.bx :: as) ρ2
section
variable {X : Cx} {e : Expr} {es : List Expr} {te : TE} {t : TA} {w : WE} {wt : WAs} {pos : Pos}
theorem das_nil : DAs X [] tNil asNil := ⟨pa_nil, fun {b ρ σ F M M0} R Qd Q hw k => k [] ρ [] F M M0 hw R.aft rfl⟩
theorem das_cons (ha : DE X e te w) (hr : DAs X es t wt) (hs : starEach (e :: es) X.env = (false, eval e X.env) :: starEach es X.env := by rfl) : DAs X (e :: es) (tCons te t) (asCons w wt) :=
  ⟨pa_cons ha.pe hr.pe hs, fun {b ρ σ F M M0} R Qd Q hw k => by
    refine ha.sn R _ _ hw fun d ρ1 v F1 M1 M01 q1 A1 r1 => ?_
    exact hr.sn A1.rel _ _ q1 fun as ρ2 vs F2 M2 M02 q2 A2 r2 => k (.sh d :: as) ρ2 (v :: vs) F2 M2 M02 q2 (A1.trans A2) ⟨v, vs, rfl, r1.up A2.same, r2⟩⟩
theorem das_box (i : Nat) {x : Str} {pos : Pos} (hr : DAs X es t wt) (hN : X.N[i]? = some x := by rfl) (hv : Vis X.env.scope x := by first | exact Or.inl rfl | exact Or.inr (Or.inl rfl) | exact Or.inr (Or.inr rfl)) (hd : (x == ("__debug__" : Str)) = false := by decide)
    (hcd : (x == ("__classdict__" : Str)) = false := by decide) (hs : starEach (.Name x pos :: es) X.env = (false, eval (.Name x pos) X.env) :: starEach es X.env := by rfl) : DAs X (.Name x pos :: es) (tCons (tVar i) t) (asBox i wt) :=
  ⟨pa_cons (pe_var hN hv hd hcd) hr.pe hs, fun {b ρ σ F M M0} R Qd Q hw k => by
    obtain ⟨e, hw⟩ := hw
    obtain ⟨a, h1, h2⟩ := R.env.getB e
    refine ⟨.ref a, h2, ?_⟩
    exact hr.sn R _ _ hw fun as ρ2 vs F2 M2 M02 q2 A2 r2 => k (.bx :: as) ρ2 (.ref a :: vs) F2 M2 M02 q2 A2 ⟨.ref a, vs, rfl, ⟨a, h1, rfl⟩, r2⟩⟩
def wCall (wf : WFn) (wa : WAs) : WE := fun ρ Q => wa ρ fun as ρ1 => wf as fun d => Q d ρ1
theorem snd_call {c : Cy} {E : XK} {wf : WFn} (ha : Snas c t wt) : Snd c (tCall (spF c wf) [] E t) (wCall wf wt) := fun {b ρ σ F M M0} R Qd Q hw k => by
  refine ha R _ _ hw fun as ρ1 vs F1 M1 M01 q1 A1 r1 => ?_
  rw [List.append_nil]
  refine ⟨b, F1, M1, as, _, rfl, A1.rel.dj, fun a z => ?_, r1, q1, fun d v F' M' q s dj bx mr r => ?_⟩
  · obtain ⟨da, ns, n, h1, h2, h3⟩ := A1.rel.box a z
    exact ⟨da, ns, n, A1.rel.env.sub _ _ h1, h2, h3⟩
  · obtain ⟨M0', A2⟩ := A1.rel.after s dj bx mr
    exact k d ρ1 v F' M' M0' q (A1.trans A2) r
variable {CX : CXT} {k : Nat} {f : Addr} {fd : FuncData} {ps : List Str} {x : Str} {p : Pos}
theorem de_call {wf : WFn} (G : FnOk X.prog X.w X.K X.mg X.base CX0 k f fd ps (spF (cy X) wf)) (hr : Room k X.A) (hg : Gl X x) (hm : X.mg x = some (.ref f)) (hk : PySem.W.keepIn X.K (.ref f) = true) (hb : Binds X.K fd ps [])
    (ha : DAs X (e :: es) t wt) (hdb : (x == ("__debug__" : Str)) = false := by decide) (he : starEach (e :: es) X.env = (false, eval e X.env) :: starEach es X.env := by rfl) (hpl : (backTo pos (starEach es X.env)).any (·.1) = false := by rfl) :
    DE X (.Call (.Name x p) (e :: es) [] pos) (tCall (spF (cy X) wf) [] E0 t) (wCall wf wt) := ⟨pe_call G hr hg hm hk hb .nil pass0 ha.pe hdb he hpl, snd_call ha.sn⟩
end
section
variable {P : Program} {w : World} {K : PySem.W.Frag} {mg : Str → Option Value} {base : Heap}
/-- THE RULE: a def's promise of data by its body's term -/
theorem fun_okD {x qual : Str} {st : Stmt} {f : Addr} {fd : FuncData} {N ps : List Str} {k : Nat} {wf : WFn} (F : Fun K x qual st f fd) (S : FnScope N ps (defScope st)) (len : ∀ as Qd, wf as Qd → as.length = ps.length)
    (hbody : ∀ (cdv : Value) (A : Around) (outer : List Env) (s : Shared) (H : Hp) (E : XK), Room k (A.deeper (envOfC qual (defScope st) s.heap.objs.size f cdv)) →
      ∃ t ws, DSs (cxOf CX0 P w K mg base N qual (defScope st) f cdv A outer s H E).nox (defBody st) t ws ∧ ∀ as Qd, wf as Qd → ws (startD N as) { nx := fun _ => Qd .non, rt := Qd }) :
    FnOk P w K mg base CX0 (k + 1) f fd ps (spF ⟨K, mg⟩ wf) := by
  refine F.ok S (fun vs H Q E h => ?_) (fun cdv A outer s H vs Q E hr h => ?_)
  · obtain ⟨b, F, M, as, Qd, _, _, _, ar, hw, _⟩ := h
    rw [ar.length, len as Qd hw]
  · obtain ⟨b, F, M, as, Qd, rfl, dj, bx, ar, hw, hq⟩ := h
    obtain ⟨t, ws, hd, hp⟩ := hbody cdv A outer s (HH F M) E hr
    refine ⟨t, hd.ps, ?_⟩
    have R : Rel ⟨K, mg⟩ b (startD N as) (L2.start N vs) F M M := by
      refine ⟨dj, ?_, bx⟩
      unfold startD L2.start
      rw [ar.length]
      exact ar.rel
    refine hd.sn R _ _ (hp as Qd hw) ⟨fun ρ' σ' F' M' M0' e s' R' m' => ?_, fun _ _ _ _ _ z => z.elim, fun _ _ _ _ _ z => z.elim, fun d v F' M0' e s' dj' bx' m' r => hq d v F' M0' e s' dj' bx' m' r⟩
    obtain ⟨F2, s2, eh, dj2⟩ := R'.env.frzAll R'.dj
    show Q .non (HH F' M')
    rw [eh]
    exact hq .non .non F2 M0' e (s'.trans s2) dj2 (fun a z => (R'.box a z).leD (.of s2)) m' (by simp only [Dr])
end
end DL

/-! Operations on data. -/
namespace DL
open PySem PySem.Spec PyProof.Rows L2

/-! ### numbers, texts, lists -/
section
variable {c : Cy} {X : Cx}
theorem Dr.int_of {F : Hp} {v : V} {i : Int} (h : Dr c F v (.int i)) : v = .int i := by simpa only [Dr] using h
theorem Dr.str_of {F : Hp} {v : V} {i : Str} (h : Dr c F v (.str i)) : v = .str i := by simpa only [Dr] using h
theorem Dr.bl_of {F : Hp} {v : V} {i : Bool} (h : Dr c F v (.bl i)) : v = .bl i := by simpa only [Dr] using h
theorem Dr.non_of {F : Hp} {v : V} (h : Dr c F v .non) : v = .non := by simpa only [Dr] using h
theorem Dr.of_int {F : Hp} {i : Int} : Dr c F (.int i) (.int i) := by simp only [Dr]
theorem Dr.of_str {F : Hp} {i : Str} : Dr c F (.str i) (.str i) := by simp only [Dr]
theorem Dr.of_bl {F : Hp} {i : Bool} : Dr c F (.bl i) (.bl i) := by simp only [Dr]
theorem Dr.of_non {F : Hp} : Dr c F .non .non := by simp only [Dr]
theorem Rk.int_of {b : Option Addr} {F M : Hp} {v : V} {i : Int} (h : Rk c b F M v (.int i)) : v = .int i := Dr.int_of (c := c) (F := F) h
theorem Rk.str_of {b : Option Addr} {F M : Hp} {v : V} {i : Str} (h : Rk c b F M v (.str i)) : v = .str i := Dr.str_of (c := c) (F := F) h
theorem Rk.bl_of {b : Option Addr} {F M : Hp} {v : V} {i : Bool} (h : Rk c b F M v (.bl i)) : v = .bl i := Dr.bl_of (c := c) (F := F) h
theorem Rk.non_of {b : Option Addr} {F M : Hp} {v : V} (h : Rk c b F M v .non) : v = .non := Dr.non_of (c := c) (F := F) h
theorem Rk.tup_of {b : Option Addr} {F M : Hp} {v : V} {ds : List D} (h : Rk c b F M v (.tup ds)) : ∃ a vs, v = .ref a ∧ F a = some (.tup vs) ∧ DrL c F vs ds := by
  have h : Dr c F v (.tup ds) := h
  simpa only [Dr] using h
theorem Rk.scr_of {b : Option Addr} {F M : Hp} {v : V} {ds : List D} (h : Rk c b F M v (.scr ds)) : ∃ a vs, v = .ref a ∧ SqL c.K F a vs ∧ DrL c F vs ds := by
  have h : Dr c F v (.scr ds) := h
  simpa only [Dr] using h

def dI2 (g : Int → Int → D) : D → D → (D → Prop) → Prop
  | .int i, .int j, Q => Q (g i j)
  | _, _, _ => False
def dI2C (C : Int → Int → Prop) (g : Int → Int → D) : D → D → (D → Prop) → Prop
  | .int i, .int j, Q => C i j ∧ Q (g i j)
  | _, _, _ => False
theorem rop_I0 {g : Int → Int → V} {gd : Int → Int → D} (h : ∀ i j F, Dr c F (g i j) (gd i j)) : Rop c (rI0 g) (dI2 gd) := fun {b F M x y d1 d2} Qd Q dj r1 r2 hw k => by
  cases d1 with
  | int i =>
    cases d2 with
    | int j => exact ⟨i, j, r1.int_of, r2.int_of, k _ _ F hw (Same.refl _) dj (fun _ f _ => f) (h i j F)⟩
    | _ => exact hw.elim
  | _ => exact hw.elim
theorem rop_I {C : Int → Int → Prop} {g : Int → Int → V} {gd : Int → Int → D} (h : ∀ i j F, Dr c F (g i j) (gd i j)) : Rop c (rI C g) (dI2C C gd) := fun {b F M x y d1 d2} Qd Q dj r1 r2 hw k => by
  cases d1 with
  | int i =>
    cases d2 with
    | int j => exact ⟨i, j, r1.int_of, r2.int_of, hw.1, k _ _ F hw.2 (Same.refl _) dj (fun _ f _ => f) (h i j F)⟩
    | _ => exact hw.elim
  | _ => exact hw.elim
abbrev dSub := dI2 fun i j => D.int (i - j)
abbrev dMul := dI2C CMul fun i j => D.int (i * j)
abbrev dMod := dI2C (fun _ j => 0 < j) fun i j => D.int (i % j)
abbrev dFdiv := dI2C CDiv fun i j => D.int (i / j)
abbrev dPow := dI2C CPow fun i j => D.int (i ^ j.toNat)
abbrev dLt := dI2 fun i j => D.bl (decide (i < j))
abbrev dLe := dI2 fun i j => D.bl (decide (i ≤ j))
abbrev dGt := dI2 fun i j => D.bl (decide (j < i))
abbrev dGe := dI2 fun i j => D.bl (decide (j ≤ i))
theorem rop_sub : Rop c (rI0 fun i j => .int (i - j)) dSub := rop_I0 fun _ _ _ => .of_int
theorem rop_mul : Rop c (rI CMul fun i j => .int (i * j)) dMul := rop_I fun _ _ _ => .of_int
theorem rop_mod : Rop c (rI (fun _ j => 0 < j) fun i j => .int (i % j)) dMod := rop_I fun _ _ _ => .of_int
theorem rop_fdiv : Rop c (rI CDiv fun i j => .int (i / j)) dFdiv := rop_I fun _ _ _ => .of_int
theorem rop_pow : Rop c (rI CPow fun i j => .int (i ^ j.toNat)) dPow := rop_I fun _ _ _ => .of_int
theorem rop_lt : Rop c (rI0 fun i j => .bl (decide (i < j))) dLt := rop_I0 fun _ _ _ => .of_bl
theorem rop_le : Rop c (rI0 fun i j => .bl (decide (i ≤ j))) dLe := rop_I0 fun _ _ _ => .of_bl
theorem rop_gt : Rop c (rI0 fun i j => .bl (decide (j < i))) dGt := rop_I0 fun _ _ _ => .of_bl
theorem rop_ge : Rop c (rI0 fun i j => .bl (decide (j ≤ i))) dGe := rop_I0 fun _ _ _ => .of_bl
/-- + -/
def dAdd : D → D → (D → Prop) → Prop
  | .int i, .int j, Q => Q (.int (i + j))
  | .str s, .str t, Q => s.length + t.length ≤ sizeLine ∧ Q (.str (s ++ t))
  | .lst a, .lst b, Q => a.length + b.length ≤ sizeLine ∧ Q (.lst (a ++ b))
  | _, _, _ => False
def rAddU : R2 := fun x y H Q => rI0 (fun i j => .int (i + j)) x y H Q ∨ (fun x y H Q => ∃ i j, x = .str i ∧ y = .str j ∧ i.length + j.length ≤ sizeLine ∧ Q (.str (i ++ j)) H) x y H Q ∨ rCat x y H Q
theorem op_addU : OpR X (binaryOp .Add) rAddU := OpR.or op_add (OpR.or op_add_str op_cat)
theorem Rk.lst_of {b : Option Addr} {F M : Hp} {v : V} {ds : List D} (h : Rk c b F M v (.lst ds)) : ∃ a vs, v = .ref a ∧ b ≠ some a ∧ HH F M a = some (.lst vs) ∧ DrL c F vs ds := h
theorem rop_add : Rop c rAddU dAdd := fun {b F M x y d1 d2} Qd Q dj r1 r2 hw k => by
  cases d1 with
  | int i =>
    cases d2 with
    | int j => exact .inl ⟨i, j, r1.int_of, r2.int_of, k _ _ F hw (Same.refl _) dj (fun _ f _ => f) .of_int⟩
    | _ => exact hw.elim
  | str i =>
    cases d2 with
    | str j => exact .inr (.inl ⟨i, j, r1.str_of, r2.str_of, hw.1, k _ _ F hw.2 (Same.refl _) dj (fun _ f _ => f) .of_str⟩)
    | _ => exact hw.elim
  | lst ds =>
    cases d2 with
    | lst es =>
      obtain ⟨a, vs, rfl, _, h1, q1⟩ := r1.lst_of
      obtain ⟨a', vs', rfl, _, h2, q2⟩ := r2.lst_of
      refine .inr (.inr ⟨a, a', vs, vs', rfl, rfl, h1, h2, by rw [q1.length, q2.length]; exact hw.1, fun p hp => ?_⟩)
      obtain ⟨hf, hm⟩ := hh_none hp
      rw [hh_updF hm]
      have s : Same F (upd F p (.lst (vs ++ vs'))) := Same.updF hf
      refine k _ _ _ hw.2 s (dj.updF hm) (fun x f m => ?_) ?_
      · by_cases e : x = p
        · rw [e, hm] at m; cases m
        · rw [upd_ne e]; exact f
      · simp only [Dr]
        exact ⟨p, _, rfl, upd_same, (q1.append q2).up s⟩
    | _ => exact hw.elim
  | _ => exact hw.elim

/-! ### equality -/
mutual
def toPy : D → PyData
  | .non => .none
  | .bl b => .bool b
  | .int i => .int i
  | .str s => .str s
  | .lst xs => .list (toPyL xs)
  | .tup xs => .tuple (toPyL xs)
  | .scr xs => .list (toPyL xs)
  | .dk _ _ => .none
  | .dt _ _ => .none
  | .ins _ _ _ => .none
def toPyL : List D → List PyData
  | [] => []
  | d :: ds => toPy d :: toPyL ds
end
mutual
/-- data that == tells apart: no dicts, no instances, texts of signs -/
def okD : D → Bool
  | .non => true
  | .bl _ => true
  | .int _ => true
  | .str s => PyData.strOk s
  | .lst xs => okDL xs
  | .tup xs => okDL xs
  | _ => false
def okDL : List D → Bool
  | [] => true
  | d :: ds => okD d && okDL ds
end
mutual
def depD : D → Nat
  | .lst xs => depDL xs + 1
  | .tup xs => depDL xs + 1
  | _ => 0
def depDL : List D → Nat
  | [] => 0
  | d :: ds => max (depD d) (depDL ds)
end
theorem toPyL_map : ∀ ds : List D, toPyL ds = ds.map toPy
  | [] => by simp only [toPyL, List.map_nil]
  | d :: ds => by simp only [toPyL, List.map_cons, toPyL_map ds]
mutual
theorem okD_lay : ∀ (d : D), okD d = true → (toPy d).canLay0 = true
  | .non, _ => by simp only [toPy, PyData.canLay0]
  | .bl _, _ => by simp only [toPy, PyData.canLay0]
  | .int _, _ => by simp only [toPy, PyData.canLay0]
  | .str s, h => by simpa only [toPy, PyData.canLay0, okD] using h
  | .lst xs, h => by simp only [toPy, PyData.canLay0]; exact okDL_lay xs (by simpa only [okD] using h)
  | .tup xs, h => by simp only [toPy, PyData.canLay0]; exact okDL_lay xs (by simpa only [okD] using h)
  | .scr _, h => by simp [okD] at h
  | .dk _ _, h => by simp [okD] at h
  | .dt _ _, h => by simp [okD] at h
  | .ins _ _ _, h => by simp [okD] at h
theorem okDL_lay : ∀ (ds : List D), okDL ds = true → PyData.canLayAll0 (toPyL ds) = true
  | [], _ => by simp only [toPyL, PyData.canLayAll0]
  | d :: ds, h => by
    simp only [okDL, Bool.and_eq_true] at h
    simp only [toPyL, PyData.canLayAll0, Bool.and_eq_true]
    exact ⟨okD_lay d h.1, okDL_lay ds h.2⟩
end
mutual
theorem depD_py : ∀ (d : D), okD d = true → (toPy d).depth = depD d
  | .non, _ => by simp only [toPy, PyData.depth, depD]
  | .bl _, _ => by simp only [toPy, PyData.depth, depD]
  | .int _, _ => by simp only [toPy, PyData.depth, depD]
  | .str s, h => by simp only [toPy, PyData.depth, depD]
  | .lst xs, h => by simp only [toPy, PyData.depth, depD, depDL_py xs (by simpa only [okD] using h)]
  | .tup xs, h => by simp only [toPy, PyData.depth, depD, depDL_py xs (by simpa only [okD] using h)]
  | .scr _, h => by simp [okD] at h
  | .dk _ _, h => by simp [okD] at h
  | .dt _ _, h => by simp [okD] at h
  | .ins _ _ _, h => by simp [okD] at h
theorem depDL_py : ∀ (ds : List D), okDL ds = true → PyData.depthAll (toPyL ds) = depDL ds
  | [], _ => by simp only [toPyL, PyData.depthAll, depDL]
  | d :: ds, h => by
    simp only [okDL, Bool.and_eq_true] at h
    simp only [toPyL, PyData.depthAll, depDL, depD_py d h.1, depDL_py ds h.2]
end
mutual
theorem Dr.dp {K : PySem.W.Frag} {F H : Hp} (s : Same F H) : ∀ (d : D) {v : V}, okD d = true → Dr c F v d → Dp K H v (toPy d)
  | .non, v, _, h => by rw [h.non_of, toPy]; exact .non
  | .bl _, v, _, h => by rw [h.bl_of, toPy]; exact .bl _
  | .int _, v, _, h => by rw [h.int_of, toPy]; exact .int _
  | .str _, v, _, h => by rw [h.str_of, toPy]; exact .str _
  | .lst xs, v, ok, h => by
    simp only [Dr] at h
    obtain ⟨a, vs, rfl, q, r⟩ := h
    rw [toPy]
    exact .lst (SqL.of (s _ _ q)) (DrL.dp s xs (by simpa only [okD] using ok) r)
  | .tup xs, v, ok, h => by
    simp only [Dr] at h
    obtain ⟨a, vs, rfl, q, r⟩ := h
    rw [toPy]
    exact .tup (SqT.of (s _ _ q)) (DrL.dp s xs (by simpa only [okD] using ok) r)
  | .scr _, v, h, _ => by simp [okD] at h
  | .dk _ _, v, h, _ => by simp [okD] at h
  | .dt _ _, v, h, _ => by simp [okD] at h
  | .ins _ _ _, v, h, _ => by simp [okD] at h
theorem DrL.dp {K : PySem.W.Frag} {F H : Hp} (s : Same F H) : ∀ (ds : List D) {vs : List V}, okDL ds = true → DrL c F vs ds → DpAll K H vs (toPyL ds)
  | [], vs, _, h => by rw [h.nil_iff, toPyL]; exact .nil
  | d :: ds, vs, ok, h => by
    obtain ⟨v, vr, rfl, q, r⟩ := h.cons_iff
    simp only [okDL, Bool.and_eq_true] at ok
    rw [toPyL]
    exact .cons (Dr.dp s d ok.1 q) (DrL.dp s ds ok.2 r)
end
theorem Rk.dp {K : PySem.W.Frag} {b : Option Addr} {F M : Hp} {v : V} {d : D} (dj : Dj F M) (ok : okD d = true) (h : Rk c b F M v d) : Dp K (HH F M) v (toPy d) := by
  cases d with
  | lst ds =>
    obtain ⟨a, vs, rfl, _, q, r⟩ := h
    rw [toPy]
    exact .lst (SqL.of q) (DrL.dp dj.same ds (by simpa only [okD] using ok) r)
  | dk _ _ => simp [okD] at ok
  | dt _ _ => simp [okD] at ok
  | ins _ _ _ => simp [okD] at ok
  | scr _ => simp [okD] at ok
  | non => exact Dr.dp (c := c) dj.same _ ok h
  | bl _ => exact Dr.dp (c := c) dj.same _ ok h
  | int _ => exact Dr.dp (c := c) dj.same _ ok h
  | str _ => exact Dr.dp (c := c) dj.same _ ok h
  | tup _ => exact Dr.dp (c := c) dj.same _ ok h
def shD (d : D) : Prop := okD d = true ∧ depD d ≤ 64
theorem shD.shaped {d : D} (h : shD d) : SeqAt.shaped (toPy d) = true := by
  show ((toPy d).canLay0 && decide ((toPy d).depth ≤ 64)) = true
  rw [Bool.and_eq_true]
  exact ⟨okD_lay d h.1, decide_eq_true (by rw [depD_py d h.1]; exact h.2)⟩
mutual
/-- Python's == on data without dicts -/
def eqD : D → D → Bool
  | .non, .non => true
  | .bl a, .bl b => a == b
  | .bl a, .int j => (if a then 1 else 0) == j
  | .int i, .bl b => i == (if b then 1 else 0)
  | .int i, .int j => i == j
  | .str x, .str y => x == y
  | .lst xs, .lst ys => eqDL xs ys
  | .tup xs, .tup ys => eqDL xs ys
  | _, _ => false
def eqDL : List D → List D → Bool
  | [], [] => true
  | x :: xs, y :: ys => eqD x y && eqDL xs ys
  | _, _ => false
end
mutual
theorem eqD_py : ∀ (d e : D), okD d = true → okD e = true → PyData.eqv (toPy d) (toPy e) = eqD d e := fun d e h1 h2 => by
  cases d <;> cases e <;> first
    | (simp [okD] at h1; done)
    | (simp [okD] at h2; done)
    | (simp only [toPy, PyData.eqv, eqD]; done)
    | (simp only [toPy, PyData.eqv, eqD]; exact eqDL_py _ _ (by simpa only [okD] using h1) (by simpa only [okD] using h2))
theorem eqDL_py : ∀ (ds es : List D), okDL ds = true → okDL es = true → PyData.eqvAll (toPyL ds) (toPyL es) = eqDL ds es
  | [], [], _, _ => by simp only [toPyL, PyData.eqvAll, eqDL]
  | [], _ :: _, _, _ => by simp only [toPyL, PyData.eqvAll, eqDL]
  | _ :: _, [], _, _ => by simp only [toPyL, PyData.eqvAll, eqDL]
  | d :: ds, e :: es, h1, h2 => by
    simp only [okDL, Bool.and_eq_true] at h1 h2
    simp only [toPyL, PyData.eqvAll, eqDL, eqD_py d e h1.1 h2.1, eqDL_py ds es h1.2 h2.2]
end
def rEqU (K : PySem.W.Frag) : R2 := fun x y H Q => rEq x y H Q ∨ rEqD K x y H Q
def rNeU (K : PySem.W.Frag) : R2 := fun x y H Q => rNe x y H Q ∨ rNeD K x y H Q
theorem op_eqU (hu : X.A.units + 64 < cLine) : OpR X (compareOp .Eq) (rEqU X.K) := OpR.or op_eq (op_eqD hu)
theorem op_neU (hu : X.A.units + 64 < cLine) : OpR X (compareOp .NotEq) (rNeU X.K) := OpR.or op_ne (op_neD hu)
def dEqB (g : Bool → Bool) : D → D → (D → Prop) → Prop
  | .int i, .int j, Q => Q (.bl (g (decide (i = j))))
  | .str i, .str j, Q => Q (.bl (g (decide (i = j))))
  | .bl i, .bl j, Q => Q (.bl (g (decide (i = j))))
  | .non, .non, Q => Q (.bl (g true))
  | .non, .int _, Q => Q (.bl (g false))
  | .int _, .non, Q => Q (.bl (g false))
  | .str _, .int _, Q => Q (.bl (g false))
  | .int _, .str _, Q => Q (.bl (g false))
  | d, e, Q => (shD d ∧ shD e) ∧ Q (.bl (g (eqD d e)))
abbrev dEq := dEqB id
abbrev dNe := dEqB not
theorem rop_eqG {g : Bool → Bool} {K : PySem.W.Frag} {r1 r2 : R2} (h1 : ∀ x y H (Q : VK), scal x y = true → Q (.bl (g (decide (x = y)))) H → r1 x y H Q) (h2 : ∀ x y H (Q : VK) d e, Dp K H x d → Dp K H y e → SeqAt.shaped d = true → SeqAt.shaped e = true → Q (.bl (g (PyData.eqv d e))) H → r2 x y H Q) :
    Rop c (fun x y H Q => r1 x y H Q ∨ r2 x y H Q) (dEqB g) := fun {b F M x y d1 d2} Qd Q dj q1 q2 hw k => by
  have deep : (shD d1 ∧ shD d2) ∧ Qd (.bl (g (eqD d1 d2))) → r1 x y (HH F M) Q ∨ r2 x y (HH F M) Q := fun ⟨⟨a, b⟩, q⟩ =>
    .inr (h2 x y _ Q _ _ (q1.dp dj a.1) (q2.dp dj b.1) a.shaped b.shaped (by rw [eqD_py d1 d2 a.1 b.1]; exact k _ _ F q (Same.refl _) dj (fun _ f _ => f) .of_bl))
  cases d1 with
  | int i =>
    cases d2 with
    | int j => rw [q1.int_of, q2.int_of]; exact .inl (h1 _ _ _ _ rfl (by rw [show decide (V.int i = V.int j) = decide (i = j) by simp]; exact k _ _ F hw (Same.refl _) dj (fun _ f _ => f) .of_bl))
    | non => rw [q1.int_of, q2.non_of]; exact .inl (h1 _ _ _ _ rfl (by rw [show decide (V.int i = V.non) = false by simp]; exact k _ _ F hw (Same.refl _) dj (fun _ f _ => f) .of_bl))
    | str j => rw [q1.int_of, q2.str_of]; exact .inl (h1 _ _ _ _ rfl (by rw [show decide (V.int i = V.str j) = false by simp]; exact k _ _ F hw (Same.refl _) dj (fun _ f _ => f) .of_bl))
    | _ => exact deep hw
  | str i =>
    cases d2 with
    | str j => rw [q1.str_of, q2.str_of]; exact .inl (h1 _ _ _ _ rfl (by rw [show decide (V.str i = V.str j) = decide (i = j) by simp]; exact k _ _ F hw (Same.refl _) dj (fun _ f _ => f) .of_bl))
    | int j => rw [q1.str_of, q2.int_of]; exact .inl (h1 _ _ _ _ rfl (by rw [show decide (V.str i = V.int j) = false by simp]; exact k _ _ F hw (Same.refl _) dj (fun _ f _ => f) .of_bl))
    | _ => exact deep hw
  | bl i =>
    cases d2 with
    | bl j => rw [q1.bl_of, q2.bl_of]; exact .inl (h1 _ _ _ _ rfl (by rw [show decide (V.bl i = V.bl j) = decide (i = j) by simp]; exact k _ _ F hw (Same.refl _) dj (fun _ f _ => f) .of_bl))
    | _ => exact deep hw
  | non =>
    cases d2 with
    | non => rw [q1.non_of, q2.non_of]; exact .inl (h1 _ _ _ _ rfl (by rw [show decide (V.non = V.non) = true by simp]; exact k _ _ F hw (Same.refl _) dj (fun _ f _ => f) .of_bl))
    | int j => rw [q1.non_of, q2.int_of]; exact .inl (h1 _ _ _ _ rfl (by rw [show decide (V.non = V.int j) = false by simp]; exact k _ _ F hw (Same.refl _) dj (fun _ f _ => f) .of_bl))
    | _ => exact deep hw
  | _ => exact deep hw
theorem rop_eq : Rop (cy X) (rEqU X.K) dEq := rop_eqG (g := id) (fun x y H Q h q => ⟨h, q⟩) (fun x y H Q d e a b s t q => ⟨d, e, a, b, s, t, q⟩)
theorem rop_ne : Rop (cy X) (rNeU X.K) dNe := rop_eqG (g := not) (fun x y H Q h q => ⟨h, q⟩) (fun x y H Q d e a b s t q => ⟨d, e, a, b, s, t, q⟩)

/-! ### is None, is True -/
def dIsB (g : Bool → Bool) : D → D → (D → Prop) → Prop
  | .bl a, .bl b, Q => Q (.bl (g (decide (a = b))))
  | .non, .non, Q => Q (.bl (g true))
  | _, .non, Q => Q (.bl (g false))
  | _, _, _ => False
def rIsU : R2 := fun x y H Q => (y = .non ∧ Q (.bl (decide (x = .non))) H) ∨ rIsB x y H Q
def rNotU : R2 := fun x y H Q => (y = .non ∧ Q (.bl (!decide (x = .non))) H) ∨ rNotB x y H Q
theorem op_isU : OpR X (compareOp .Is) rIsU := OpR.or op_isN op_isBl
theorem op_notU : OpR X (compareOp .IsNot) rNotU := OpR.or op_notN op_notBl
theorem Rk.ne_non {b : Option Addr} {F M : Hp} {x : V} : ∀ {d : D}, Rk c b F M x d → d ≠ .non → x ≠ .non
  | .non, _, n => (n rfl).elim
  | .bl _, h, _ => by rw [h.bl_of]; exact fun z => nomatch z
  | .int _, h, _ => by rw [h.int_of]; exact fun z => nomatch z
  | .str _, h, _ => by rw [h.str_of]; exact fun z => nomatch z
  | .lst _, h, _ => by obtain ⟨a, vs, rfl, _⟩ := h; exact fun z => nomatch z
  | .tup _, h, _ => by obtain ⟨a, vs, rfl, _⟩ := h.tup_of; exact fun z => nomatch z
  | .scr _, h, _ => by obtain ⟨a, vs, rfl, _⟩ := h.scr_of; exact fun z => nomatch z
  | .dk _ _, h, _ => by obtain ⟨a, vs, rfl, _⟩ := h; exact fun z => nomatch z
  | .dt _ _, h, _ => by obtain ⟨a, vs, rfl, _⟩ := h; exact fun z => nomatch z
  | .ins _ _ _, h, _ => by obtain ⟨a, vs, _, _, rfl, _⟩ := h; exact fun z => nomatch z
theorem rop_isG {g : Bool → Bool} {r1 r2 : R2} (h1 : ∀ x H (Q : VK), Q (.bl (g (decide (x = .non)))) H → r1 x .non H Q) (h2 : ∀ a b H (Q : VK), Q (.bl (g (decide (a = b)))) H → r2 (.bl a) (.bl b) H Q) :
    Rop c (fun x y H Q => r1 x y H Q ∨ r2 x y H Q) (dIsB g) := fun {b F M x y d1 d2} Qd Q dj q1 q2 hw k => by
  have no : d2 = .non → d1 ≠ .non → Qd (.bl (g false)) → r1 x y (HH F M) Q ∨ r2 x y (HH F M) Q := fun e n q => by
    subst e
    rw [q2.non_of]
    refine .inl (h1 _ _ _ ?_)
    rw [decide_eq_false (q1.ne_non n)]
    exact k _ _ F q (Same.refl _) dj (fun _ f _ => f) .of_bl
  cases d2 with
  | non =>
    cases d1 with
    | non =>
      rw [q1.non_of, q2.non_of]
      refine .inl (h1 _ _ _ ?_)
      rw [show decide (V.non = V.non) = true by simp]
      exact k _ _ F hw (Same.refl _) dj (fun _ f _ => f) .of_bl
    | bl _ => exact no rfl (fun z => nomatch z) hw
    | int _ => exact no rfl (fun z => nomatch z) hw
    | str _ => exact no rfl (fun z => nomatch z) hw
    | lst _ => exact no rfl (fun z => nomatch z) hw
    | tup _ => exact no rfl (fun z => nomatch z) hw
    | scr _ => exact no rfl (fun z => nomatch z) hw
    | dk _ _ => exact no rfl (fun z => nomatch z) hw
    | dt _ _ => exact no rfl (fun z => nomatch z) hw
    | ins _ _ _ => exact no rfl (fun z => nomatch z) hw
  | bl j =>
    cases d1 with
    | bl i => rw [q1.bl_of, q2.bl_of]; exact .inr (h2 _ _ _ _ (k _ _ F hw (Same.refl _) dj (fun _ f _ => f) .of_bl))
    | _ => exact hw.elim
  | _ => cases d1 <;> exact hw.elim
abbrev dIs := dIsB id
abbrev dNotIs := dIsB not
theorem rop_is : Rop c rIsU dIs := rop_isG (g := id) (r1 := fun x y H Q => y = .non ∧ Q (.bl (decide (x = .non))) H) (r2 := rIsB) (fun x H Q q => ⟨rfl, q⟩) (fun a b H Q q => ⟨a, b, rfl, rfl, q⟩)
theorem rop_notIs : Rop c rNotU dNotIs := rop_isG (g := not) (r1 := fun x y H Q => y = .non ∧ Q (.bl (!decide (x = .non))) H) (r2 := rNotB) (fun x H Q q => ⟨rfl, q⟩) (fun a b H Q q => ⟨a, b, rfl, rfl, q⟩)
theorem ro1_neg : Ro1 c (rU fun i => .int (-i)) (fun d Q => match d with | .int i => Q (.int (-i)) | _ => False) := fun {b F M x d1} Qd Q dj r1 hw k => by
  cases d1 with
  | int i => exact ⟨i, r1.int_of, k _ _ F hw (Same.refl _) dj .of_int⟩
  | _ => exact hw.elim

/-! ### dicts: what stands at a key -/
section
variable {κ : Type} [DecidableEq κ]
def alD : List κ → List D → κ → Option D
  | k :: ks, d :: ds, x => if k = x then some d else alD ks ds x
  | _, _, _ => none
theorem alD_val {F : Hp} : ∀ {ps : List (κ × V)} {ds : List D} {k : κ}, DrL c F (ps.map (·.2)) ds → (∀ d, alD (ps.map (·.1)) ds k = some d → ∃ v, valV ps k = some v ∧ Dr c F v d) ∧ (alD (ps.map (·.1)) ds k = none → valV ps k = none)
  | [], ds, k, h => by
    have e := h.length
    cases ds with
    | nil => exact ⟨fun d z => by simp [alD] at z, fun _ => rfl⟩
    | cons d ds => simp at e
  | p :: ps, ds, k, h => by
    cases ds with
    | nil => have e := h.length; simp at e
    | cons d ds =>
      obtain ⟨v, vr, e, q, r⟩ := h.cons_iff
      have e1 : p.2 = v := by injection e
      have e2 : ps.map (·.2) = vr := by injection e
      subst e1 e2
      have ih := alD_val (k := k) r
      by_cases z : p.1 = k
      · rw [valV_pos z]
        refine ⟨fun d' hd => ⟨p.2, rfl, ?_⟩, fun hn => ?_⟩
        · rw [List.map_cons, alD, if_pos z] at hd
          rw [← Option.some.inj hd]; exact q
        · rw [List.map_cons, alD, if_pos z] at hn; cases hn
      · rw [valV_neg z, List.map_cons, alD, if_neg z]
        exact ih
end
/-- a key -/
def keyD : D → Option Key
  | .int i => some (.inl i)
  | .str s => some (.inr s)
  | _ => none
def keysD : List D → Option (List Key)
  | [] => some []
  | d :: ds => match keyD d, keysD ds with
    | some k, some ks => some (k :: ks)
    | _, _ => none
theorem keyD_v {F : Hp} {v : V} : ∀ {d : D} {k : Key}, keyD d = some k → Dr c F v d → v = kV k
  | .int i, k, e, h => by rw [h.int_of]; cases e; rfl
  | .str i, k, e, h => by rw [h.str_of]; cases e; rfl
  | .non, k, e, _ => nomatch e
  | .bl _, k, e, _ => nomatch e
  | .lst _, k, e, _ => nomatch e
  | .tup _, k, e, _ => nomatch e
  | .scr _, k, e, _ => nomatch e
  | .dk _ _, k, e, _ => nomatch e
  | .dt _ _, k, e, _ => nomatch e
  | .ins _ _ _, k, e, _ => nomatch e
theorem keysD_v {F : Hp} : ∀ {ds : List D} {vs : List V} {ks : List Key}, keysD ds = some ks → DrL c F vs ds → vs = ks.map kV
  | [], vs, ks, e, h => by rw [h.nil_iff]; cases e; rfl
  | d :: ds, vs, ks, e, h => by
    obtain ⟨v, vr, rfl, q, r⟩ := h.cons_iff
    unfold keysD at e
    cases e1 : keyD d with
    | none => rw [e1] at e; cases e
    | some k =>
      cases e2 : keysD ds with
      | none => rw [e1, e2] at e; cases e
      | some kr =>
        rw [e1, e2] at e; cases e
        rw [keyD_v e1 q, keysD_v e2 r]; rfl
/-- what the dict holds at the key -/
def getD' : D → D → Option (Option D)
  | .dk ks ds, y => (keyD y).map fun k => alD ks ds k
  | .dt ks ds, .tup ys => (keysD ys).map fun k => alD ks ds k
  | _, _ => none
theorem getD_DGet {b : Option Addr} {F M : Hp} {x y : V} {d e : D} {o : Option D} (dj : Dj F M) (r1 : Rk c b F M x d) (r2 : Rk c b F M y e) (h : getD' d e = some o) : ∃ a ov, x = .ref a ∧ DGet (HH F M) a y ov ∧
    (∀ z, o = some z → ∃ v, ov = some v ∧ Dr c F v z) ∧ (o = none → ov = none) := by
  cases d with
  | dk ks ds =>
    obtain ⟨a, ps, rfl, _, q, k, r⟩ := r1
    obtain ⟨kk, hk, e1⟩ := Option.map_eq_some_iff.mp (show (keyD e).map (fun k => alD ks ds k) = some o from h)
    subst k
    have ev : y = kV kk := by
      cases e with
      | int i => rw [r2.int_of]; cases hk; rfl
      | str i => rw [r2.str_of]; cases hk; rfl
      | _ => cases hk
    have al := alD_val (c := c) (k := kk) r
    refine ⟨a, valV ps kk, rfl, .inl ⟨ps, kk, q, ev, rfl⟩, fun z hz => al.1 z (by rw [← hz]; exact e1), fun hn => al.2 (by rw [← hn]; exact e1)⟩
  | dt ks ds =>
    obtain ⟨a, ps, rfl, _, q, k, r⟩ := r1
    cases e with
    | tup ys =>
      obtain ⟨kk, hk, e1⟩ := Option.map_eq_some_iff.mp (show (keysD ys).map (fun k => alD ks ds k) = some o from h)
      subst k
      obtain ⟨bb, vs, rfl, hb, rb⟩ := r2.tup_of
      have ev := keysD_v hk rb
      have al := alD_val (c := c) (k := kk) r
      refine ⟨a, valV ps kk, rfl, .inr ⟨ps, kk, bb, q, rfl, by rw [← ev]; exact dj.f hb, rfl⟩, fun z hz => al.1 z (by rw [← hz]; exact e1), fun hn => al.2 (by rw [← hn]; exact e1)⟩
    | _ => cases h
  | _ => cases h

/-! ### x[i] -/
def rIxD : R2 := fun x y H Q => ∃ a v, x = .ref a ∧ DGet H a y (some v) ∧ Q v H
theorem ix_dict (hu : X.A.units + 1 < cLine) : IxR X rIxD := by
  intro value slice pins s σ H x y v u Q I rx ry h hs
  obtain ⟨a, w, rfl, g, q⟩ := h
  cases rx
  have hT := dict_typeIs I g
  have h₂ : wpAny (model X.prog X.w) X.A (getItem (.ref a) u) (EP X pins σ Q) X.xe s := d_getItem hu I g ry fun w' s' I' rw' => ⟨w, H, I', rw', q⟩
  unfold subscriptTail
  refine wpAny_bind ?_
  rw [getitemInPython_of_ne hT.not_modules]
  refine wpAny_bind (wpAny_specialOf hT PySem.F.slot_dict_getitem.lookup ?_)
  have fin : wpAny (model X.prog X.w) X.A (subscripted slice false (.ref a) u) (fun r s₃ => wpAny (model X.prog X.w) X.A (letTemporaryGo value (.ref a) r >>= fun _ => pure r) (EP X pins σ Q) X.xe s₃) X.xe s := by
    rw [hs]
    exact wpAny_operating (wpAny_mono h₂ (fun r s₃ h₃ => wpAny_bind (wpAny_letTemporaryGo (wpAny_pure h₃))) fun _ _ x => x)
  first
    | exact wpAny_pure (wpAny_bind fin)
    | exact wpAny_bind (wpAny_pure (wpAny_bind fin))
    | exact wpAny_bind fin
def rIxU (K : PySem.W.Frag) : R2 := fun x y H Q => rIx K x y H Q ∨ rIxD x y H Q
theorem ix_U (hu : X.A.units + 1 < cLine) : IxR X (rIxU X.K) := IxR.or ix_seq (ix_dict hu)
def dIx : D → D → (D → Prop) → Prop
  | .lst ds, .int i, Q => ∃ d, atI ds i = some d ∧ Q d
  | .tup ds, .int i, Q => ∃ d, atI ds i = some d ∧ Q d
  | .scr ds, .int i, Q => ∃ d, atI ds i = some d ∧ Q d
  | .str z, .int i, Q => z.length ≤ sizeLine ∧ ∃ n, atI z.cps.toList i = some n ∧ Q (.str ⟨#[n]⟩)
  | x, y, Q => ∃ d, getD' x y = some (some d) ∧ Q d
theorem atI_drl {F : Hp} {vs : List V} {ds : List D} {i : Int} {d : D} (r : DrL c F vs ds) (h : atI ds i = some d) : ∃ v, atI vs i = some v ∧ Dr c F v d := by
  unfold atI at h ⊢
  rw [r.length]
  cases e : ixN ds.length i with
  | none => rw [e] at h; cases h
  | some j =>
    rw [e] at h
    obtain ⟨v, h1, h2⟩ := r.get (i := j) h
    exact ⟨v, h1, h2⟩
theorem rop_ix : Rop (cy X) (rIxU X.K) dIx := fun {b F M x y d1 d2} Qd Q dj q1 q2 hw k => by
  have dict : (∃ d, getD' d1 d2 = some (some d) ∧ Qd d) → rIxU X.K x y (HH F M) Q := fun ⟨d, e, q⟩ => by
    obtain ⟨a, ov, e1, g, h1, _⟩ := getD_DGet dj q1 q2 e
    obtain ⟨v, e2, r⟩ := h1 d rfl
    subst e2
    exact .inr ⟨a, v, e1, g, k _ _ F q (Same.refl _) dj (fun _ f _ => f) r⟩
  cases d1 with
  | lst ds =>
    cases d2 with
    | int i =>
      obtain ⟨d, e, q⟩ := hw
      obtain ⟨a, vs, rfl, _, h1, r⟩ := q1.lst_of
      obtain ⟨v, hv, rv⟩ := atI_drl r e
      exact .inl (.inl ⟨a, vs, i, v, rfl, q2.int_of, SqL.of h1, hv, k _ _ F q (Same.refl _) dj (fun _ f _ => f) rv⟩)
    | _ => exact dict hw
  | tup ds =>
    cases d2 with
    | int i =>
      obtain ⟨d, e, q⟩ := hw
      obtain ⟨a, vs, rfl, h1, r⟩ := q1.tup_of
      obtain ⟨v, hv, rv⟩ := atI_drl r e
      exact .inl (.inr (.inl ⟨a, vs, i, v, rfl, q2.int_of, SqT.of (dj.f h1), hv, k _ _ F q (Same.refl _) dj (fun _ f _ => f) rv⟩))
    | _ => exact dict hw
  | scr ds =>
    cases d2 with
    | int i =>
      obtain ⟨d, e, q⟩ := hw
      obtain ⟨a, vs, rfl, h1, r⟩ := q1.scr_of
      obtain ⟨v, hv, rv⟩ := atI_drl r e
      exact .inl (.inl ⟨a, vs, i, v, rfl, q2.int_of, dj.same.seq h1, hv, k _ _ F q (Same.refl _) dj (fun _ f _ => f) rv⟩)
    | _ => exact dict hw
  | str z =>
    cases d2 with
    | int i =>
      obtain ⟨hz, n, e, q⟩ := hw
      exact .inl (.inr (.inr ⟨z, i, n, q1.str_of, q2.int_of, hz, e, k _ _ F q (Same.refl _) dj (fun _ f _ => f) .of_str⟩))
    | _ => exact dict hw
  | non => exact dict (by cases d2 <;> exact hw)
  | bl _ => exact dict (by cases d2 <;> exact hw)
  | int _ => exact dict (by cases d2 <;> exact hw)
  | dk _ _ => exact dict (by cases d2 <;> exact hw)
  | dt _ _ => exact dict (by cases d2 <;> exact hw)
  | ins _ _ _ => exact dict (by cases d2 <;> exact hw)
theorem de_ix {a b' : Expr} {ta tb : TE} {wa wb : WE} {pos : Pos} (hu : X.A.units + 1 < cLine) (ha : DP X a ta wa) (hb : DP X b' tb wb) (hs : PlainIx b') : DE X (.Subscript a b' pos) (tOp (rIxU X.K) ta tb) (wOp dIx wa wb) :=
  ⟨pe_ix (ix_U hu) ha.pe hb.pe hs, snd_op rop_ix ha.sn hb.sn⟩

/-! ### in -/
def flatD : D → Bool
  | .non => true
  | .bl _ => true
  | .int _ => true
  | .str _ => true
  | _ => false
theorem flatD_v {F : Hp} {v : V} : ∀ {d : D}, flatD d = true → Dr c F v d → flatV v = true
  | .non, _, h => by rw [h.non_of]; rfl
  | .bl _, _, h => by rw [h.bl_of]; rfl
  | .int _, _, h => by rw [h.int_of]; rfl
  | .str _, _, h => by rw [h.str_of]; rfl
  | .lst _, e, _ => nomatch e
  | .tup _, e, _ => nomatch e
  | .scr _, e, _ => nomatch e
  | .dk _ _, e, _ => nomatch e
  | .dt _ _, e, _ => nomatch e
  | .ins _ _ _, e, _ => nomatch e
theorem flatDL_v {F : Hp} : ∀ {ds : List D} {vs : List V}, ds.all flatD = true → DrL c F vs ds → vs.all flatV = true
  | [], vs, _, h => by rw [h.nil_iff]; rfl
  | d :: ds, vs, e, h => by
    obtain ⟨v, vr, rfl, q, r⟩ := h.cons_iff
    rw [List.all_cons, Bool.and_eq_true] at e
    rw [List.all_cons, flatD_v e.1 q, flatDL_v e.2 r]; rfl
theorem eqV_D {F : Hp} {u v : V} {d e : D} (h1 : flatD d = true) (h2 : flatD e = true) (q1 : Dr c F u d) (q2 : Dr c F v e) : eqV u v = eqD d e := by
  cases d with
  | non => rw [q1.non_of]; cases e with
    | non => rw [q2.non_of]; simp only [eqD]; rfl
    | bl _ => rw [q2.bl_of]; simp only [eqD]; rfl
    | int _ => rw [q2.int_of]; simp only [eqD]; rfl
    | str _ => rw [q2.str_of]; simp only [eqD]; rfl
    | _ => cases h2
  | bl _ => rw [q1.bl_of]; cases e with
    | non => rw [q2.non_of]; simp only [eqD]; rfl
    | bl _ => rw [q2.bl_of]; simp only [eqD]; rfl
    | int _ => rw [q2.int_of]; simp only [eqD]; rfl
    | str _ => rw [q2.str_of]; simp only [eqD]; rfl
    | _ => cases h2
  | int _ => rw [q1.int_of]; cases e with
    | non => rw [q2.non_of]; simp only [eqD]; rfl
    | bl _ => rw [q2.bl_of]; simp only [eqD]; rfl
    | int _ => rw [q2.int_of]; simp only [eqD]; rfl
    | str _ => rw [q2.str_of]; simp only [eqD]; rfl
    | _ => cases h2
  | str _ => rw [q1.str_of]; cases e with
    | non => rw [q2.non_of]; simp only [eqD]; rfl
    | bl _ => rw [q2.bl_of]; simp only [eqD]; rfl
    | int _ => rw [q2.int_of]; simp only [eqD]; rfl
    | str _ => rw [q2.str_of]; simp only [eqD]; rfl
    | _ => cases h2
  | _ => cases h1
theorem inV_D {F : Hp} {x : V} {d : D} (hd : flatD d = true) (q : Dr c F x d) : ∀ {ds : List D} {vs : List V}, ds.all flatD = true → DrL c F vs ds → inV x vs = ds.any fun z => eqD z d
  | [], vs, _, h => by rw [h.nil_iff]; rfl
  | e :: ds, vs, f, h => by
    obtain ⟨v, vr, rfl, qe, r⟩ := h.cons_iff
    rw [List.all_cons, Bool.and_eq_true] at f
    have ih := inV_D hd q f.2 r
    unfold inV at ih ⊢
    rw [List.any_cons, List.any_cons, ih, eqV_D f.1 hd qe q]
theorem any_py {d : D} (hd : okD d = true) : ∀ (ds : List D), okDL ds = true → (toPyL ds).any (fun z => PyData.eqv z (toPy d)) = ds.any fun z => eqD z d
  | [], _ => by simp only [toPyL, List.any_nil]
  | e :: ds, h => by
    simp only [okDL, Bool.and_eq_true] at h
    simp only [toPyL, List.any_cons, any_py hd ds h.2, eqD_py e d h.1 hd]
def rInDict (g : Bool → Bool) : R2 := fun x y H Q => ∃ a o, y = .ref a ∧ DGet H a x o ∧ Q (.bl (g o.isSome)) H
theorem op_inDict (hu : X.A.units + 1 < cLine) : OpR X (compareOp .In) (rInDict id) := by
  intro pins s σ H x y v u Q I rx ry h
  obtain ⟨a, o, rfl, g, q⟩ := h
  cases ry
  exact d_in hu I g rx fun s' I' => ⟨.bl _, H, I', rfl, q⟩
theorem op_notInDict (hu : X.A.units + 1 < cLine) : OpR X (compareOp .NotIn) (rInDict not) := by
  intro pins s σ H x y v u Q I rx ry h
  obtain ⟨a, o, rfl, g, q⟩ := h
  cases ry
  exact d_notIn hu I g rx fun s' I' => ⟨.bl _, H, I', rfl, q⟩
/-- x in a list, a tuple, a dict, a text -/
def dInB (g : Bool → Bool) : D → D → (D → Prop) → Prop
  | x, .lst ds, Q => ((flatD x = true ∧ ds.all flatD = true) ∨ (shD x ∧ shD (.lst ds))) ∧ Q (.bl (g (ds.any fun z => eqD z x)))
  | x, .tup ds, Q => (flatD x = true ∧ ds.all flatD = true) ∧ Q (.bl (g (ds.any fun z => eqD z x)))
  | .str s, .str z, Q => ∃ n, s = ⟨#[n]⟩ ∧ Q (.bl (g (decide (n ∈ z.cps.toList))))
  | x, y, Q => ∃ o, getD' y x = some o ∧ Q (.bl (g o.isSome))
def rInG (g : Bool → Bool) (rf rd : R2) : R2 := fun x y H Q => rf x y H Q ∨ rd x y H Q ∨ rInDict g x y H Q ∨ (fun x y H Q => ∃ (n : Nat) (z : Str), x = .str ⟨#[n]⟩ ∧ y = .str z ∧ Q (.bl (g (decide (n ∈ z.cps.toList)))) H) x y H Q
theorem rop_inG {g : Bool → Bool} {rf rd : R2} (hf : ∀ (x : V) (p : Addr) (xs : List V) (H : Hp) (Q : VK), (SqL X.K H p xs ∨ SqT X.K H p xs) → flatV x = true → xs.all flatV = true → Q (.bl (g (inV x xs))) H → rf x (.ref p) H Q)
    (hd : ∀ (x y : V) (H : Hp) (Q : VK) d ds, Dp X.K H x d → Dp X.K H y (.list ds) → SeqAt.shaped d = true → SeqAt.shaped (.list ds) = true → Q (.bl (g (ds.any fun z => PyData.eqv z d))) H → rd x y H Q) : Rop (cy X) (rInG g rf rd) (dInB g) := fun {b F M x y d1 d2} Qd Q dj q1 q2 hw k => by
  have fin : ∀ {t : Bool}, Qd (.bl t) → Q (.bl t) (HH F M) := fun q => k _ _ F q (Same.refl _) dj (fun _ f _ => f) .of_bl
  have dict : (∃ o, getD' d2 d1 = some o ∧ Qd (.bl (g o.isSome))) → rInG g rf rd x y (HH F M) Q := fun ⟨o, e, q⟩ => by
    obtain ⟨a, ov, e1, g1, h1, h2⟩ := getD_DGet dj q2 q1 e
    have es : o.isSome = ov.isSome := by
      cases o with
      | none => rw [h2 rfl]; rfl
      | some z => obtain ⟨v, hv, _⟩ := h1 z rfl; rw [hv]; rfl
    exact .inr (.inr (.inl ⟨a, ov, e1, g1, by rw [← es]; exact fin q⟩))
  have flat : ∀ {a : Addr} {vs : List V} {ds : List D}, y = .ref a → (SqL X.K (HH F M) a vs ∨ SqT X.K (HH F M) a vs) → DrL (cy X) F vs ds → flatD d1 = true → ds.all flatD = true → Qd (.bl (g (ds.any fun z => eqD z d1))) → rInG g rf rd x y (HH F M) Q := fun {a vs ds} e hs r f1 f2 q => by
    subst e
    have q1' : Dr (cy X) F x d1 := by cases d1 <;> first | exact q1 | cases f1
    exact .inl (hf _ _ _ _ _ hs (flatD_v f1 q1') (flatDL_v f2 r) (by rw [inV_D f1 q1' f2 r]; exact fin q))
  cases d2 with
  | lst ds =>
    have hw : ((flatD d1 = true ∧ ds.all flatD = true) ∨ (shD d1 ∧ shD (.lst ds))) ∧ Qd (.bl (g (ds.any fun z => eqD z d1))) := by cases d1 <;> exact hw
    obtain ⟨hc, q⟩ := hw
    obtain ⟨a, vs, e, _, h1, r⟩ := q2.lst_of
    rcases hc with ⟨f1, f2⟩ | ⟨s1, s2⟩
    · exact flat e (.inl (SqL.of h1)) r f1 f2 q
    · have ok2 : okDL ds = true := by simpa only [okD] using s2.1
      refine .inr (.inl (hd _ _ _ _ (toPy d1) (toPyL ds) (q1.dp dj s1.1) ?_ s1.shaped ?_ ?_))
      · have := q2.dp (K := X.K) dj s2.1; rwa [toPy] at this
      · have := s2.shaped; rwa [toPy] at this
      · rw [any_py s1.1 ds ok2]; exact fin q
  | tup ds =>
    have hw : (flatD d1 = true ∧ ds.all flatD = true) ∧ Qd (.bl (g (ds.any fun z => eqD z d1))) := by cases d1 <;> exact hw
    obtain ⟨⟨f1, f2⟩, q⟩ := hw
    obtain ⟨a, vs, e, h1, r⟩ := q2.tup_of
    exact flat e (.inr (SqT.of (dj.f h1))) r f1 f2 q
  | str z =>
    cases d1 with
    | str s =>
      obtain ⟨n, e, q⟩ := hw
      subst e
      exact .inr (.inr (.inr ⟨n, z, q1.str_of, q2.str_of, fin q⟩))
    | _ => exact dict hw
  | non => exact dict (by cases d1 <;> exact hw)
  | bl _ => exact dict (by cases d1 <;> exact hw)
  | int _ => exact dict (by cases d1 <;> exact hw)
  | scr _ => exact dict (by cases d1 <;> exact hw)
  | dk _ _ => exact dict (by cases d1 <;> exact hw)
  | dt _ _ => exact dict (by cases d1 <;> exact hw)
  | ins _ _ _ => exact dict (by cases d1 <;> exact hw)
abbrev dIn := dInB id
abbrev dNotIn := dInB not
def rInU (K : PySem.W.Frag) : R2 := rInG id (rIn K false) (rInD K)
def rNotInU (K : PySem.W.Frag) : R2 := rInG not (rIn K true) (rNotInD K)
theorem op_inU (hu : X.A.units + 65 < cLine) : OpR X (compareOp .In) (rInU X.K) := OpR.or op_in_seq (OpR.or (op_inD hu) (OpR.or (op_inDict (by omega)) op_in_sign))
theorem op_notInU (hu : X.A.units + 65 < cLine) : OpR X (compareOp .NotIn) (rNotInU X.K) := OpR.or op_notIn_seq (OpR.or (op_notInD hu) (OpR.or (op_notInDict (by omega)) op_notIn_sign))
theorem rop_in : Rop (cy X) (rInU X.K) dIn := rop_inG (g := id) (fun x p xs H Q h f1 f2 q => ⟨p, xs, rfl, h, f1, f2, by rw [if_neg Bool.false_ne_true]; exact q⟩) (fun x y H Q d ds a b s t q => ⟨d, ds, a, b, s, t, q⟩)
theorem rop_notIn : Rop (cy X) (rNotInU X.K) dNotIn := rop_inG (g := not) (fun x p xs H Q h f1 f2 q => ⟨p, xs, rfl, h, f1, f2, by rw [if_pos rfl]; exact q⟩) (fun x y H Q d ds a b s t q => ⟨d, ds, a, b, s, t, q⟩)
end
end DL

/-! Defs that use repr: they are called where no repr is under way. The law's own end. -/
namespace DL
open PySem PySem.Spec PyProof.Rows L2

/-- as FnOk, where no repr is under way; nothing is raised -/
structure FnG (P : Program) (w : World) (K : PySem.W.Frag) (mg : Str → Option Value) (base : Heap) (k : Nat) (f : Addr) (fd : FuncData) (ps : List Str) (sp : Sp) : Prop where
  len : ∀ vs H Q E, sp vs H Q E → vs.length = ps.length
  run : ∀ (A : Around) (outer : List Env) (s : Shared) (H : Hp) (args : Args) (us : List Value) (vs : List V) (Q : VK),
    Room k A → A.guards = some [] → Env0 P w K mg base A outer s H → BindsTo s fd args (ps.zip us) → Vals vs us → sp vs H Q E0 →
    codeAny (model P w) A (.call (.ref f) args) (fun r s' => ∃ u, r = .ok (.ret u) ∧ CE outer P w H s Q u s') s
theorem FnG.of {P : Program} {w : World} {K : PySem.W.Frag} {mg : Str → Option Value} {base : Heap} {k : Nat} {f : Addr} {fd : FuncData} {ps : List Str} {sp : Sp} (h : FnOk P w K mg base CX0 k f fd ps sp) : FnG P w K mg base k f fd ps sp := by
  refine ⟨h.len, fun A outer s H args us vs Q hr _ e0 hb hv hs => ?_⟩
  refine codeAny_mono (h.run A outer s H args us vs Q E0 hr e0 hb hv hs) fun r s' q => ?_
  match r, q with
  | .ok (.ret u), q => exact ⟨u, rfl, q⟩
theorem FnG.mono {P : Program} {w : World} {K : PySem.W.Frag} {mg : Str → Option Value} {base : Heap} {j k : Nat} {f : Addr} {fd : FuncData} {ps : List Str} {sp : Sp} (h : FnG P w K mg base j f fd ps sp) (hjk : j ≤ k) : FnG P w K mg base k f fd ps sp :=
  ⟨h.len, fun A outer s H args us vs Q hr => h.run A outer s H args us vs Q (hr.mono hjk)⟩

section
variable {P : Program} {w : World} {K : PySem.W.Frag} {mg : Str → Option Value} {base : Heap}
/-- a def of the text by its body, no repr under way -/
theorem fnG_of {x qual : Str} {st : Stmt} {f : Addr} {fd : FuncData} {N ps : List Str} {k : Nat} {sp : Sp} (F : Fun K x qual st f fd) (S : FnScope N ps (defScope st)) (len : ∀ vs H Q E, sp vs H Q E → vs.length = ps.length)
    (body : ∀ (cdv : Value) (A : Around) (outer : List Env) (s : Shared) (H : Hp) (vs : List V) (Q : VK), Room k (A.deeper (envOfC qual (defScope st) s.heap.objs.size f cdv)) → (A.deeper (envOfC qual (defScope st) s.heap.objs.size f cdv)).guards = some [] → sp vs H Q E0 →
      ∃ t, PSs (cxOf CX0 P w K mg base N qual (defScope st) f cdv A outer s H E0).nox (defBody st) t ∧ t { nx := fun _ H' => Q .non H', rt := Q } (L2.start N vs) H) : FnG P w K mg base (k + 1) f fd ps sp := by
  obtain ⟨oc, od, kV, doc, pm, an, cdv, ct, osl, rfl, look, hcode⟩ := F.ex
  refine ⟨len, fun A outer s H args us vs Q hr hgd e0 hb rv hsp => ?_⟩
  have hlen := len vs H Q E0 hsp
  have kin : K.In s.heap := e0.mod.kin.keeps fun y o q => (e0.bs y o q).1
  have lim : s.heap.NoLimit := e0.mod.nolimit.keeps fun y o q => (e0.bs y o q).1
  have kinds : ∀ y ∈ ps.zip us, (defScope st).names.lookup y.1 = some .local ∨
      ((defScope st).names.lookup y.1 = some .cell ∧ ((cellsFrom (s.heap.objs.size + 1) (defScope st).names []).lookup y.1).isSome = true) := by
    rintro ⟨n, v⟩ hy
    have hn := (List.of_mem_zip hy).1
    exact (S.par n hn).elim (fun q => .inl q) fun q => .inr ⟨q, PySem.W.cellsFrom_some _ _ _ (.inl q)⟩
  refine codeAny_call_function hr.depth (kin _ _ look) rfl S.co S.gen rfl
    (PySem.W.codeRec_of kin hcode) (hb _ _ _ _ ?_)
  refine wpAny_newFunctionEnv_cells S.kind kinds
    fun env he s1 x => ?_
  subst he
  refine ⟨lim.keeps x.toInCall.keep, codeAny_func ?_⟩
  obtain ⟨t, ht, hq⟩ := body cdv A outer s H vs Q (hr.deeper _) hgd hsp
  have I0 := inv_start (CX := CX0) (E := E0) (P := P) (w := w) (mg := mg) (base := base) (f := f) (cd := cdv) (qual := qual) (A := A) (outer := outer) S hr.hd e0 hlen rv x
  refine wpAny_mono (ht.run [] s1 _ H _ (I0.wish _) hq) (fun fl s' hs => ?_)
    fun _ _ z => z.elim
  match fl, hs with
  | .ret u, ⟨v, σ', H', J, r, q⟩ => exact ⟨u, rfl, v, H', J.os, J.bare, J.base, J.hok, r, q⟩
  | .next, ⟨σ', H', J, q⟩ => exact ⟨.none, rfl, .non, H', J.os, J.bare, J.base, J.hok, rfl, q⟩
  | .brk, ⟨_, _, _, q⟩ => exact q.elim
  | .cont, ⟨_, _, _, q⟩ => exact q.elim
end
section
variable {X : Cx} {k : Nat} {f : Addr} {fd : FuncData} {ps : List Str} {sp : Sp} {x : Str} {p pos : Pos} {e : Expr} {es : List Expr} {t : TA}
theorem peG_call (G : FnG X.prog X.w X.K X.mg X.base k f fd ps sp) (hr : Room k X.A) (hgd : X.A.guards = some []) (hg : Gl X x) (hm : X.mg x = some (.ref f)) (hk : PySem.W.keepIn X.K (.ref f) = true) (hb : Binds X.K fd ps [])
    (ha : PA X (e :: es) t) (hdb : (x == ("__debug__" : Str)) = false := by decide) (he : starEach (e :: es) X.env = (false, eval e X.env) :: starEach es X.env := by rfl) (hpl : (backTo pos (starEach es X.env)).any (·.1) = false := by rfl) :
    PE X (.Call (.Name x p) (e :: es) [] pos) (tCall sp [] E0 t) := by
  refine ⟨fun pins s σ H Q I h => wpAny_Call_Name_kw (ld_glob I hg hm ?_ hdb)⟩
  refine PySem.W.callWith_K (h₀ := X.base) I.ok.mod.kin hk
    (thn (ha.run pos pins s σ H _ I h) fun us s1 ⟨vs, H1, I1, r, q⟩ => ⟨I1.kIn, ?_⟩) he hpl
  have q : sp (vs ++ []) H1 Q E0 := q
  rw [List.append_nil] at q
  have hl : (us ++ []).length = ps.length := by
    rw [List.append_nil, ← r.length]
    exact G.len _ _ _ _ q
  have hb1 := hb s1 us I1.kIn hl
  rw [List.append_nil] at hb1
  refine wpAny_call (codeAny_mono (G.run X.A X.stack s1 H1 ⟨us, []⟩ us vs Q hr hgd I1.env0 hb1 r q) ?_)
  rintro res s' ⟨u, rfl, hq⟩
  exact I1.after hq
theorem de_callG {wt : WAs} {wf : WFn} (G : FnG X.prog X.w X.K X.mg X.base k f fd ps (spF (cy X) wf)) (hr : Room k X.A) (hgd : X.A.guards = some []) (hg : Gl X x) (hm : X.mg x = some (.ref f)) (hk : PySem.W.keepIn X.K (.ref f) = true) (hb : Binds X.K fd ps [])
    (ha : DAs X (e :: es) t wt) (hdb : (x == ("__debug__" : Str)) = false := by decide) (he : starEach (e :: es) X.env = (false, eval e X.env) :: starEach es X.env := by rfl) (hpl : (backTo pos (starEach es X.env)).any (·.1) = false := by rfl) :
    DE X (.Call (.Name x p) (e :: es) [] pos) (tCall (spF (cy X) wf) [] E0 t) (wCall wf wt) := ⟨peG_call G hr hgd hg hm hk hb ha.pe hdb he hpl, snd_call ha.sn⟩
end
section
variable {P : Program} {w : World} {K : PySem.W.Frag} {mg : Str → Option Value} {base : Heap}
/-- what a body's reading over data asks at its start -/
theorem start_rel {N : List Str} {b : Option Addr} {F M : Hp} {as : List Sl} {vs : List V} (dj : Dj F M) (bx : ∀ a, b = some a → Box F M a) (ar : ArgsD ⟨K, mg⟩ b F as vs) : Rel ⟨K, mg⟩ b (startD N as) (L2.start N vs) F M M := by
  refine ⟨dj, ?_, bx⟩
  unfold startD L2.start
  rw [ar.length]
  exact ar.rel
theorem fin_rt {c : Cy} {b : Option Addr} {F M : Hp} {Q : VK} {Qd : D → Prop} (hq : ∀ d v F' M', Qd d → Same F F' → Dj F' M' → (∀ a, b = some a → Box F' M' a) → MR b M M' → Dr c F' v d → Q v (HH F' M')) :
    Fin c b F M { nx := fun _ => Qd .non, rt := Qd } { nx := fun _ H' => Q .non H', rt := Q } := by
  refine ⟨fun ρ' σ' F' M' M0' e s' R' m' => ?_, fun _ _ _ _ _ z => z.elim, fun _ _ _ _ _ z => z.elim, fun d v F' M0' e s' dj' bx' m' r => hq d v F' M0' e s' dj' bx' m' r⟩
  obtain ⟨F2, s2, eh, dj2⟩ := R'.env.frzAll R'.dj
  show Q .non (HH F' M')
  rw [eh]
  exact hq .non .non F2 M0' e (s'.trans s2) dj2 (fun a z => (R'.box a z).leD (.of s2)) m' .of_non
theorem fun_okG {x qual : Str} {st : Stmt} {f : Addr} {fd : FuncData} {N ps : List Str} {k : Nat} {wf : WFn} (F : Fun K x qual st f fd) (S : FnScope N ps (defScope st)) (len : ∀ as Qd, wf as Qd → as.length = ps.length)
    (hbody : ∀ (cdv : Value) (A : Around) (outer : List Env) (s : Shared) (H : Hp), Room k (A.deeper (envOfC qual (defScope st) s.heap.objs.size f cdv)) → (A.deeper (envOfC qual (defScope st) s.heap.objs.size f cdv)).guards = some [] →
      ∃ t ws, DSs (cxOf CX0 P w K mg base N qual (defScope st) f cdv A outer s H E0).nox (defBody st) t ws ∧ ∀ as Qd, wf as Qd → ws (startD N as) { nx := fun _ => Qd .non, rt := Qd }) :
    FnG P w K mg base (k + 1) f fd ps (spF ⟨K, mg⟩ wf) := by
  refine fnG_of F S (fun vs H Q E h => ?_) (fun cdv A outer s H vs Q hr hgd h => ?_)
  · obtain ⟨b, F, M, as, Qd, _, _, _, ar, hw, _⟩ := h
    rw [ar.length, len as Qd hw]
  · obtain ⟨b, F, M, as, Qd, rfl, dj, bx, ar, hw, hq⟩ := h
    obtain ⟨t, ws, hd, hp⟩ := hbody cdv A outer s (HH F M) hr hgd
    exact ⟨t, hd.ps, hd.sn (start_rel dj bx ar) _ _ (hp as Qd hw) (fin_rt hq)⟩
end

/-! ### the law's end -/
/-- the law's promise: a list of at most 63 ints, True -/
def spLaw (K : PySem.W.Frag) : Sp := fun vs H Q _ => ∃ (a : Addr) (ns : List Int), vs = [.ref a] ∧ SqL K H a (ns.map V.int) ∧ ns.length ≤ 63 ∧ ∀ H', Q (.bl true) H'
theorem ints_vals {ns : List Int} : ∀ {us : List Value}, IntsAre us ns → Vals (ns.map V.int) us := by
  induction ns with
  | nil => intro us h; cases h; exact .nil
  | cons n ns ih => intro us h; cases h with | cons _ t r => exact .cons ⟨t, rfl⟩ (ih r)
theorem lawG_call {P : Program} {w : World} {K : PySem.W.Frag} {mg mb : Str → Option Value} {k : Nat} {fa a : Addr} {fd : FuncData} {x : Str} {s₁ : Shared} {vs : List Value} {ns : List Int}
    (KX : K.In s₁.heap) (hns : s₁.heap.Ns mainGlobals mg) (hb : s₁.heap.Ns builtinsNs mb) (hbb : ∀ x : Str, x ≠ "__name__" → mb x = bootBuiltins x) (hlim : s₁.heap.NoLimit) (hg : s₁.gens = #[])
    (ha : s₁.heap.get? a = some { cls := .type "list", data := .seq vs.toArray }) (hi : IntsAre vs ns) (hl : ns.length ≤ 63) (hr : Room k callerA)
    (F : ∀ base : Heap, K.In base → base.Ns mainGlobals mg → FnG P w K mg base k fa fd [x] (spLaw K)) (hbind : ∀ (s : Shared) (u : Value), BindsTo s fd ⟨[u], []⟩ [(x, u)]) :
    codeAny (model P w) callerA (.call (.ref fa) ⟨[.ref a], []⟩) (fun r s' => r = .ok (.ret (.bool true)) ∧ OldK s₁.heap s'.heap ∧ s'.os = s₁.os ∧ AllBare s'.gens) s₁ := by
  have rv := ints_vals hi
  have hz : ns.length ≤ sizeLine := Nat.le_trans hl (by decide)
  -- what may be tracked: the script alone
  have main : ∀ H : Hp, (∀ b u, H b = some u → b = a ∧ ∃ o xs, u = .frz o (.lst xs)) → SqL K H a (ns.map V.int) → HOk P w H s₁.heap → ((H a).isSome = true → K.lookup a = none) →
      codeAny (model P w) callerA (.call (.ref fa) ⟨[.ref a], []⟩) (fun r s' => r = .ok (.ret (.bool true)) ∧ OldK s₁.heap s'.heap ∧ s'.os = s₁.os ∧ AllBare s'.gens) s₁ := by
    intro H only hS hok hK
    have isDict : ∀ {b : Addr} {o : Obj} {es : Array DictEntry} {ep : Nat}, s₁.heap.get? b = some o → o.data = .dict es ep → H b = none := by
      intro b o es ep e d
      cases q : H b with
      | none => rfl
      | some u =>
        rw [(only b u q).1, ha] at e
        cases e
        exact absurd (show Data.seq vs.toArray _ = Data.dict es ep from d) (fun z => nomatch z)
    have ns2 : ∀ {b : Addr} {m : Str → Option Value}, s₁.heap.Ns b m → (hidT s₁.heap H).Ns b m := by
      rintro b m ⟨o, es, ep, e, d, r⟩
      exact ⟨o, es, ep, hidT_get e (isDict e d), d, r⟩
    have kin2 : K.In (hidT s₁.heap H) := by
      intro b o e
      refine hidT_get (KX b o e) ?_
      cases q : H b with
      | none => rfl
      | some u =>
        have eb := (only b u q).1
        rw [eb] at q e
        rw [hK (by rw [q]; rfl)] at e
        cases e
    have hM : Mod K mg (hidT s₁.heap H) := by
      obtain ⟨mc, l1, l2⟩ := hlim
      exact ⟨kin2, ns2 hns, ⟨mb, ns2 hb, hbb⟩, ⟨mc, ns2 l1, l2⟩⟩
    have noFr : ∀ b : Addr, b ∉ frs ([] : List Env) := fun b z => by cases z
    have e0 : Env0 P w K mg (hidT s₁.heap H) callerA [] s₁ H :=
      ⟨rfl, hM, fun b o e => of_hidT e, Nat.le_of_eq (hidT_size _ _), trivial, fun b z => absurd z (noFr b), hok, .of_eq hg⟩
    refine codeAny_mono ((F _ kin2 (ns2 hns)).run callerA [] s₁ H ⟨[.ref a], []⟩ [.ref a] [.ref a] (fun v _ => v = .bl true) hr rfl e0 (hbind s₁ (.ref a)) (.cons rfl .nil) ⟨a, ns, rfl, hS, hl, fun _ => rfl⟩) ?_
    rintro r s' ⟨u, rfl, v, H', os, bare, un, hok', r', q⟩
    have q : v = .bl true := q
    subst q
    have eu : u = Value.bool true := r'
    subst eu
    refine ⟨rfl, OldK.of_keep fun b o e => ?_, os, bare⟩
    cases q : H b with
    | none => exact un.keep b o e q (noFr b) (by simp)
    | some u =>
      obtain ⟨_, ob, xs, rfl⟩ := only b u q
      have k1 := (hok b _ q).1
      have k2 := (hok' b _ (un.frzs b ob _ q)).1
      rw [e] at k1
      cases k1
      exact k2
  cases hk : K.lookup a with
  | some o =>
    have e := KX a o hk
    rw [ha] at e
    cases e
    refine main (fun _ => none) (fun b u z => nomatch z) ?_ (fun b u z => nomatch z) (fun z => nomatch z)
    refine .inr ⟨_, vs.toArray, _, hk, rfl, rfl, rfl, ?_, by simpa using rv⟩
    rw [List.size_toArray, ← rv.length, List.length_map]
    exact hz
  | none =>
    refine main (upd (fun _ => none) a (.frz { cls := .type "list", data := .seq vs.toArray } (.lst (ns.map V.int)))) (fun b u z => ?_) (.inl (.inr ⟨_, upd_same⟩)) (fun b u z => ?_) (fun _ => hk)
    · by_cases e : b = a
      · subst e
        rw [upd_same] at z
        exact ⟨rfl, _, _, (Option.some.inj z).symm⟩
      · rw [upd_ne e] at z; cases z
    · by_cases e : b = a
      · subst e
        rw [upd_same] at z
        cases z
        exact ⟨ha, by rw [List.length_map]; exact hz, vs, _, rv, ha⟩
      · rw [upd_ne e] at z; cases z
theorem walkG {l : PySem.W.OpenLaw} {k : Nat} {q : Program} {loose : List Str} {XP : (Str → Option Value) → Heap → Prop} {YP : World → Heap → Prop} {d : DefRec} {K : Params → PySem.W.Frag} {x : Str}
    (hn : l.most = some 63) (hdf : d.params.defaults = []) (hr : Room k callerA) (hY : ∀ (w : World) (h : Heap), YP w h → (K w.params).In h)
    (F : ∀ (w : World) (mg : Str → Option Value) (fa : Addr) (h : Heap), (K w.params).In h → h.Ns mainGlobals mg → mg d.name = some (.ref fa) →
      ∃ fd : FuncData, (∀ (s : Shared) (u : Value), BindsTo s fd ⟨[u], []⟩ [(x, u)]) ∧
        ∀ base : Heap, (K w.params).In base → base.Ns mainGlobals mg → FnG l.prog w (K w.params) mg base k fa fd [x] (spLaw (K w.params))) :
    PySem.W.WalkO q loose XP YP l.row.toRowW d [] (fun f vs => PySem.call f vs) := by
  refine Att.attach_call hn hdf fun w s₀ s₁ mg mb fa o pm cd doc a vs ns G Y ho hd hcd hmg hobj hints hlen hg => ?_
  have kin := hY w _ Y
  obtain ⟨fd, hb, hF⟩ := F w mg fa _ kin G.T.g hmg
  exact lawG_call kin G.T.g G.T.b G.T.builtins G.T.nolimit hg hobj hints hlen hr hF hb
end DL

/-! Built-ins, methods, own objects that change, the box of digits. -/
namespace DL
open PySem PySem.Spec PyProof.Rows L2

section
variable {c : Cy} {X : Cx} {e a a' : Expr} {te ta tb : TE} {w wa wb : WE} {x : Str} {p pos : Pos}
/-! ### built-ins of one value -/
theorem de_b1 {id : String} {r : List V → Hp → VK → Prop} {wr : D → (D → Prop) → Prop} (hc : CallR X (.builtin id) r) (hr : Ro1 (cy X) (fun x H Q => r [x] H Q) wr) (hg : Gl X x) (hm : X.mg x = none) (hv : bootBuiltins x = some (.builtin id)) (ha : DP X a ta wa)
    (hn : x ≠ "__name__" := by decide) (hdb : (x == ("__debug__" : Str)) = false := by decide) (he : starEach (a :: []) X.env = (false, eval a X.env) :: starEach [] X.env := by rfl) (hpl : (backTo pos (starEach [] X.env)).any (·.1) = false := by rfl) :
    DE X (.Call (.Name x p) [a] [] pos) (tCB r (tCons ta tNil)) (wUn wr wa) := ⟨pe_callB hc hg hm hv (pa_cons ha.pe pa_nil he) hn hdb he hpl, fun {b ρ σ F M M0} R Qd Q hw k => snd_un (c := cy X) hr ha.sn R Qd Q hw k⟩
theorem de_t1 {T : String} {r : List V → Hp → VK → Prop} {wr : D → (D → Prop) → Prop} (hc : CallR X (.type T) r) (hr : Ro1 (cy X) (fun x H Q => r [x] H Q) wr) (hg : Gl X x) (hm : X.mg x = none) (hv : bootBuiltins x = some (.type T)) (ha : DP X a ta wa)
    (hn : x ≠ "__name__" := by decide) (hdb : (x == ("__debug__" : Str)) = false := by decide) (he : starEach (a :: []) X.env = (false, eval a X.env) :: starEach [] X.env := by rfl) (hpl : (backTo pos (starEach [] X.env)).any (·.1) = false := by rfl) :
    DE X (.Call (.Name x p) [a] [] pos) (tCB r (tCons ta tNil)) (wUn wr wa) := ⟨pe_callTy hc hg hm hv (pa_cons ha.pe pa_nil he) hn hdb he hpl, fun {b ρ σ F M M0} R Qd Q hw k => snd_un (c := cy X) hr ha.sn R Qd Q hw k⟩
theorem de_b2 {id : String} {r : List V → Hp → VK → Prop} {wr : D → D → (D → Prop) → Prop} (hc : CallR X (.builtin id) r) (hr : Rop (cy X) (fun x y H Q => r [x, y] H Q) wr) (hg : Gl X x) (hm : X.mg x = none) (hv : bootBuiltins x = some (.builtin id)) (ha : DP X a ta wa) (hb : DP X a' tb wb)
    (hn : x ≠ "__name__" := by decide) (hdb : (x == ("__debug__" : Str)) = false := by decide) (he : starEach (a :: [a']) X.env = (false, eval a X.env) :: starEach [a'] X.env := by rfl) (hpl : (backTo pos (starEach [a'] X.env)).any (·.1) = false := by rfl)
    (he2 : starEach (a' :: []) X.env = (false, eval a' X.env) :: starEach [] X.env := by rfl) :
    DE X (.Call (.Name x p) [a, a'] [] pos) (tCB r (tCons ta (tCons tb tNil))) (wOp wr wa wb) := ⟨pe_callB hc hg hm hv (pa_cons ha.pe (pa_cons hb.pe pa_nil he2) he) hn hdb he hpl, fun {b ρ σ F M M0} R Qd Q hw k => snd_op (c := cy X) hr ha.sn hb.sn R Qd Q hw k⟩
/-- len -/
def dLen : D → (D → Prop) → Prop
  | .lst ds, Q => Q (.int ds.length)
  | .tup ds, Q => Q (.int ds.length)
  | .scr ds, Q => Q (.int ds.length)
  | .str z, Q => z.length ≤ sizeLine ∧ Q (.int z.length)
  | .dk ks _, Q => Q (.int ks.length)
  | _, _ => False
theorem call_lenR : CallR X (.builtin "len") (fun xs H Q => ∃ a kvs, xs = [V.ref a] ∧ Rd H a (.dK kvs) ∧ Q (.int kvs.length) H) := by
  intro pins s σ H xs us Q I r h
  obtain ⟨a, kvs, rfl, ha, q⟩ := h
  obtain ⟨u, rfl, ru⟩ := vals1 r
  cases ru
  exact d_len I ha fun t s' I' => ⟨.int kvs.length, H, I', ⟨t, rfl⟩, q⟩
def rLenU (K : PySem.W.Frag) : List V → Hp → VK → Prop := fun xs H Q => (∃ x n, xs = [x] ∧ LenV K x H n ∧ Q (.int n) H) ∨ ∃ a kvs, xs = [V.ref a] ∧ Rd H a (.dK kvs) ∧ Q (.int kvs.length) H
theorem call_lenU : CallR X (.builtin "len") (rLenU X.K) := CallR.or call_len call_lenR
theorem ro1_len : Ro1 (cy X) (fun x H Q => rLenU X.K [x] H Q) dLen := fun {b F M x d1} Qd Q dj r1 hw k => by
  cases d1 with
  | lst ds =>
    obtain ⟨a, vs, rfl, _, h, r⟩ := r1.lst_of
    exact .inl ⟨_, ds.length, rfl, .inl ⟨vs, SqL.of h, by rw [r.length]⟩, k _ _ F hw (Same.refl _) dj .of_int⟩
  | tup ds =>
    obtain ⟨a, vs, rfl, h, r⟩ := r1.tup_of
    exact .inl ⟨_, ds.length, rfl, .inr ⟨vs, SqT.of (dj.f h), by rw [r.length]⟩, k _ _ F hw (Same.refl _) dj .of_int⟩
  | scr ds =>
    obtain ⟨a, vs, rfl, h, r⟩ := r1.scr_of
    exact .inl ⟨_, ds.length, rfl, .inl ⟨vs, dj.same.seq h, by rw [r.length]⟩, k _ _ F hw (Same.refl _) dj .of_int⟩
  | str z => rw [r1.str_of]; exact .inl ⟨_, z.length, rfl, ⟨hw.1, rfl⟩, k _ _ F hw.2 (Same.refl _) dj .of_int⟩
  | dk ks ds =>
    obtain ⟨a, ps, rfl, _, h, e, r⟩ := r1
    refine .inr ⟨a, ps, rfl, h, ?_⟩
    have el : ps.length = ks.length := by rw [← e, List.length_map]
    rw [el]
    exact k _ _ F hw (Same.refl _) dj .of_int
  | _ => exact hw.elim
/-- int(n), int(flag) -/
def dInt : D → (D → Prop) → Prop
  | .int i, Q => Q (.int i)
  | .bl b, Q => Q (.int (if b then 1 else 0))
  | _, _ => False
theorem ro1_int : Ro1 (cy X) (fun x H Q => (∃ i, [x] = [V.int i] ∧ Q (.int i) H) ∨ ∃ k, [x] = [V.bl k] ∧ Q (.int (if k then 1 else 0)) H) dInt := fun {b F M x d1} Qd Q dj r1 hw k => by
  cases d1 with
  | int i => rw [r1.int_of]; exact .inl ⟨i, rfl, k _ _ F hw (Same.refl _) dj .of_int⟩
  | bl i => rw [r1.bl_of]; exact .inr ⟨i, rfl, k _ _ F hw (Same.refl _) dj .of_int⟩
  | _ => exact hw.elim
/-- sum, max, min of a list of ints -/
def dSum : D → (D → Prop) → Prop
  | .lst ds, Q => ∃ ns : List Int, ds = ns.map D.int ∧ Q (.int ns.sum)
  | _, _ => False
theorem Rk.ints {b : Option Addr} {F M : Hp} {v : V} {ns : List Int} (h : Rk c b F M v (.lst (ns.map D.int))) : ∃ a, v = .ref a ∧ HH F M a = some (.lst (ns.map V.int)) := by
  obtain ⟨a, vs, rfl, _, q, r⟩ := h.lst_of
  rw [r.ints] at q
  exact ⟨a, rfl, q⟩
theorem ro1_sum : Ro1 (cy X) (fun x H Q => rSum X.K [x] H Q) dSum := fun {b F M x d1} Qd Q dj r1 hw k => by
  cases d1 with
  | lst ds =>
    obtain ⟨ns, rfl, q⟩ := hw
    obtain ⟨a, rfl, h⟩ := r1.ints
    exact ⟨a, ns, rfl, SqL.of h, k _ _ F q (Same.refl _) dj .of_int⟩
  | _ => exact hw.elim
def dMaxL : D → (D → Prop) → Prop
  | .lst ds, Q => ∃ ns : List Int, ds = ns.map D.int ∧ 0 < ns.length ∧ ∀ m, m ∈ ns → (∀ y, y ∈ ns → y ≤ m) → Q (.int m)
  | _, _ => False
theorem ro1_maxL : Ro1 (cy X) (fun x H Q => rMax X.K [x] H Q) dMaxL := fun {b F M x d1} Qd Q dj r1 hw k => by
  cases d1 with
  | lst ds =>
    obtain ⟨ns, rfl, hn, q⟩ := hw
    obtain ⟨a, rfl, h⟩ := r1.ints
    exact ⟨a, ns, rfl, SqL.of h, hn, fun m hm hle => k _ _ F (q m hm hle) (Same.refl _) dj .of_int⟩
  | _ => exact hw.elim
def dMinL : D → (D → Prop) → Prop
  | .lst ds, Q => ∃ ns : List Int, ds = ns.map D.int ∧ 0 < ns.length ∧ ∀ m, m ∈ ns → (∀ y, y ∈ ns → m ≤ y) → Q (.int m)
  | _, _ => False
theorem ro1_minL : Ro1 (cy X) (fun x H Q => rMin X.K [x] H Q) dMinL := fun {b F M x d1} Qd Q dj r1 hw k => by
  cases d1 with
  | lst ds =>
    obtain ⟨ns, rfl, hn, q⟩ := hw
    obtain ⟨a, rfl, h⟩ := r1.ints
    exact ⟨a, ns, rfl, SqL.of h, hn, fun m hm hle => k _ _ F (q m hm hle) (Same.refl _) dj .of_int⟩
  | _ => exact hw.elim
def dAny : D → (D → Prop) → Prop
  | .lst ds, Q => ∃ bs : List Bool, ds = bs.map D.bl ∧ Q (.bl (bs.any id))
  | _, _ => False
theorem DrL.bls {F : Hp} : ∀ {ns : List Bool} {vs : List V}, DrL c F vs (ns.map D.bl) → vs = ns.map V.bl
  | [], vs, h => h.nil_iff
  | n :: ns, vs, h => by
    obtain ⟨u, vr, rfl, r, t⟩ := h.cons_iff
    rw [r.bl_of, DrL.bls t]; rfl
theorem ro1_any : Ro1 (cy X) (fun x H Q => rAny X.K [x] H Q) dAny := fun {b F M x d1} Qd Q dj r1 hw k => by
  cases d1 with
  | lst ds =>
    obtain ⟨ns, rfl, q⟩ := hw
    obtain ⟨a, vs, rfl, _, h, r⟩ := r1.lst_of
    rw [r.bls] at h
    exact ⟨a, ns, rfl, SqL.of h, k _ _ F q (Same.refl _) dj .of_bl⟩
  | _ => exact hw.elim
/-- abs, max, min of two -/
def dAbs : D → (D → Prop) → Prop
  | .int i, Q => Q (.int (if i < 0 then -i else i))
  | _, _ => False
theorem ro1_abs : Ro1 c (fun x H Q => ∃ i, [x] = [V.int i] ∧ Q (.int (if i < 0 then -i else i)) H) dAbs := fun {b F M x d1} Qd Q dj r1 hw k => by
  cases d1 with
  | int i => rw [r1.int_of]; exact ⟨i, rfl, k _ _ F hw (Same.refl _) dj .of_int⟩
  | _ => exact hw.elim
abbrev dMax2 := dI2 fun i j => D.int (if j > i then j else i)
abbrev dMin2 := dI2 fun i j => D.int (if j < i then j else i)
theorem rop_max2 : Rop c (fun x y H Q => ∃ i j, [x, y] = [V.int i, V.int j] ∧ Q (.int (if j > i then j else i)) H) dMax2 := fun {b F M x y d1 d2} Qd Q dj r1 r2 hw k => by
  cases d1 with
  | int i =>
    cases d2 with
    | int j => rw [r1.int_of, r2.int_of]; exact ⟨i, j, rfl, k _ _ F hw (Same.refl _) dj (fun _ f _ => f) .of_int⟩
    | _ => exact hw.elim
  | _ => exact hw.elim
theorem rop_min2 : Rop c (fun x y H Q => ∃ i j, [x, y] = [V.int i, V.int j] ∧ Q (.int (if j < i then j else i)) H) dMin2 := fun {b F M x y d1 d2} Qd Q dj r1 r2 hw k => by
  cases d1 with
  | int i =>
    cases d2 with
    | int j => rw [r1.int_of, r2.int_of]; exact ⟨i, j, rfl, k _ _ F hw (Same.refl _) dj (fun _ f _ => f) .of_int⟩
    | _ => exact hw.elim
  | _ => exact hw.elim
/-- ord -/
def dOrd : D → (D → Prop) → Prop
  | .str z, Q => z.length = 1 ∧ Q (.int (z.cps.getD 0 0 : Nat))
  | _, _ => False
theorem ro1_ord : Ro1 c (fun x H Q => ∃ z, [x] = [V.str z] ∧ z.length = 1 ∧ Q (.int (z.cps.getD 0 0 : Nat)) H) dOrd := fun {b F M x d1} Qd Q dj r1 hw k => by
  cases d1 with
  | str z => rw [r1.str_of]; exact ⟨z, rfl, hw.1, k _ _ F hw.2 (Same.refl _) dj .of_int⟩
  | _ => exact hw.elim
/-- str(n) -/
def dStrI : D → (D → Prop) → Prop
  | .int i, Q => i.natAbs.log2 < 1920 ∧ Q (.str (toString i))
  | .str s, Q => Q (.str s)
  | _, _ => False
theorem ro1_strI : Ro1 c (fun x H Q => (∃ i, [x] = [V.int i] ∧ i.natAbs.log2 < 1920 ∧ Q (.str (toString i)) H) ∨ ∃ s, [x] = [V.str s] ∧ Q (.str s) H) dStrI := fun {b F M x d1} Qd Q dj r1 hw k => by
  cases d1 with
  | int i => rw [r1.int_of]; exact .inl ⟨i, rfl, hw.1, k _ _ F hw.2 (Same.refl _) dj .of_str⟩
  | str i => rw [r1.str_of]; exact .inr ⟨i, rfl, k _ _ F hw (Same.refl _) dj .of_str⟩
  | _ => exact hw.elim
theorem call_strU : CallR X (.type "str") (fun xs H Q => (∃ i, xs = [V.int i] ∧ i.natAbs.log2 < 1920 ∧ Q (.str (toString i)) H) ∨ ∃ s, xs = [V.str s] ∧ Q (.str s) H) := CallR.or call_str_int SkE.call_str_str
/-- a new list, frozen -/
theorem new_lst {F M : Hp} {vs : List V} {ds : List D} {p : Addr} {Q : VK} {Qd : D → Prop} (dj : Dj F M) (r : DrL c F vs ds) (hp : HH F M p = none) (q : Qd (.lst ds)) (k : ∀ d v F', Qd d → Same F F' → Dj F' M → Dr c F' v d → Q v (HH F' M)) :
    Q (.ref p) (upd (HH F M) p (.lst vs)) := by
  obtain ⟨hf, hm⟩ := hh_none hp
  rw [hh_updF hm]
  refine k _ _ _ q (Same.updF hf) (dj.updF hm) ?_
  simp only [Dr]
  exact ⟨p, vs, rfl, upd_same, r.up (Same.updF hf)⟩
theorem new_tup {F M : Hp} {vs : List V} {ds : List D} {p : Addr} {Q : VK} {Qd : D → Prop} (dj : Dj F M) (r : DrL c F vs ds) (hp : HH F M p = none) (q : Qd (.tup ds)) (k : ∀ d v F', Qd d → Same F F' → Dj F' M → Dr c F' v d → Q v (HH F' M)) :
    Q (.ref p) (upd (HH F M) p (.tup vs)) := by
  obtain ⟨hf, hm⟩ := hh_none hp
  rw [hh_updF hm]
  refine k _ _ _ q (Same.updF hf) (dj.updF hm) ?_
  simp only [Dr]
  exact ⟨p, vs, rfl, upd_same, r.up (Same.updF hf)⟩
/-- list(x): a list or tuple -/
def dList : D → (D → Prop) → Prop
  | .lst ds, Q => Q (.lst ds)
  | .tup ds, Q => Q (.lst ds)
  | .scr ds, Q => Q (.lst ds)
  | _, _ => False
theorem ro1_list : Ro1 (cy X) (fun x H Q => ∃ p ys, [x] = [V.ref p] ∧ (SqL X.K H p ys ∨ SqT X.K H p ys) ∧ ∀ l, H l = none → Q (.ref l) (upd H l (.lst ys))) dList := fun {b F M x d1} Qd Q dj r1 hw k => by
  cases d1 with
  | lst ds =>
    obtain ⟨a, vs, rfl, _, h, r⟩ := r1.lst_of
    exact ⟨a, vs, rfl, .inl (SqL.of h), fun l hl => new_lst dj r hl hw k⟩
  | tup ds =>
    obtain ⟨a, vs, rfl, h, r⟩ := r1.tup_of
    exact ⟨a, vs, rfl, .inr (SqT.of (dj.f h)), fun l hl => new_lst dj r hl hw k⟩
  | scr ds =>
    obtain ⟨a, vs, rfl, h, r⟩ := r1.scr_of
    exact ⟨a, vs, rfl, .inl (dj.same.seq h), fun l hl => new_lst dj r hl hw k⟩
  | _ => exact hw.elim
/-- sorted of ints -/
def dSortI : D → (D → Prop) → Prop
  | .lst ds, Q => ∃ ns : List Int, ds = ns.map D.int ∧ ∀ ms : List Int, ms.Perm ns → ms.Pairwise (· ≤ ·) → Q (.lst (ms.map D.int))
  | _, _ => False
theorem ro1_sortI : Ro1 (cy X) (fun x H Q => rSortedI X.K [x] H Q) dSortI := fun {b F M x d1} Qd Q dj r1 hw k => by
  cases d1 with
  | lst ds =>
    obtain ⟨ns, rfl, q⟩ := hw
    obtain ⟨a, rfl, h⟩ := r1.ints
    exact ⟨a, ns, rfl, SqL.of h, fun ms p hp hs hn => new_lst (c := cy X) dj (DrL.of_ints ms) hn (q ms hp hs) k⟩
  | _ => exact hw.elim
/-- repr, where none is under way -/
def rRepr (K : PySem.W.Frag) : List V → Hp → VK → Prop := fun xs H Q => ∃ x d, xs = [x] ∧ Dp K H x d ∧ d.showable = true ∧ d.hasDict = false ∧ d.depth ≤ 60 ∧ d.shown.length ≤ sizeLine ∧ Q (.str d.shown) H
theorem call_repr (hgd : X.A.guards = some []) (hu : X.A.units + 64 < cLine) : CallR X (.builtin "repr") (rRepr X.K) := by
  intro pins s σ H xs us Q I r h
  obtain ⟨x, d, rfl, hd, hs, hn, hdp, hz, q⟩ := h
  obtain ⟨u, rfl, ru⟩ := vals1 r
  have fin : ∀ (h' : Heap) (t : Tok) (tk : Nat), (∀ b o, s.heap.get? b = some o → h'.get? b = some o) → EP X pins σ Q (.str d.shown t) { s with heap := h', toks := tk } := fun h' t tk hk => ⟨.str d.shown, H, I.kept hk, ⟨t, rfl⟩, q⟩
  cases hd with
  | non => cases ru; exact PySem.P.repr_of_none (fin _ _ _ fun _ _ e => e)
  | bl b => cases ru; exact PySem.P.repr_of_bool (fin _ _ _ fun _ _ e => e)
  | int i =>
    obtain ⟨t, rfl⟩ := ru
    exact PySem.P.repr_of_int (by simpa [PyData.showable] using hs) (fin _ _ _ fun _ _ e => e)
  | str z =>
    obtain ⟨t, rfl⟩ := ru
    exact PySem.P.repr_of_str (fin _ _ _ fun _ _ e => e) (by simpa only [PyData.shown] using hz)
  | lst h1 h2 =>
    obtain ⟨as, hr⟩ := Dp.reads I _ _ u (.lst h1 h2) ru
    cases ru
    exact repr_of_reads' hr hs (PyData.noDict_hsm hn) hgd (by omega) (fun _ _ e => e) (fun h' t tk hk => fin h' t tk hk) hz
  | tup h1 h2 =>
    obtain ⟨as, hr⟩ := Dp.reads I _ _ u (.tup h1 h2) ru
    cases ru
    exact repr_of_reads' hr hs (PyData.noDict_hsm hn) hgd (by omega) (fun _ _ e => e) (fun h' t tk hk => fin h' t tk hk) hz
/-- data that repr shows -/
structure Shw (d : D) : Prop where
  ok : okD d = true
  dep : depD d ≤ 60
  sh : (toPy d).showable = true
  sz : (toPy d).shown.length ≤ sizeLine
def dRepr : D → (D → Prop) → Prop := fun d Q => Shw d ∧ Q (.str (toPy d).shown)
theorem ro1_repr : Ro1 (cy X) (fun x H Q => rRepr X.K [x] H Q) dRepr := fun {b F M x d1} Qd Q dj r1 hw k => by
  obtain ⟨s, q⟩ := hw
  exact ⟨x, toPy d1, rfl, r1.dp dj s.ok, s.sh, PyData.hasDict_of_canLay _ (okD_lay d1 s.ok), by rw [depD_py d1 s.ok]; exact s.dep, s.sz, k _ _ F q (Same.refl _) dj .of_str⟩

/-! ### methods of texts -/
def dJoin : D → D → (D → Prop) → Prop
  | .str s, .lst ds, Q => ∃ ys : List Str, ds = ys.map D.str ∧ (ys.map (·.length)).sum + ys.length * s.length ≤ 16777216 ∧ Q (.str (Txt.join s ys))
  | _, _, _ => False
theorem DrL.strs {F : Hp} : ∀ {ns : List Str} {vs : List V}, DrL c F vs (ns.map D.str) → vs = ns.map V.str
  | [], vs, h => h.nil_iff
  | n :: ns, vs, h => by
    obtain ⟨u, vr, rfl, r, t⟩ := h.cons_iff
    rw [r.str_of, DrL.strs t]; rfl
theorem DrL.of_strs {F : Hp} : ∀ (ns : List Str), DrL c F (ns.map V.str) (ns.map D.str)
  | [] => .nil
  | n :: ns => .cons .of_str (DrL.of_strs ns)
theorem snd_m1 {r : V → List V → Hp → VK → Prop} {wr : D → D → (D → Prop) → Prop} (hs : ∀ d1 d2 Qd, wr d1 d2 Qd → ∃ s, d1 = .str s) (hr : Rop c (fun x y H Q => r x [y] H Q) wr) (ha : Snp c ta wa) (hb : Snp c tb wb)
    : Snd c (tM1 r ta tb) (fun ρ Q => wa ρ fun d1 ρ1 => (∃ s, d1 = .str s) ∧ wb ρ1 fun d2 ρ2 => wr d1 d2 fun d => Q d ρ2) := fun {b ρ σ F M M0} R Qd Q hw k => by
  refine ha R _ _ hw fun d1 ρ1 x F1 M1 M01 q1 A1 r1 => ?_
  obtain ⟨⟨s, rfl⟩, q1⟩ := q1
  refine ⟨⟨s, r1.str_of⟩, ?_⟩
  refine hb A1.rel _ _ q1 fun d2 ρ2 y F2 M2 M02 q2 A2 r2 => ?_
  refine hr (b := b) _ _ A2.rel.dj (r1.stay A2.same A2.ext) r2 q2 fun d v F' q s dj nf rv => ?_
  exact k d ρ2 v F' M2 M02 q ((A1.trans A2).trans (A2.rel.grow s dj)) rv
def wM1 (wr : D → D → (D → Prop) → Prop) (wa wb : WE) : WE := fun ρ Q => wa ρ fun d1 ρ1 => (∃ s, d1 = .str s) ∧ wb ρ1 fun d2 ρ2 => wr d1 d2 fun d => Q d ρ2
def rJoinU (K : PySem.W.Frag) : V → List V → Hp → VK → Prop := fun x xs H Q => ∃ (a : Str) (p : Addr), ∃ ys : List Str, x = .str a ∧ xs = [.ref p] ∧ (SqL K H p (ys.map V.str) ∨ SqT K H p (ys.map V.str)) ∧
  (ys.map (·.length)).sum + ys.length * a.length ≤ 16777216 ∧ Q (.str (Txt.join a ys)) H
def rSIndex : V → List V → Hp → VK → Prop := fun x xs H Q => ∃ (a b : Str) (i : Nat) (rest : List Nat), x = .str a ∧ xs = [.str b] ∧ Builtin.Str.occurrences a b 0 a.length 1 = i :: rest ∧ Q (.int (i : Nat)) H
theorem rop_join : Rop (cy X) (fun x y H Q => rJoinU X.K x [y] H Q) dJoin := fun {b F M x y d1 d2} Qd Q dj r1 r2 hw k => by
  cases d1 with
  | str s =>
    cases d2 with
    | lst ds =>
      obtain ⟨ys, rfl, hz, q⟩ := hw
      obtain ⟨a, vs, rfl, _, h, r⟩ := r2.lst_of
      rw [r.strs] at h
      exact ⟨s, a, ys, r1.str_of, rfl, .inl (SqL.of h), hz, k _ _ F q (Same.refl _) dj (fun _ f _ => f) .of_str⟩
    | _ => exact hw.elim
  | _ => exact hw.elim
theorem de_join {apos : Pos} (ho : DP X a ta wa) (he : DP X a' tb wb) (hs : starEach [a'] X.env = [(false, eval a' X.env)] := by rfl) (hbase : attributeBase a "join" X.env (eval a X.env) = eval a X.env := by rfl) (hline : (apos.endLine == pos.line) = true := by rfl) :
    DE X (.Call (.Attribute a "join" apos) [a'] [] pos) (tM1 (rJoinU X.K) ta tb) (wM1 dJoin wa wb) := ⟨pe_join ho.pe he.pe hs hbase hline, snd_m1 (fun d1 d2 Qd h => by cases d1 <;> first | exact ⟨_, rfl⟩ | exact h.elim) rop_join ho.sn he.sn⟩
def dSIndex : D → D → (D → Prop) → Prop
  | .str s, .str t, Q => ∃ i rest, Builtin.Str.occurrences s t 0 s.length 1 = i :: rest ∧ Q (.int (i : Nat))
  | _, _, _ => False
theorem rop_sindex : Rop c (fun x y H Q => rSIndex x [y] H Q) dSIndex := fun {b F M x y d1 d2} Qd Q dj r1 r2 hw k => by
  cases d1 with
  | str s =>
    cases d2 with
    | str t =>
      obtain ⟨i, rest, h, q⟩ := hw
      rw [r2.str_of]
      exact ⟨s, t, i, rest, r1.str_of, rfl, h, k _ _ F q (Same.refl _) dj (fun _ f _ => f) .of_int⟩
    | _ => exact hw.elim
  | _ => exact hw.elim
theorem de_sindex {apos : Pos} (ho : DP X a ta wa) (he : DP X a' tb wb) (hs : starEach [a'] X.env = [(false, eval a' X.env)] := by rfl) (hbase : attributeBase a "index" X.env (eval a X.env) = eval a X.env := by rfl) (hline : (apos.endLine == pos.line) = true := by rfl) :
    DE X (.Call (.Attribute a "index" apos) [a'] [] pos) (tM1 rSIndex ta tb) (wM1 dSIndex wa wb) := ⟨pe_m1 PySem.F.slot_str_index PySem.F.type_str_index mt_sindex ho.pe he.pe hs hbase hline, snd_m1 (fun d1 d2 Qd h => by cases d1 <;> first | exact ⟨_, rfl⟩ | exact h.elim) rop_sindex ho.sn he.sn⟩

/-! ### slices -/
abbrev WO := List Sl → (Option Int → List Sl → Prop) → Prop
def Sno (c : Cy) (to : TO) (w : WO) : Prop := ∀ {b : Option Addr} {ρ : List Sl} {σ : L2.St} {F M M0 : Hp}, Rel c b ρ σ F M M0 → ∀ (Qd : Option Int → List Sl → Prop) (Q : Option Int → Hp → Prop), w ρ Qd →
  (∀ o ρ' F' M' M0', Qd o ρ' → Aft c b F M M0 ρ' σ F' M' M0' → Q o (HH F' M')) → to σ (HH F M) Q
structure DO (X : Cx) (e : Option Expr) (t : TO) (w : WO) : Prop where
  po : PO X e t
  sn : Sno (cy X) t w
def woNone : WO := fun ρ Q => Q none ρ
def woSome (w : WE) : WO := fun ρ Q => w ρ fun d ρ1 => match d with
  | .int i => Q (some i) ρ1
  | _ => False
theorem do_none : DO X none tNoPart woNone := ⟨po_none, fun {b ρ σ F M M0} R Qd Q hw k => k none ρ F M M0 hw R.aft⟩
theorem do_some (h : DE X e te w) : DO X (some e) (tPart te) (woSome w) := ⟨po_some h.pe, fun {b ρ σ F M M0} R Qd Q hw k => by
  refine h.sn R _ _ hw fun d ρ1 v F1 M1 M01 q A r => ?_
  cases d with
  | int i => exact ⟨i, r.int_of, k _ ρ1 F1 M1 M01 q A⟩
  | _ => exact q.elim⟩
/-- x[lo:hi] of data -/
def cutD {α : Type} (xs : List α) (lo hi : Option Int) : List α := (xs.drop (HT.sIx xs.length 0 lo)).take (HT.sIx xs.length xs.length hi - HT.sIx xs.length 0 lo)
def dCut (lo hi : Option Int) : D → (D → Prop) → Prop
  | .lst ds, Q => Q (.lst (cutD ds lo hi))
  | .str z, Q => z.length ≤ sizeLine ∧ Q (.str (cutS z lo hi))
  | _, _ => False
def rSlU (K : PySem.W.Frag) : V → Option Int → Option Int → Hp → VK → Prop := fun x lo hi H Q => rSlL K x lo hi H Q ∨ rSlS x lo hi H Q
theorem sl_U : SlR X (rSlU X.K) := SlR.or sl_list sl_str
def wCut (w : WE) (wl wh : WO) : WE := fun ρ Q => w ρ fun d ρ1 => wl ρ1 fun lo ρ2 => wh ρ2 fun hi ρ3 => dCut lo hi d fun d' => Q d' ρ3
theorem de_cut {lo hi : Option Expr} {tl th : TO} {wl wh : WO} {p2 : Pos} (he : DP X e te w) (hl : DO X lo tl wl) (hh : DO X hi th wh) : DE X (.Subscript e (.Slice lo hi none p2) pos) (tSl (rSlU X.K) te tl th) (wCut w wl wh) :=
  ⟨pe_slice sl_U he.pe hl.po hh.po, fun {b ρ σ F M M0} R Qd Q hw k => by
    refine he.sn R _ _ hw fun d ρ1 v F1 M1 M01 q1 A1 r1 => ?_
    refine hl.sn A1.rel _ _ q1 fun lo ρ2 F2 M2 M02 q2 A2 => ?_
    refine hh.sn A2.rel _ _ q2 fun hi ρ3 F3 M3 M03 q3 A3 => ?_
    have r3 := (r1.stay A2.same A2.ext).stay A3.same A3.ext
    have A := (A1.trans A2).trans A3
    cases d with
    | lst ds =>
      obtain ⟨a, vs, rfl, _, h, r⟩ := r3.lst_of
      refine .inl ⟨a, vs, rfl, SqL.of h, fun p hp => ?_⟩
      have e : DrL (cy X) F3 (cutV vs lo hi) (cutD ds lo hi) := by
        unfold cutV cutD
        rw [r.length]
        exact (r.drop _).take _
      refine new_lst (Qd := fun d => Qd d ρ3) A.rel.dj e hp q3 fun d v F' q s dj rv => k d ρ3 v F' M3 M03 q (A.trans (A.rel.grow s dj)) rv
    | str z =>
      exact .inr ⟨z, r3.str_of, q3.1, k _ ρ3 _ F3 M3 M03 q3.2 A .of_str⟩
    | _ => exact q3.elim⟩

/-! ### truth -/
def dTru : D → (Bool → Prop) → Prop
  | .non, Q => Q false
  | .bl b, Q => Q b
  | .int i, Q => Q (i != 0)
  | .str z, Q => z.length ≤ sizeLine ∧ Q ((z.length : Int) != 0)
  | .lst ds, Q => Q (!ds.isEmpty)
  | .tup ds, Q => Q (!ds.isEmpty)
  | _, _ => False
def wTru (w : WE) : WT := fun ρ Q => w ρ fun d ρ1 => dTru d fun k => Q k ρ1
theorem DrL.empty {F : Hp} {vs : List V} {ds : List D} (r : DrL c F vs ds) : vs.isEmpty = ds.isEmpty := by
  cases ds with
  | nil => rw [r.nil_iff]; rfl
  | cons d ds => obtain ⟨v, vr, rfl, _⟩ := r.cons_iff; rfl
theorem dt_truth (h : DP X e te w) (he : ∀ whole, isTrue e X.env whole = (do let v ← whole; standAt e.pos; holding [v] (truthy v)) := by intro _; rfl) : DT X e (fun σ H Q => te σ H fun x H' => ∃ k, TruV X.K x H' k ∧ Q k H') (wTru w) :=
  ⟨pt_truth h.pe he, fun {b ρ σ F M M0} R Qd Q hw k => by
    refine h.sn R _ _ hw fun d ρ1 v F1 M1 M01 q A r => ?_
    cases d with
    | non => rw [r.non_of]; exact ⟨false, rfl, k _ _ _ _ _ q A⟩
    | bl j => rw [r.bl_of]; exact ⟨j, rfl, k _ _ _ _ _ q A⟩
    | int i => rw [r.int_of]; exact ⟨_, rfl, k _ _ _ _ _ q A⟩
    | str z => rw [r.str_of]; exact ⟨_, ⟨q.1, rfl⟩, k _ _ _ _ _ q.2 A⟩
    | lst ds =>
      obtain ⟨a, vs, rfl, _, hq, rl⟩ := r.lst_of
      exact ⟨!vs.isEmpty, .inl ⟨vs, SqL.of hq, rfl⟩, by rw [rl.empty]; exact k _ _ _ _ _ q A⟩
    | tup ds =>
      obtain ⟨a, vs, rfl, hq, rl⟩ := r.tup_of
      exact ⟨!vs.isEmpty, .inr (.inl ⟨vs, SqT.of (A.rel.dj.f hq), rfl⟩), by rw [rl.empty]; exact k _ _ _ _ _ q A⟩
    | _ => exact q.elim⟩

/-! ### over a text, with enumerate, zip -/
def signsD (z : Str) : List D := z.cps.toList.map fun n => D.str ⟨#[n]⟩
def wItS (w : WE) : WA := fun ρ Q => w ρ fun d ρ1 => match d with
  | .str z => Q (signsD z) ρ1
  | _ => False
theorem its_ok {F : Hp} (z : Str) : ItOk c (Its z) F (signsD z) := fun F' M' s dj i => by
  refine ⟨fun d hd => ?_, fun e => ?_⟩
  · unfold signsD at hd
    rw [List.getElem?_map] at hd
    cases e : z.cps.toList[i]? with
    | none => rw [e] at hd; cases hd
    | some n =>
      rw [e] at hd
      have ed : D.str ⟨#[n]⟩ = d := Option.some.inj hd
      subst ed
      have hi : i < z.cps.size := by
        have := (List.getElem?_eq_some_iff.mp e).1
        simpa using this
      refine ⟨hi, fun x H3 hy => ?_⟩
      obtain ⟨rfl, n', hn', rfl⟩ := hy
      have e2 : z.cps[i]? = some n := by simpa using e
      rw [hn'] at e2
      rw [Option.some.inj e2]
      exact ⟨F', rfl, Same.refl _, dj, .of_str⟩
  · show z.cps.size ≤ i
    unfold signsD at e
    simp at e
    omega
theorem di_str {tg : Expr} (h : DE X e te w) : DI X tg e (iStr te) (wItS w) := ⟨pi_str h.pe, fun {b ρ σ F M M0} R Qd Q hw k => by
  refine h.sn R _ _ hw fun d ρ1 v F1 M1 M01 q A r => ?_
  cases d with
  | str z => exact ⟨z, r.str_of, k _ ρ1 _ F1 M1 M01 q A (its_ok z)⟩
  | _ => exact q.elim⟩

/-! ### own objects change -/
/-- name.append(e) -/
def wApp (i : Nat) (w : WE) : WS := fun ρ E => match ρ[i]? with
  | some (.ol _) => w ρ fun d ρ1 => match ρ1[i]? with
    | some (.ol ds) => ds.length < sizeLine ∧ E.nx (ρ1.set i (.ol (ds ++ [d])))
    | _ => False
  | _ => False
/-- an own slot keeps its address -/
theorem Rel.ownL {b : Option Addr} {ρ : List Sl} {σ : L2.St} {F M M0 : Hp} {i : Nat} {ds : List D} (R : Rel c b ρ σ F M M0) (e : ρ[i]? = some (.ol ds)) :
    ∃ a vs, σ[i]? = some (some (.ref a)) ∧ DrL c F vs ds ∧ F a = none ∧ HH F M a = some (.lst vs) ∧ ∀ ds' vs', DrL c F vs' ds' → Rel c b (ρ.set i (.ol ds')) σ F (upd M a (.lst vs')) M0 := by
  obtain ⟨a, o, M', h1, h2, h3, h4, h5, h6, h7, h8⟩ := R.env.own e trivial
  obtain ⟨vs, rfl, r⟩ := h2
  refine ⟨a, vs, h1, r, h3, hh_m (by rw [h5]; exact upd_same), fun ds' vs' r' => ⟨R.dj.updM h3, ?_, R.box⟩⟩
  have t := h8 (.ol ds') (.lst vs') trivial ⟨vs', rfl, r'⟩
  rw [h5, upd_upd]
  exact t
theorem Rel.fixed {b : Option Addr} {ρ' : List Sl} {σ : L2.St} {F M M0 F' M' M0' : Hp} {i : Nat} {a : Addr} {ds' : List D} (_ : Aft c b F M M0 ρ' σ F' M' M0') (h : σ[i]? = some (some (.ref a))) (R : Rel c b ρ' σ F' M' M0') (e : ρ'[i]? = some (.ol ds')) :
    ∃ vs, DrL c F' vs ds' ∧ F' a = none ∧ HH F' M' a = some (.lst vs) ∧ ∀ ds' vs', DrL c F' vs' ds' → Rel c b (ρ'.set i (.ol ds')) σ F' (upd M' a (.lst vs')) M0' := by
  obtain ⟨a', vs, h1, h2, h3, h4, h5⟩ := R.ownL e
  rw [h] at h1
  have ea : a = a' := by injection h1 with h1; injection h1 with h1; injection h1
  subst ea
  exact ⟨vs, h2, h3, h4, h5⟩
theorem sns_app {i : Nat} (he : Snd c te w) : Sns c (tDrop (tBM c.K "list" rAppend (tVar i) (tCons te tNil))) (wApp i w) := fun {b ρ σ F M M0} R E Dn hw f => by
  unfold wApp at hw
  cases e0 : ρ[i]? with
  | none => simp only [e0] at hw
  | some s0 =>
    simp only [e0] at hw
    cases s0 with
    | ol ds0 =>
      obtain ⟨a, vs0, h1, h2, h3, h4, h5⟩ := R.ownL e0
      refine ⟨.ref a, h1, .inl ⟨rfl, vs0, SqL.of h4⟩, ?_⟩
      refine he R _ _ hw fun d ρ1 v F1 M1 M01 q A r => ?_
      cases e1 : ρ1[i]? with
      | none => simp only [e1] at q
      | some sl =>
        simp only [e1] at q
        cases sl with
        | ol ds =>
          obtain ⟨vs, k2, k3, k4, k5⟩ := A.rel.fixed A h1 e1
          refine ⟨a, vs, v, rfl, rfl, k4, by rw [k2.length]; exact q.1, ?_⟩
          rw [hh_updM]
          exact f.nx _ _ F1 _ M01 q.2 A.same (k5 (ds ++ [d]) (vs ++ [v]) (k2.append (.cons r .nil))) A.mr
        | _ => exact q.elim
    | _ => exact hw.elim
theorem ds_append {i : Nat} {xn : Str} {np apos cpos spos : Pos} (he : DE X e te w) (hN : X.N[i]? = some xn := by rfl) (hv : Vis X.env.scope xn := by first | exact Or.inl rfl | exact Or.inr (Or.inl rfl) | exact Or.inr (Or.inr rfl))
    (hd : (xn == ("__debug__" : Str)) = false := by decide) (hcd : (xn == ("__classdict__" : Str)) = false := by decide)
    (hbase : attributeBase (.Name xn np) "append" X.env (eval (.Name xn np) X.env) = eval (.Name xn np) X.env := by rfl)
    (hfew : ((backTo cpos (starEach (e :: []) X.env)).all (fun x => !x.1) && (backToKw cpos (keywordEach [] X.env)).all (fun x => x.1.isSome)
      && decide ((e :: []).length + ([] : List Keyword).length + (if ([] : List Keyword).isEmpty then 0 else 1) < 30)) = true := by rfl)
    (hline : (apos.endLine == cpos.line) = true := by rfl) (hs : starEach (e :: []) X.env = (false, eval e X.env) :: starEach [] X.env := by rfl) (hplain : (backTo cpos (starEach [] X.env)).any (·.1) = false := by rfl)
    (hsw : swapsWith (.Call (.Attribute (.Name xn np) "append" apos) [e] [] cpos) none spos.line X.env = pure false := by rfl) :
    DS X (.Expr (.Call (.Attribute (.Name xn np) "append" apos) [e] [] cpos) spos) (tDrop (tBM X.K "list" rAppend (tVar i) (tCons te tNil))) (wApp i w) :=
  ⟨ps_expr (pe_bm PySem.F.plainAttrs_list PySem.F.slot_list_append PySem.F.type_list_append mt_append (pe_var hN hv hd hcd) (pa_cons he.pe pa_nil hs) hbase hfew hline hs hplain) hsw, sns_app (c := cy X) he.sn⟩
end
end DL

/-! The box of digits; the law's first statement; small things. -/
namespace DL
open PySem PySem.Spec PyProof.Rows L2

theorem hu65 {A : Around} {k : Nat} (hr : Room k A) : A.units + 65 < cLine := by have := hr.un; omega
def dNeg : D → (D → Prop) → Prop := fun d Q => match d with | .int i => Q (.int (-i)) | _ => False
section
variable {c : Cy} {X : Cx} {e a b' : Expr} {te ta tb : TE} {w wa wb : WE} {pos : Pos}
theorem ro1_dNeg : Ro1 c (rU fun i => .int (-i)) dNeg := ro1_neg
theorem dt_chain {op op' : CmpOp} {c' : Expr} {tc : TE} {wc : WE} {r r' : R2} {wr wr' : D → D → (D → Prop) → Prop} (ho : OpR X (compareOp op) r) (ho' : OpR X (compareOp op') r') (hr : Rop (cy X) r wr) (hr' : Rop (cy X) r' wr') (ha : DP X a ta wa) (hb : DP X b' tb wb) (hc : DP X c' tc wc)
    (h : PE X a ta → PE X b' tb → PE X c' tc → PT X (.Compare a [op, op'] [b', c'] pos) (tTest (tChain r r' ta tb tc))) : DT X (.Compare a [op, op'] [b', c'] pos) (tTest (tChain r r' ta tb tc)) (wTst (wChain wr wr' wa wb wc)) :=
  ⟨h ha.pe hb.pe hc.pe, snt_test (snd_chain hr hr' ha.sn hb.sn hc.sn)⟩

/-! ### the box -/
theorem Rel.bx {b : Option Addr} {ρ : List Sl} {σ : L2.St} {F M M0 : Hp} {i : Nat} (R : Rel c b ρ σ F M M0) (e : ρ[i]? = some .bx) :
    ∃ (x da : Addr) (ns : List Int) (n : Int), b = some x ∧ σ[i]? = some (some (.ref x)) ∧ HH F M x = some (.lst [.ref da, .int n]) ∧ F da = some (.lst (ns.map V.int)) ∧ 0 ≤ n ∧ (M0 x).isSome = true ∧ M x = some (.lst [.ref da, .int n]) := by
  obtain ⟨x, h1, h2⟩ := R.env.getB e
  obtain ⟨da, ns, n, q1, q2, q3⟩ := R.box x h1
  have q4 := R.env.sub _ _ q1
  exact ⟨x, da, ns, n, h1, h2, hh_m q4, q2, q3, by rw [q1]; rfl, q4⟩
/-- box[1], box[0] -/
def wBx1 (i : Nat) : WE := fun ρ Q => ρ[i]? = some .bx ∧ ∀ n : Int, 0 ≤ n → Q (.int n) ρ
def wBx0 (i : Nat) : WE := fun ρ Q => ρ[i]? = some .bx ∧ ∀ ns : List Int, Q (.lst (ns.map D.int)) ρ
theorem snd_bx1 {i : Nat} : Snd (cy X) (tOp (rIxU X.K) (tVar i) (tC (.int 1))) (wBx1 i) := fun {b ρ σ F M M0} R Qd Q hw k => by
  obtain ⟨x, da, ns, n, h1, h2, h3, h4, h5, h6⟩ := R.bx hw.1
  exact ⟨.ref x, h2, .inl (.inl ⟨x, _, 1, .int n, rfl, rfl, SqL.of h3, rfl, k _ ρ _ F M M0 (hw.2 n h5) R.aft .of_int⟩)⟩
theorem snd_bx0 {i : Nat} : Snd (cy X) (tOp (rIxU X.K) (tVar i) (tC (.int 0))) (wBx0 i) := fun {b ρ σ F M M0} R Qd Q hw k => by
  obtain ⟨x, da, ns, n, h1, h2, h3, h4, h5, h6⟩ := R.bx hw.1
  refine ⟨.ref x, h2, .inl (.inl ⟨x, _, 0, .ref da, rfl, rfl, SqL.of h3, rfl, k _ ρ _ F M M0 (hw.2 ns) R.aft ?_⟩)⟩
  simp only [Dr]
  exact ⟨da, _, rfl, h4, .of_ints ns⟩
theorem de_bx1 (i : Nat) {x : Str} {np p1 pos : Pos} {j} (hu : X.A.units + 1 < cLine) (hN : X.N[i]? = some x := by rfl) (hv : Vis X.env.scope x := by first | exact Or.inl rfl | exact Or.inr (Or.inl rfl) | exact Or.inr (Or.inr rfl)) (hd : (x == ("__debug__" : Str)) = false := by decide)
    (hcd : (x == ("__classdict__" : Str)) = false := by decide) : DE X (.Subscript (.Name x np) (.Constant (.int 1) j p1) pos) (tOp (rIxU X.K) (tVar i) (tC (.int 1))) (wBx1 i) :=
  ⟨pe_ix (ix_U hu) (pe_var hN hv hd hcd) pe_int (fun _ _ => rfl), snd_bx1⟩
theorem de_bx0 (i : Nat) {x : Str} {np p1 pos : Pos} {j} (hu : X.A.units + 1 < cLine) (hN : X.N[i]? = some x := by rfl) (hv : Vis X.env.scope x := by first | exact Or.inl rfl | exact Or.inr (Or.inl rfl) | exact Or.inr (Or.inr rfl)) (hd : (x == ("__debug__" : Str)) = false := by decide)
    (hcd : (x == ("__classdict__" : Str)) = false := by decide) : DE X (.Subscript (.Name x np) (.Constant (.int 0) j p1) pos) (tOp (rIxU X.K) (tVar i) (tC (.int 0))) (wBx0 i) :=
  ⟨pe_ix (ix_U hu) (pe_var hN hv hd hcd) pe_int (fun _ _ => rfl), snd_bx0⟩
/-- box[1] = e -/
def wBxPut (i : Nat) (w : WE) : WS := fun ρ E => w ρ fun d ρ1 => ρ1[i]? = some .bx ∧ match d with
  | .int n => 0 ≤ n ∧ E.nx ρ1
  | _ => False
theorem ds_bxPut (i : Nat) {x : Str} {np p1 sp pos : Pos} {j} (he : DE X e te w) (hs : swapsWithSole [.Subscript (.Name x np) (.Constant (.int 1) j p1) sp] e pos.line X.env = pure false := by rfl) (hw : swappedStores [.Subscript (.Name x np) (.Constant (.int 1) j p1) sp] e X.env = pure none := by rfl)
    (h1 : (assignEach [.Subscript (.Name x np) (.Constant (.int 1) j p1) sp] X.env).map (·.2) = [assign (.Subscript (.Name x np) (.Constant (.int 1) j p1) sp) X.env] := by rfl)
    (hN : X.N[i]? = some x := by rfl) (hv : Vis X.env.scope x := by first | exact Or.inl rfl | exact Or.inr (Or.inl rfl) | exact Or.inr (Or.inr rfl)) (hd : (x == ("__debug__" : Str)) = false := by decide)
    (hcd : (x == ("__classdict__" : Str)) = false := by decide) : DS X (.Assign [.Subscript (.Name x np) (.Constant (.int 1) j p1) sp] e pos) (tAsg te (gSub (tVar i) (tC (.int 1)) rSetL)) (wBxPut i w) :=
  ⟨ps_asg he.pe (pg_sub (pe_var hN hv hd hcd) pe_int set_list) hs hw h1, fun {b ρ σ F M M0} R E Dn hw f => by
    refine he.sn R _ _ hw fun d ρ1 v F1 M1 M01 q A r => ?_
    obtain ⟨e1, q⟩ := q
    cases d with
    | int m =>
      obtain ⟨x, da, ns, n, h1, h2, h3, h4, h5, h6, h7⟩ := A.rel.bx e1
      refine ⟨.ref x, h2, x, _, 1, 1, rfl, rfl, h3, rfl, ?_⟩
      rw [r.int_of]
      show Dn.nx σ (upd (HH F1 M1) x (.lst [.ref da, .int m]))
      rw [hh_updM]
      have fx := A.rel.dj _ _ h7
      refine f.nx ρ1 σ F1 _ (upd M01 x (.lst [.ref da, .int m])) q.2 A.same ⟨A.rel.dj.updM fx, A.rel.env.frame (.inr h6), fun y hy => ?_⟩ (A.mr.trans fun y hy => ?_)
      · have ey : y = x := by rw [h1] at hy; exact (Option.some.inj hy).symm
        subst ey
        exact ⟨da, ns, m, upd_same, h4, q.1⟩
      · refine upd_ne fun ey => hy ?_
        rw [ey]; exact h1
    | _ => exact q.elim⟩
/-- the draw: if at < len(box[0]): return int(box[0][at]) % many -/
def wDraw (i j k : Nat) : WS := fun ρ E => ρ[i]? = some .bx ∧ ∃ a n : Int, ρ[j]? = some (.sh (.int a)) ∧ ρ[k]? = some (.sh (.int n)) ∧ 0 ≤ a ∧ 0 < n ∧ (∀ r : Int, 0 ≤ r → r < n → E.rt (.int r)) ∧ E.nx ρ
abbrev tBx0 (X : Cx) (i : Nat) : TE := tOp (rIxU X.K) (tVar i) (tC (.int 0))
abbrev tDraw (X : Cx) (i j k : Nat) : TS := tIfS (tTest (tOp (rI0 fun i j => .bl (decide (i < j))) (tVar j) (tCB (rLenU X.K) (tCons (tBx0 X i) tNil)))) (tRet (tOp (rI (fun _ j => 0 < j) fun i j => .int (i % j))
      (tCB (fun xs H Q => (∃ i, xs = [V.int i] ∧ Q (.int i) H) ∨ ∃ k, xs = [V.bl k] ∧ Q (.int (if k then 1 else 0)) H) (tCons (tOp (rIxU X.K) (tBx0 X i) (tVar j)) tNil)) (tVar k))) tNext
theorem ds_drawIf (i j k : Nat) {st : Stmt} {w0 : WS} (h : DS X st (tDraw X i j k) w0) : DS X st (tDraw X i j k) (wDraw i j k) := ⟨h.ps, fun {b ρ σ F M M0} R E Dn hw f => by
  obtain ⟨e1, at', n, e2, e3, h0, hn, q1, q2⟩ := hw
  obtain ⟨x, da, ns, n1, b1, b2, b3, b4, b5, b6, b7⟩ := R.bx e1
  obtain ⟨va, a1, a2⟩ := R.env.get e2
  obtain ⟨vn, n1', n2⟩ := R.env.get e3
  rw [a2.int_of] at a1
  rw [n2.int_of] at n1'
  have hda := SqL.of (K := X.K) (R.dj.f b4)
  have bx0 : ∀ Q : VK, Q (.ref da) (HH F M) → tBx0 X i σ (HH F M) Q := fun Q q => ⟨.ref x, b2, .inl (.inl ⟨x, _, 0, .ref da, rfl, rfl, SqL.of b3, rfl, q⟩)⟩
  refine ⟨.int at', a1, ?_⟩
  refine bx0 _ (.inl ⟨_, ns.length, rfl, .inl ⟨_, hda, by rw [List.length_map]⟩, at', _, rfl, rfl, _, rfl, ?_⟩)
  by_cases hc : at' < ns.length
  · show (if decide (at' < (ns.length : Int)) = true then _ else _)
    rw [if_pos (decide_eq_true hc)]
    refine bx0 _ ⟨.int at', a1, ?_⟩
    have hl : at'.toNat < ns.length := by omega
    refine .inl (.inl ⟨da, _, at', .int ns[at'.toNat], rfl, rfl, hda, ?_, .inl ⟨_, rfl, .int n, n1', _, n, rfl, rfl, hn, ?_⟩⟩)
    · unfold atI ixN
      rw [if_pos h0, if_pos (by rw [List.length_map]; exact hc)]
      show (ns.map V.int)[at'.toNat]? = _
      rw [List.getElem?_map, List.getElem?_eq_getElem hl]; rfl
    · obtain ⟨F', s, eh, dj⟩ := R.env.frzAll R.dj
      show Dn.rt _ (HH F M)
      rw [eh]
      exact f.rt _ _ F' M0 (q1 _ (Int.emod_nonneg _ (by omega)) (Int.emod_lt_of_pos _ hn)) s dj (fun a z => (R.box a z).leD (.of s)) (MR.refl _ _) .of_int
  · show (if decide (at' < (ns.length : Int)) = true then _ else _)
    rw [if_neg (by rw [decide_eq_false hc]; exact Bool.false_ne_true)]
    exact f.nx ρ σ F M M0 q2 (Same.refl _) R (MR.refl _ _)⟩
end

/-! ### the law -/
section
variable {c : Cy} {b : Option Addr} {F M0 : Hp}
theorem RelE.setBx {x : Addr} (q : b = some x) : ∀ {ρ : List Sl} {σ : L2.St} {M : Hp} {i : Nat} {sl : Sl}, RelE c b F M0 ρ σ M → ρ[i]? = some sl → ¬ isOwn sl → RelE c b F M0 (ρ.set i .bx) (σ.set i (some (.ref x))) M
  | [], σ, M, i, sl, h, e, _ => by simp at e
  | s1 :: ρ, σ, M, 0, sl, h, e, hs => by
    obtain ⟨v, σr, e1, h⟩ := h
    simp at e; subst e; subst e1
    refine ⟨some (.ref x), σr, rfl, ⟨x, q, rfl⟩, ?_⟩
    cases s1 <;> first | exact h | exact h.2 | exact (hs trivial).elim
  | s1 :: ρ, σ, M, i + 1, sl, h, e, hs => by
    obtain ⟨v, σr, e1, h⟩ := h
    subst e1
    have e' : ρ[i]? = some sl := by simpa using e
    refine ⟨v, σr.set i (some (.ref x)), rfl, ?_⟩
    have own : ∀ s2 : Sl, (∃ a o M', v = some (.ref a) ∧ ObR c F s2 o ∧ F a = none ∧ M' a = none ∧ M = upd M' a o ∧ RelE c b F M0 ρ σr M') →
        ∃ a o M', v = some (.ref a) ∧ ObR c F s2 o ∧ F a = none ∧ M' a = none ∧ M = upd M' a o ∧ RelE c b F M0 (ρ.set i .bx) (σr.set i (some (.ref x))) M' := fun s2 h => by
      obtain ⟨a, o, M', k1, k2, k3, k4, k5, t⟩ := h
      exact ⟨a, o, M', k1, k2, k3, k4, k5, RelE.setBx q t e' hs⟩
    cases s1 with
    | no => exact RelE.setBx q h e' hs
    | sh d => exact ⟨h.1, RelE.setBx q h.2 e' hs⟩
    | bx => exact ⟨h.1, RelE.setBx q h.2 e' hs⟩
    | ol ds => exact own (.ol ds) h
    | ok ks ds => exact own (.ok ks ds) h
    | ot ks ds => exact own (.ot ks ds) h
    | oi n fs ds => exact own (.oi n fs ds) h
theorem ints_ref {ns : List Int} {x : Addr} {r : List V} (h : ns.map V.int = .ref x :: r) : False := by
  cases ns with
  | nil => cases h
  | cons n ns => cases h
end
section
variable {P : Program} {w : World} {K : PySem.W.Frag} {mg : Str → Option Value} {base : Heap}
def scrD (ns : List Int) : Sl := .sh (.scr (ns.map D.int))
/-- THE LAW: its first statement makes the box; the rest has it -/
theorem law_boxE {x0 qual x : Str} {st : Stmt} {f : Addr} {fd : FuncData} {N : List Str} {k i n : Nat} (FF : Fun K x0 qual st f fd) (S : FnScope N [x] (defScope st)) (hN : N.length = n + 1) (hi : i < n + 1) {y : Str} {py spos : Pos} {e0 : Expr} {rest : List Stmt} (hsp : defBody st = .Assign [.Name y py] e0 spos :: rest)
    (hbody : ∀ (cdv : Value) (A : Around) (outer : List Env) (s : Shared) (H : Hp), Room k (A.deeper (envOfC qual (defScope st) s.heap.objs.size f cdv)) → (A.deeper (envOfC qual (defScope st) s.heap.objs.size f cdv)).guards = some [] →
      ∃ (t0 : TE) (w0 : WE) (t1 : TS) (w1 : WS), DE (cxOf CX0 P w K mg base N qual (defScope st) f cdv A outer s H E0).nox e0 t0 w0 ∧ DSs (cxOf CX0 P w K mg base N qual (defScope st) f cdv A outer s H E0).nox rest t1 w1 ∧
        (PE (cxOf CX0 P w K mg base N qual (defScope st) f cdv A outer s H E0).nox e0 t0 → PSs (cxOf CX0 P w K mg base N qual (defScope st) f cdv A outer s H E0).nox rest t1 →
          PSs (cxOf CX0 P w K mg base N qual (defScope st) f cdv A outer s H E0).nox (defBody st) (tSeq (tAsg t0 (gName i)) t1)) ∧
        (∀ ns : List Int, w0 (scrD ns :: List.replicate n .no) fun d ρ => ρ = scrD ns :: List.replicate n .no ∧ ∃ ms : List Int, d = .lst [.lst (ms.map D.int), .int 0]) ∧
        ∀ ns : List Int, w1 ((scrD ns :: List.replicate n .no).set i .bx) { nx := fun _ => False, rt := fun d => d = .bl true }) :
    FnG P w K mg base (k + 1) f fd [x] (spLaw K) := by
  refine fnG_of FF S (fun vs H Q E h => ?_) (fun cdv A outer s H vs Q hr hgd h => ?_)
  · obtain ⟨a, ns, rfl, _⟩ := h; rfl
  · obtain ⟨a, ns, rfl, hS, hl, hQ⟩ := h
    obtain ⟨t0, w0, t1, w1, h0, h1, hp, p0, p1⟩ := hbody cdv A outer s H hr hgd
    refine ⟨_, hp h0.pe h1.ps, ?_⟩
    have eH : H = HH H (fun _ => none) := funext fun y => (hh_n rfl).symm
    have eS : startD N [scrD ns] = scrD ns :: List.replicate n .no := by unfold startD; rw [hN]; rfl
    have ar : ArgsD ⟨K, mg⟩ none H [scrD ns] [.ref a] := ⟨_, _, rfl, by show Dr _ _ _ (.scr _); simp only [Dr]; exact ⟨a, _, rfl, hS, .of_ints ns⟩, rfl⟩
    have R := start_rel (N := N) (K := K) (mg := mg) (b := none) (F := H) (M := fun _ => none) (fun x u q => nomatch q) (fun x q => nomatch q) ar
    rw [eS] at R
    show t0 (L2.start N [.ref a]) H _
    rw [eH]
    refine h0.sn R _ _ (p0 ns) fun d ρ' v F' M' M0' q AA r => ?_
    obtain ⟨rfl, ms, rfl⟩ := q
    simp only [Dr] at r
    obtain ⟨x, us, rfl, hx, r⟩ := r
    obtain ⟨u1, us, rfl, r1, r⟩ := r.cons_iff
    obtain ⟨u2, us, rfl, r2, r⟩ := r.cons_iff
    have eu := r.nil_iff
    subst eu
    have eu2 := r2.int_of
    subst eu2
    simp only [Dr] at r1
    obtain ⟨da, uu, rfl, hda, r1⟩ := r1
    have euu := r1.ints
    subst euu
    have eM0 : M0' = fun _ => none := funext fun y => AA.mr y (fun z => nomatch z)
    have key : M' = M0' ∧ SqL K F' a (ns.map V.int) := by
      obtain ⟨v0, σr, e1, ⟨⟨y, e2, hy⟩, t⟩⟩ := AA.rel.env
      have nos : ∀ (m : Nat) (τ : L2.St) (N1 : Hp), RelE ⟨K, mg⟩ none F' M0' (List.replicate m .no) τ N1 → N1 = M0' := fun m => by
        induction m with
        | zero => intro τ N1 h; exact h.2
        | succ m ih => intro τ N1 h; obtain ⟨_, τr, _, h⟩ := h; exact ih τr N1 h
      refine ⟨nos n σr M' t, ?_⟩
      have e3 : L2.start N [.ref a] = some (.ref a) :: List.replicate n none := by unfold L2.start; rw [hN]; rfl
      rw [e3] at e1
      cases e1
      cases e2
      simp only [Dr] at hy
      obtain ⟨a', vs', ea, hs, hr'⟩ := hy
      cases ea
      rw [hr'.ints] at hs
      exact hs
    obtain ⟨eM', hS'⟩ := key
    rw [eM0] at eM'
    have ndx : da ≠ x := fun z => by
      rw [z, hx] at hda
      cases hda' : ms with
      | nil => rw [hda'] at hda; cases hda
      | cons m ms => rw [hda'] at hda; cases hda
    have eH2 : HH F' M' = HH (del F' x) (upd (fun _ => none) x (.lst [.ref da, .int 0])) := by
      rw [eM', ← hh_updM]
      funext y
      by_cases z : y = x
      · subst z; rw [upd_same, hh_n rfl, hx]
      · rw [upd_ne z, hh_n rfl, hh_n rfl, del_ne z]
    show t1 _ ((L2.start N [.ref a]).set i (some (.ref x))) (HH F' M')
    rw [eH2]
    have hS2 : SqL K (del F' x) a (ns.map V.int) := by
      rcases hS' with q | q
      · rcases q with q | ⟨o, q⟩
        · refine .inl (.inl ?_)
          rw [del_ne fun z => ?_]
          · exact q
          · rw [z, hx] at q
            have q := Option.some.inj q
            injection q with q
            exact ints_ref q.symm
        · refine .inl (.inr ⟨o, ?_⟩)
          rw [del_ne fun z => ?_]
          · exact q
          · rw [z, hx] at q; cases q
      · exact .inr q
    have ar2 : ArgsD ⟨K, mg⟩ (some x) (del F' x) [scrD ns] [.ref a] := ⟨_, _, rfl, by show Dr _ _ _ (.scr _); simp only [Dr]; exact ⟨a, _, rfl, hS2, .of_ints ns⟩, rfl⟩
    have R2 := start_rel (N := N) (K := K) (mg := mg) (b := some x) (F := del F' x) (M := upd (fun _ => none) x (.lst [.ref da, .int 0])) (fun y u q => by
        by_cases z : y = x
        · subst z; exact del_same
        · rw [upd_ne z] at q; cases q) (fun y q => by
        have z : x = y := Option.some.inj q
        subst z
        exact ⟨da, ms, 0, upd_same, by rw [del_ne ndx]; exact hda, Int.le_refl 0⟩) ar2
    rw [eS] at R2
    have hns : ∃ sl, (scrD ns :: List.replicate n Sl.no)[i]? = some sl ∧ ¬ isOwn sl := by
      cases i with
      | zero => exact ⟨_, rfl, fun z => z⟩
      | succ j => exact ⟨.no, by rw [List.getElem?_cons_succ, List.getElem?_replicate, if_pos (by omega)], fun z => z⟩
    obtain ⟨sl, e1, e2⟩ := hns
    refine h1.sn ⟨R2.dj, R2.env.setBx (x := x) rfl e1 e2, R2.box⟩ _ _ (p1 ns) ⟨fun _ _ _ _ _ z => z.elim, fun _ _ _ _ _ z => z.elim, fun _ _ _ _ _ z => z.elim, fun d v F' M0' e s' dj' bx' m' r => ?_⟩
    subst e
    rw [r.bl_of]
    exact hQ _
end
end DL

/-! Plain facts: sizes of shown data, loops over data, cuts. No program in sight. -/
namespace DL
open PySem PySem.Spec PyProof.Rows L2

/-! ### data that repr shows -/
mutual
/-- small leaves -/
def smD : D → Bool
  | .non => true
  | .bl _ => true
  | .int i => decide (-999999999999 ≤ i) && decide (i ≤ 999999999999)
  | .str s => PyData.strOk s
  | .lst xs => smDL xs
  | .tup xs => smDL xs
  | _ => false
def smDL : List D → Bool
  | [] => true
  | d :: ds => smD d && smDL ds
end
mutual
def szD : D → Nat
  | .int _ => 41
  | .str s => s.cps.size
  | .lst xs => szDL xs
  | .tup xs => szDL xs
  | _ => 0
def szDL : List D → Nat
  | [] => 0
  | d :: ds => szD d + 1 + szDL ds
end
theorem log2_small {i : Int} (h1 : -999999999999 ≤ i) (h2 : i ≤ 999999999999) : i.natAbs.log2 ≤ 40 := by
  have h : i.natAbs < 2 ^ 41 := by
    have e : (2 : Nat) ^ 41 = 2199023255552 := by decide
    omega
  rcases Nat.eq_zero_or_pos i.natAbs with z | z
  · rw [z]; decide
  · have := (Nat.log2_lt (by omega)).mpr h
    omega
mutual
theorem smD_all : ∀ (d : D), smD d = true → okD d = true ∧ (toPy d).showable = true ∧ (toPy d).intsShort 13 = true ∧ (toPy d).weight ≤ szD d
  | .non, _ => ⟨by simp only [okD], by simp only [toPy, PyData.showable], by simp only [toPy, PyData.intsShort], by simp only [toPy, PyData.weight, szD]; omega⟩
  | .bl _, _ => ⟨by simp only [okD], by simp only [toPy, PyData.showable], by simp only [toPy, PyData.intsShort], by simp only [toPy, PyData.weight, szD]; omega⟩
  | .int i, h => by
    simp only [smD, Bool.and_eq_true, decide_eq_true_eq] at h
    have l := log2_small h.1 h.2
    refine ⟨by simp only [okD], by simp only [toPy, PyData.showable, decide_eq_true_eq]; omega, by
      simp only [toPy]
      exact intsShort_of_noneOrInC (lo := -999999999999) (hi := 999999999999) (by decide) (by decide) _ (by simp only [noneOrInC, Bool.and_eq_true, Bool.not_eq_true', decide_eq_false_iff_not]; omega), ?_⟩
    simp only [toPy, PyData.weight, szD]
    split <;> omega
  | .str s, h => ⟨by simpa only [okD, smD] using h, by simp only [toPy, PyData.showable], by simp only [toPy, PyData.intsShort], by simp only [toPy, PyData.weight, szD]; omega⟩
  | .lst xs, h => by
    have q := smDL_all xs (by simpa only [smD] using h)
    exact ⟨by simpa only [okD] using q.1, by simpa only [toPy, PyData.showable] using q.2.1, by simpa only [toPy, PyData.intsShort] using q.2.2.1, by simpa only [toPy, PyData.weight, szD] using q.2.2.2⟩
  | .tup xs, h => by
    have q := smDL_all xs (by simpa only [smD] using h)
    exact ⟨by simpa only [okD] using q.1, by simpa only [toPy, PyData.showable] using q.2.1, by simpa only [toPy, PyData.intsShort] using q.2.2.1, by simpa only [toPy, PyData.weight, szD] using q.2.2.2⟩
  | .scr _, h => by simp [smD] at h
  | .dk _ _, h => by simp [smD] at h
  | .dt _ _, h => by simp [smD] at h
  | .ins _ _ _, h => by simp [smD] at h
theorem smDL_all : ∀ (ds : List D), smDL ds = true → okDL ds = true ∧ PyData.showableAll (toPyL ds) = true ∧ PyData.intsShortAll 13 (toPyL ds) = true ∧ PyData.weightAll (toPyL ds) ≤ szDL ds
  | [], _ => ⟨by simp only [okDL], by simp only [toPyL, PyData.showableAll], by simp only [toPyL, PyData.intsShortAll], by simp only [toPyL, PyData.weightAll, szDL]; omega⟩
  | d :: ds, h => by
    simp only [smDL, Bool.and_eq_true] at h
    have q1 := smD_all d h.1
    have q2 := smDL_all ds h.2
    refine ⟨by simp only [okDL, Bool.and_eq_true]; exact ⟨q1.1, q2.1⟩, by simp only [toPyL, PyData.showableAll, Bool.and_eq_true]; exact ⟨q1.2.1, q2.2.1⟩, by simp only [toPyL, PyData.intsShortAll, Bool.and_eq_true]; exact ⟨q1.2.2.1, q2.2.2.1⟩, ?_⟩
    have := q1.2.2.2
    have := q2.2.2.2
    simp only [toPyL, PyData.weightAll, szDL]
    omega
end
theorem Shw.of {d : D} (h : smD d = true) (hd : depD d ≤ 60) (hz : szD d ≤ 1048576) : Shw d := by
  have q := smD_all d h
  refine ⟨q.1, hd, q.2.1, ?_⟩
  exact PyData.shown_fits (B := 13) (by decide) (by decide) (PyData.leavesShort_of_canLay0 13 _ (okD_lay d q.1) q.2.2.1) (by
    have := q.2.2.2
    have e : (2 : Nat) ^ 20 = 1048576 := by decide
    omega)
theorem smDL_of {ds : List D} (h : ∀ d ∈ ds, smD d = true) : smDL ds = true := by
  induction ds with
  | nil => simp only [smDL]
  | cons d ds ih =>
    simp only [smDL, Bool.and_eq_true]
    exact ⟨h d List.mem_cons_self, ih fun x hx => h x (List.mem_cons_of_mem _ hx)⟩
theorem szDL_of {ds : List D} {B : Nat} (h : ∀ d ∈ ds, szD d ≤ B) : szDL ds ≤ ds.length * (B + 1) := by
  induction ds with
  | nil => simp only [szDL]; omega
  | cons d ds ih =>
    have h1 := h d List.mem_cons_self
    have h2 := ih fun x hx => h x (List.mem_cons_of_mem _ hx)
    simp only [szDL, List.length_cons, Nat.add_mul]
    omega
theorem depDL_of {ds : List D} {B : Nat} (h : ∀ d ∈ ds, depD d ≤ B) : depDL ds ≤ B := by
  induction ds with
  | nil => simp only [depDL]; omega
  | cons d ds ih =>
    have h1 := h d List.mem_cons_self
    have h2 := ih fun x hx => h x (List.mem_cons_of_mem _ hx)
    simp only [depDL]
    omega
theorem okDL_of {ds : List D} (h : ∀ d ∈ ds, okD d = true) : okDL ds = true := by
  induction ds with
  | nil => simp only [okDL]
  | cons d ds ih =>
    simp only [okDL, Bool.and_eq_true]
    exact ⟨h d List.mem_cons_self, ih fun x hx => h x (List.mem_cons_of_mem _ hx)⟩
theorem shD_ints (ns : List Int) : shD (.lst (ns.map D.int)) := by
  refine ⟨?_, ?_⟩
  · simp only [okD]
    refine okDL_of fun d hd => ?_
    obtain ⟨n, _, rfl⟩ := List.mem_map.mp hd
    simp only [okD]
  · simp only [depD]
    have := depDL_of (ds := ns.map D.int) (B := 0) fun d hd => by
      obtain ⟨n, _, rfl⟩ := List.mem_map.mp hd
      simp only [depD]; omega
    omega
theorem eqDL_ints : ∀ (ns ms : List Int), eqDL (ns.map D.int) (ms.map D.int) = decide (ns = ms)
  | [], [] => by simp [eqDL]
  | [], m :: ms => by simp [eqDL]
  | n :: ns, [] => by simp [eqDL]
  | n :: ns, m :: ms => by
    simp only [List.map_cons, eqDL, eqD, eqDL_ints ns ms]
    by_cases h : n = m
    · subst h; simp
    · simp [h]
theorem dEqB_ints {g : Bool → Bool} {ns ms : List Int} {Q : D → Prop} (q : Q (.bl (g (decide (ns = ms))))) : dEqB g (.lst (ns.map D.int)) (.lst (ms.map D.int)) Q := by
  refine ⟨⟨shD_ints ns, shD_ints ms⟩, ?_⟩
  simp only [eqD, eqDL_ints]
  exact q

/-! ### places, cuts -/
theorem atI_nat {α : Type} {xs : List α} {i : Int} {d : α} (h0 : 0 ≤ i) (h : xs[i.toNat]? = some d) : atI xs i = some d := by
  have hl := (List.getElem?_eq_some_iff.mp h).1
  unfold atI ixN
  rw [if_pos h0, if_pos (by omega)]
  exact h
theorem atI_map {α β : Type} {f : α → β} {xs : List α} {i : Int} (h0 : 0 ≤ i) (h1 : i < xs.length) : ∃ x, x ∈ xs ∧ xs[i.toNat]? = some x ∧ atI (xs.map f) i = some (f x) := by
  have hl : i.toNat < xs.length := by omega
  exact ⟨xs[i.toNat], List.getElem_mem _, List.getElem?_eq_getElem hl, atI_nat h0 (by rw [List.getElem?_map, List.getElem?_eq_getElem hl]; rfl)⟩
theorem sIx_pos {n d : Nat} {i : Int} (h : 0 ≤ i) : HT.sIx n d (some i) = min i.toNat n := by
  show (if i < 0 then (i + (n : Int)).toNat else min i.toNat n) = _
  rw [if_neg (by omega)]
theorem cutD_to {α : Type} (xs : List α) {n : Int} (h : 0 ≤ n) : cutD xs none (some n) = xs.take n.toNat := by
  unfold cutD
  rw [sIx_pos h]
  show (xs.drop 0).take (min n.toNat xs.length - 0) = _
  rw [List.drop_zero, Nat.sub_zero]
  rcases Nat.le_total n.toNat xs.length with q | q
  · rw [Nat.min_eq_left q]
  · rw [Nat.min_eq_right q, List.take_length, List.take_of_length_le q]
theorem cutD_from {α : Type} (xs : List α) {n : Int} (h : 0 ≤ n) : cutD xs (some n) none = xs.drop n.toNat := by
  unfold cutD
  rw [sIx_pos h]
  show ((xs.drop (min n.toNat xs.length)).take (xs.length - min n.toNat xs.length)) = _
  rcases Nat.le_total n.toNat xs.length with q | q
  · rw [Nat.min_eq_left q, List.take_of_length_le (by rw [List.length_drop]; omega)]
  · rw [Nat.min_eq_right q, List.drop_length, List.drop_eq_nil_of_le q]; simp
theorem cutD_mid {α : Type} (xs : List α) {i j : Int} (h0 : 0 ≤ i) (h1 : i ≤ j) (h2 : j ≤ xs.length) : cutD xs (some i) (some j) = (xs.drop i.toNat).take (j - i).toNat := by
  unfold cutD
  rw [sIx_pos h0, sIx_pos (by omega), Nat.min_eq_left (by omega), Nat.min_eq_left (by omega)]
  congr 1
  omega

/-! ### loops -/
theorem wForL_rule {wg : WG} {wb : WS} {E : EnD} (I : List D → List Sl → Prop) (step : ∀ d r ρ, I (d :: r) ρ → ∀ K : List Sl → Prop, (∀ ρ', I r ρ' → K ρ') → wg d ρ fun ρ1 => wb ρ1 { nx := K, ct := K, bk := E.nx, rt := E.rt }) (fin : ∀ ρ, I [] ρ → E.nx ρ) :
    ∀ ds ρ, I ds ρ → wForL wg wb ds ρ E
  | [], ρ, h => fin ρ h
  | d :: ds, ρ, h => step d ds ρ h (fun ρ2 => wForL wg wb ds ρ2 E) fun ρ' h' => wForL_rule I step fin ds ρ' h'
theorem wWhile_rule {wc : WT} {wb : WS} {E : EnD} {ρ : List Sl} (W : Nat → List Sl → Prop) (m0 : Nat) (h0 : W m0 ρ)
    (turn : ∀ m ρ, W m ρ → wc ρ fun k ρ1 => (k = true → wb ρ1 { nx := fun ρ2 => ∃ m', m' < m ∧ W m' ρ2, ct := fun ρ2 => ∃ m', m' < m ∧ W m' ρ2, bk := E.nx, rt := E.rt }) ∧ (k = false → E.nx ρ1)) : wWhile wc wb ρ E := by
  refine ⟨W, ⟨m0, h0⟩, fun m ρ' h => ?_⟩
  have fix : ∀ (A B : List Sl → Prop), (fun (k : Bool) (ρ2 : List Sl) => (k = true → A ρ2) ∧ (k = false → B ρ2)) = fun (k : Bool) (ρ2 : List Sl) => match k with | true => A ρ2 | false => B ρ2 := fun A B => by funext k ρ2; cases k <;> simp
  have go := turn m ρ' h
  rw [fix] at go
  exact go
/-- what a comprehension may yield -/
def Outs (R : D → Option D → Prop) : List D → List D → Prop
  | [], ys => ys = []
  | d :: ds, ys => (∃ y r, R d (some y) ∧ ys = y :: r ∧ Outs R ds r) ∨ (R d none ∧ Outs R ds ys)
theorem wLcL_rule {vs : List Nat} {wg : WG} {wt : WT} {we : WE} {ρ : List Sl} (S : D → Prop) (R : D → Option D → Prop)
    (step : ∀ d, S d → ∀ (Kt : D → List Sl → Prop) (Kf : List Sl → Prop), (∀ y, R d (some y) → Kt y ρ) → (R d none → Kf ρ) →
      wg d ρ fun ρ1 => wt ρ1 fun k ρ2 => (k = true → we ρ2 fun y ρ3 => noOwnB ρ3 vs = true ∧ Kt y (wipeD ρ3 vs)) ∧ (k = false → noOwnB ρ2 vs = true ∧ Kf (wipeD ρ2 vs))) : ∀ (ds acc : List D) (Q : List D → List Sl → Prop), (∀ d ∈ ds, S d) → (∀ ys, Outs R ds ys → Q (acc ++ ys) ρ) → wLcL vs wg wt we ds ρ acc Q
  | [], acc, Q, _, h => by
    have := h [] rfl
    rw [List.append_nil] at this
    exact this
  | d :: ds, acc, Q, hS, h => by
    have fix : ∀ (A B : List Sl → Prop), (fun (k : Bool) (ρ2 : List Sl) => (k = true → A ρ2) ∧ (k = false → B ρ2)) = fun (k : Bool) (ρ2 : List Sl) => match k with | true => A ρ2 | false => B ρ2 := fun A B => by funext k ρ2; cases k <;> simp
    have go := step d (hS d List.mem_cons_self) (fun y ρ' => wLcL vs wg wt we ds ρ' (acc ++ [y]) Q) (fun ρ' => wLcL vs wg wt we ds ρ' acc Q) (fun y hy => wLcL_rule S R step ds (acc ++ [y]) Q (fun x hx => hS x (List.mem_cons_of_mem _ hx)) fun ys hys => by
        rw [List.append_assoc]
        exact h (y :: ys) (.inl ⟨y, ys, hy, rfl, hys⟩))
      (fun hy => wLcL_rule S R step ds acc Q (fun x hx => hS x (List.mem_cons_of_mem _ hx)) fun ys hys => h ys (.inr ⟨hy, hys⟩))
    simp only [fix] at go
    exact go
theorem Outs.map {g : D → D} : ∀ {ds ys : List D}, Outs (fun d o => o = some (g d)) ds ys → ys = ds.map g
  | [], ys, h => h
  | d :: ds, ys, h => by
    rcases h with ⟨y, r, e, rfl, h⟩ | ⟨e, _⟩
    · rw [Outs.map h, Option.some.inj e]; rfl
    · cases e
theorem Outs.filter {p : D → Bool} : ∀ {ds ys : List D}, Outs (fun d o => o = if p d = true then some d else none) ds ys → ys = ds.filter p
  | [], ys, h => h
  | d :: ds, ys, h => by
    rcases h with ⟨y, r, e, rfl, h⟩ | ⟨e, h⟩
    · by_cases z : p d = true
      · rw [if_pos z] at e
        rw [List.filter_cons_of_pos z, Outs.filter h, Option.some.inj e]
      · rw [if_neg z] at e; cases e
    · by_cases z : p d = true
      · rw [if_pos z] at e; cases e
      · rw [List.filter_cons_of_neg z, Outs.filter h]
/-- each turn yields one thing of the kind T -/
theorem Outs.all {T : D → Prop} : ∀ {ds ys : List D}, Outs (fun _ o => ∃ y, o = some y ∧ T y) ds ys → ys.length = ds.length ∧ ∀ y ∈ ys, T y
  | [], ys, h => by rw [show ys = [] from h]; exact ⟨rfl, fun y hy => by cases hy⟩
  | d :: ds, ys, h => by
    rcases h with ⟨y, r, ⟨y', e, t⟩, rfl, h⟩ | ⟨⟨y', e, t⟩, _⟩
    · cases e
      obtain ⟨h1, h2⟩ := Outs.all h
      exact ⟨by rw [List.length_cons, List.length_cons, h1], fun z hz => by
        rcases List.mem_cons.mp hz with rfl | hz
        · exact t
        · exact h2 z hz⟩
    · cases e
theorem rangeD_length (lo hi : Int) : (rangeD lo hi).length = (hi - lo).toNat := by unfold rangeD; rw [List.length_map, List.length_range]
theorem rangeD_mem {lo hi : Int} {d : D} (h : d ∈ rangeD lo hi) : ∃ i : Int, d = .int i ∧ lo ≤ i ∧ i < hi := by
  unfold rangeD at h
  obtain ⟨i, hi, rfl⟩ := List.mem_map.mp h
  have := List.mem_range.mp hi
  exact ⟨_, rfl, by omega, by omega⟩
/-- a list whose things are all ints -/
theorem ints_of : ∀ {ds : List D} {P : Int → Prop}, (∀ d ∈ ds, ∃ i, d = .int i ∧ P i) → ∃ ns : List Int, ds = ns.map D.int ∧ (∀ n ∈ ns, P n) ∧ ns.length = ds.length
  | [], P, _ => ⟨[], rfl, (fun n hn => by cases hn), rfl⟩
  | d :: ds, P, h => by
    obtain ⟨i, rfl, hi⟩ := h d List.mem_cons_self
    obtain ⟨ns, rfl, h2, h3⟩ := ints_of (ds := ds) (P := P) fun x hx => h x (List.mem_cons_of_mem _ hx)
    refine ⟨i :: ns, rfl, fun n hn => ?_, by simp⟩
    rcases List.mem_cons.mp hn with rfl | hn
    · exact hi
    · exact h2 n hn

/-! ### the readings, applied -/
section
variable {ρ : List Sl} {E : EnD} {w1 w2 wb wt' : WS} {wc t u : WT} {w wa wb' wc' : WE} {wl : WA} {was : WAs} {wg : WG} {Qb : Bool → List Sl → Prop} {Qd : D → List Sl → Prop} {Ql : List D → List Sl → Prop} {Qs : Sl → List Sl → Prop} {Qa : List Sl → List Sl → Prop} {i : Nat} {d : D}
theorem wSeq_e : wSeq w1 w2 ρ E = w1 ρ { E with nx := fun ρ' => w2 ρ' E } := rfl
theorem wNext_e : wNext ρ E = E.nx ρ := rfl
theorem wBreak_e : wBreak ρ E = E.bk ρ := rfl
theorem wCont_e : wCont ρ E = E.ct ρ := rfl
theorem wRet_e : wRet w ρ E = w ρ fun d _ => E.rt d := rfl
theorem wRetN_e : wRetN ρ E = E.rt .non := rfl
theorem wDrop_e : wDrop w ρ E = w ρ fun _ ρ1 => E.nx ρ1 := rfl
theorem boolM {k : Bool} {A B : Prop} : (match k with | true => A | false => B) = ((k = true → A) ∧ (k = false → B)) := by cases k <;> simp
theorem wIf_e : wIf wc w1 w2 ρ E = wc ρ fun k ρ1 => (k = true → w1 ρ1 E) ∧ (k = false → w2 ρ1 E) := by
  unfold wIf
  congr 1
  funext k ρ1
  cases k <;> simp
theorem wAnd_e : wAnd t u ρ Qb = t ρ fun k ρ1 => (k = true → u ρ1 Qb) ∧ (k = false → Qb false ρ1) := by
  unfold wAnd
  congr 1
  funext k ρ1
  cases k <;> simp
theorem wOr_e : wOr t u ρ Qb = t ρ fun k ρ1 => (k = true → Qb true ρ1) ∧ (k = false → u ρ1 Qb) := by
  unfold wOr
  congr 1
  funext k ρ1
  cases k <;> simp
theorem wNot_e : wNot t ρ Qb = t ρ fun k ρ1 => Qb (!k) ρ1 := rfl
theorem wTst_e : wTst w ρ Qb = w ρ fun d ρ' => ∃ k, d = .bl k ∧ Qb k ρ' := by
  unfold wTst
  congr 1
  funext d ρ'
  cases d <;> simp
theorem bl2 {d : D} {A B : Prop} : (match d with | .bl true => A | .bl false => B | _ => False) = ∃ k, d = .bl k ∧ (k = true → A) ∧ (k = false → B) := by
  cases d with
  | bl k => cases k <;> simp
  | _ => simp
theorem wAndV_e : wAndV wa wb' ρ Qd = wa ρ fun d ρ1 => ∃ k, d = .bl k ∧ (k = true → wb' ρ1 Qd) ∧ (k = false → Qd (.bl false) ρ1) := by
  unfold wAndV
  congr 1
  funext d ρ1
  exact bl2
theorem wOrV_e : wOrV wa wb' ρ Qd = wa ρ fun d ρ1 => ∃ k, d = .bl k ∧ (k = true → Qd (.bl true) ρ1) ∧ (k = false → wb' ρ1 Qd) := by
  unfold wOrV
  congr 1
  funext d ρ1
  exact bl2
theorem wNotV_e : wNotV wa ρ Qd = wa ρ fun d ρ1 => ∃ k, d = .bl k ∧ Qd (.bl (!k)) ρ1 := by
  unfold wNotV
  congr 1
  funext d ρ'
  cases d <;> simp
theorem wIfE_e : wIfE t wa wb' ρ Qd = t ρ fun k ρ1 => (k = true → wa ρ1 Qd) ∧ (k = false → wb' ρ1 Qd) := by
  unfold wIfE
  congr 1
  funext k ρ1
  cases k <;> simp
theorem wChain_e {wr wr' : D → D → (D → Prop) → Prop} : wChain wr wr' wa wb' wc' ρ Qd = wa ρ fun d1 ρ1 => wb' ρ1 fun d2 ρ2 => wr d1 d2 fun d => ∃ k, d = .bl k ∧ (k = true → wc' ρ2 fun d3 ρ3 => wr' d2 d3 fun d' => Qd d' ρ3) ∧ (k = false → Qd (.bl false) ρ2) := by
  unfold wChain
  congr 1; funext d1 ρ1; congr 1; funext d2 ρ2; congr 1; funext d
  exact bl2
theorem wVar_e : wVar i ρ Qd = match ρ[i]? with
  | some (.sh d) => Qd d ρ
  | some .no => False
  | some .bx => False
  | some sl => Qd (obD sl) (ρ.set i (.sh (obD sl)))
  | none => False := rfl
theorem wPk_e : wPk i ρ Qd = match ρ[i]? with
  | some (.sh d) => Qd d ρ
  | some .no => False
  | some .bx => False
  | some sl => Qd (obD sl) ρ
  | none => False := rfl
theorem wC_e : wC d ρ Qd = Qd d ρ := rfl
theorem wOp_e {wr : D → D → (D → Prop) → Prop} : wOp wr wa wb' ρ Qd = wa ρ fun d1 ρ1 => wb' ρ1 fun d2 ρ2 => wr d1 d2 fun d => Qd d ρ2 := rfl
theorem wUn_e {wr : D → (D → Prop) → Prop} : wUn wr wa ρ Qd = wa ρ fun d1 ρ1 => wr d1 fun d => Qd d ρ1 := rfl
theorem wM1_e {wr : D → D → (D → Prop) → Prop} : wM1 wr wa wb' ρ Qd = wa ρ fun d1 ρ1 => (∃ s, d1 = .str s) ∧ wb' ρ1 fun d2 ρ2 => wr d1 d2 fun d => Qd d ρ2 := rfl
theorem wTup_e : wTup wl ρ Qd = wl ρ fun ds ρ1 => ds.length ≤ sizeLine ∧ Qd (.tup ds) ρ1 := rfl
theorem wfLst_e : wfLst wl ρ Qs = wl ρ fun ds ρ1 => ds.length ≤ sizeLine ∧ Qs (.ol ds) ρ1 := rfl
theorem wFz_e {wf : List Sl → (Sl → List Sl → Prop) → Prop} : wFz wf ρ Qd = wf ρ fun sl ρ1 => Qd (obD sl) ρ1 := rfl
theorem waNil_e : waNil ρ Ql = Ql [] ρ := rfl
theorem waCons_e : waCons w wl ρ Ql = w ρ fun d ρ1 => wl ρ1 fun ds ρ2 => Ql (d :: ds) ρ2 := rfl
theorem asNil_e : asNil ρ Qa = Qa [] ρ := rfl
theorem asCons_e : asCons w was ρ Qa = w ρ fun d ρ1 => was ρ1 fun as ρ2 => Qa (.sh d :: as) ρ2 := rfl
theorem asBox_e : asBox i was ρ Qa = (ρ[i]? = some .bx ∧ was ρ fun as ρ2 => Qa (.bx :: as) ρ2) := rfl
theorem wCall_e {wf : WFn} : wCall wf was ρ Qd = was ρ fun as ρ1 => wf as fun d => Qd d ρ1 := rfl
theorem wAsg_e : wAsg w wg ρ E = w ρ fun d ρ1 => wg d ρ1 E.nx := rfl
theorem wSt_e {Q : List Sl → Prop} : wSt i d ρ Q = match ρ[i]? with
  | some _ => Q (ρ.set i (.sh d))
  | none => False := rfl
theorem wAsgO_e {wf : List Sl → (Sl → List Sl → Prop) → Prop} : wAsgO wf i ρ E = wf ρ fun sl ρ1 => match ρ1[i]? with
  | some _ => E.nx (ρ1.set i sl)
  | none => False := rfl
theorem wTp_e {is : List Nat} {Q : List Sl → Prop} {ds : List D} : wTp is (.tup ds) ρ Q = (ds.length = is.length ∧ wStL is ds ρ Q) := rfl
theorem wStL_nil {Q : List Sl → Prop} : wStL [] [] ρ Q = Q ρ := rfl
theorem wStL_cons {Q : List Sl → Prop} {r : List Nat} {ds : List D} : wStL (i :: r) (d :: ds) ρ Q = wSt i d ρ fun ρ1 => wStL r ds ρ1 Q := rfl
theorem wFor_e : wFor wl wg wb ρ E = wl ρ fun ds ρ1 => wForL wg wb ds ρ1 E := rfl
theorem wRg1_e : wRg1 wl ρ Ql = wl ρ fun ds ρ1 => match ds with
  | [.int j] => (-(2 ^ 62) ≤ j ∧ j < 2 ^ 62) ∧ Ql (rangeD 0 j) ρ1
  | _ => False := rfl
theorem wRg2_e : wRg2 wl ρ Ql = wl ρ fun ds ρ1 => match ds with
  | [.int i, .int j] => (-(2 ^ 62) ≤ i ∧ i < 2 ^ 62 ∧ -(2 ^ 62) ≤ j ∧ j < 2 ^ 62) ∧ Ql (rangeD i j) ρ1
  | _ => False := rfl
theorem wItL_e : wItL w ρ Ql = w ρ fun d ρ1 => match d with
  | .lst ds => Ql ds ρ1
  | _ => False := rfl
theorem wItT_e : wItT w ρ Ql = w ρ fun d ρ1 => match d with
  | .tup ds => Ql ds ρ1
  | _ => False := rfl
theorem wItS_e : wItS w ρ Ql = w ρ fun d ρ1 => match d with
  | .str z => Ql (signsD z) ρ1
  | _ => False := rfl
theorem wApp_e : wApp i w ρ E = match ρ[i]? with
  | some (.ol _) => w ρ fun d ρ1 => match ρ1[i]? with
    | some (.ol ds) => ds.length < sizeLine ∧ E.nx (ρ1.set i (.ol (ds ++ [d])))
    | _ => False
  | _ => False := rfl
theorem woNone_e {Q : Option Int → List Sl → Prop} : woNone ρ Q = Q none ρ := rfl
theorem woSome_e {Q : Option Int → List Sl → Prop} : woSome w ρ Q = w ρ fun d ρ1 => match d with
  | .int i => Q (some i) ρ1
  | _ => False := rfl
theorem wCut_e {w1 w2 : WO} : wCut w w1 w2 ρ Qd = w ρ fun d ρ1 => w1 ρ1 fun lo ρ2 => w2 ρ2 fun hi ρ3 => dCut lo hi d fun d' => Qd d' ρ3 := rfl
theorem wBx1_e : wBx1 i ρ Qd = (ρ[i]? = some .bx ∧ ∀ n : Int, 0 ≤ n → Qd (.int n) ρ) := rfl
theorem wBx0_e : wBx0 i ρ Qd = (ρ[i]? = some .bx ∧ ∀ ns : List Int, Qd (.lst (ns.map D.int)) ρ) := rfl
theorem wBxPut_e : wBxPut i w ρ E = w ρ fun d ρ1 => ρ1[i]? = some .bx ∧ match d with
  | .int n => 0 ≤ n ∧ E.nx ρ1
  | _ => False := rfl
theorem wTru_e : wTru w ρ Qb = w ρ fun d ρ1 => dTru d fun k => Qb k ρ1 := rfl
theorem wLc_e {vs : List Nat} {we : WE} : wLc vs wl wg t we ρ Qs = wl ρ fun ds ρ1 => ds.length ≤ sizeLine ∧ noOwnB ρ1 vs = true ∧ wLcL vs wg t we ds (wipeD ρ1 vs) [] fun acc ρ2 => noOwnB ρ2 vs = true ∧ Qs (.ol acc) (wipeD ρ2 vs.reverse) := rfl
theorem wYes_e : wYes ρ Qb = Qb true ρ := rfl
theorem wAug_e {wr : D → D → (D → Prop) → Prop} : wAug i wr w ρ E = match ρ[i]? with
  | some (.sh d0) => w ρ fun d ρ1 => wr d0 d fun d' => wSt i d' ρ1 E.nx
  | _ => False := rfl
theorem wDraw_e {j k : Nat} : wDraw i j k ρ E = (ρ[i]? = some .bx ∧ ∃ a n : Int, ρ[j]? = some (.sh (.int a)) ∧ ρ[k]? = some (.sh (.int n)) ∧ 0 ≤ a ∧ 0 < n ∧ (∀ r : Int, 0 ≤ r → r < n → E.rt (.int r)) ∧ E.nx ρ) := rfl
end
theorem sz_line : sizeLine = 16777216 := rfl
theorem atI_zero {α : Type} {a : α} {l : List α} : atI (a :: l) 0 = some a := atI_nat (by decide) rfl
theorem atI_one {α : Type} {a b : α} {l : List α} : atI (a :: b :: l) 1 = some b := atI_nat (by decide) rfl
theorem joinL_one : ∀ cs : List Nat, TL.joinL [] (cs.map fun c => [c]) = cs
  | [] => rfl
  | [c] => rfl
  | c :: d :: cs => by
    have := joinL_one (d :: cs)
    simp only [List.map_cons] at this
    simp only [List.map_cons, TL.joinL, this]
    rfl
theorem join_one (cs : List Nat) : Txt.join "" (cs.map fun c => (⟨#[c]⟩ : Str)) = ⟨cs.toArray⟩ := by
  have h := SX.join_S [] (cs.map fun c => [c])
  rw [joinL_one, List.map_map] at h
  exact h
theorem one_sum : ∀ cs : List Nat, ((cs.map fun c => (⟨#[c]⟩ : Str)).map (·.length)).sum = cs.length
  | [] => rfl
  | c :: cs => by
    have := one_sum cs
    simp only [List.map_cons, List.sum_cons, List.length_cons, this]
    show 1 + cs.length = _
    omega
theorem dJoin_one {cs : List Nat} {Q : D → Prop} (hl : cs.length ≤ 1000000) (q : Q (.str ⟨cs.toArray⟩)) : dJoin (.str "") (.lst (cs.map fun c => D.str ⟨#[c]⟩)) Q := by
  refine ⟨cs.map fun c => (⟨#[c]⟩ : Str), by rw [List.map_map]; rfl, ?_, by rw [join_one]; exact q⟩
  have e := one_sum cs
  rw [e, List.length_map]
  have : Str.length "" = 0 := by decide
  rw [this]
  omega
theorem signs_mk (cs : List Nat) : signsD ⟨cs.toArray⟩ = cs.map fun c => D.str ⟨#[c]⟩ := rfl
/-- things that are single signs -/
theorem signs_of : ∀ {ds : List D} {P : Nat → Prop}, (∀ d ∈ ds, ∃ c, d = D.str ⟨#[c]⟩ ∧ P c) → ∃ cs : List Nat, ds = cs.map (fun c => D.str ⟨#[c]⟩) ∧ (∀ c ∈ cs, P c) ∧ cs.length = ds.length
  | [], P, _ => ⟨[], rfl, (fun n hn => by cases hn), rfl⟩
  | d :: ds, P, h => by
    obtain ⟨i, rfl, hi⟩ := h d List.mem_cons_self
    obtain ⟨ns, rfl, h2, h3⟩ := signs_of (ds := ds) (P := P) fun x hx => h x (List.mem_cons_of_mem _ hx)
    refine ⟨i :: ns, rfl, fun n hn => ?_, by simp⟩
    rcases List.mem_cons.mp hn with rfl | hn
    · exact hi
    · exact h2 n hn
theorem strOk_small {cs : List Nat} (h : ∀ c ∈ cs, c < 1000) : PyData.strOk ⟨cs.toArray⟩ = true := by
  unfold PyData.strOk
  rw [← Array.all_toList]
  simp only [List.all_eq_true]
  intro c hc
  have := h c hc
  simp
  omega
def az : Str := "abcdefghijklmnopqrstuvwxyz"
theorem az_occ : ∀ z : _root_.Fin 26, Builtin.Str.occurrences "abcdefghijklmnopqrstuvwxyz" ⟨#[97 + z.1]⟩ 0 (Str.length "abcdefghijklmnopqrstuvwxyz") 1 = [z.1] := by decide +kernel
theorem az_at : ∀ z : _root_.Fin 26, (Str.cps "abcdefghijklmnopqrstuvwxyz").toList[z.1]? = some (97 + z.1) := by decide +kernel
theorem az_len : Str.length "abcdefghijklmnopqrstuvwxyz" = 26 := by decide +kernel
theorem dSIndex_az {c : Nat} {Q : D → Prop} (h1 : 97 ≤ c) (h2 : c ≤ 122) (q : Q (.int ((c - 97 : Nat) : Int))) : dSIndex (.str "abcdefghijklmnopqrstuvwxyz") (.str ⟨#[c]⟩) Q := by
  have e := az_occ ⟨c - 97, by omega⟩
  have e2 : 97 + (c - 97) = c := by omega
  simp only [e2] at e
  exact ⟨_, _, e, q⟩
theorem dIx_az {i : Int} {Q : D → Prop} (h1 : 0 ≤ i) (h2 : i < 26) (q : Q (.str ⟨#[97 + i.toNat]⟩)) : dIx (.str "abcdefghijklmnopqrstuvwxyz") (.int i) Q :=
  ⟨by rw [az_len]; decide, _, atI_nat h1 (az_at ⟨i.toNat, by omega⟩), q⟩
theorem atI_mem {α : Type} {l : List α} {i : Int} (h0 : 0 ≤ i) (h1 : i < l.length) : ∃ d, d ∈ l ∧ atI l i = some d := by
  have hl : i.toNat < l.length := by omega
  exact ⟨l[i.toNat], List.getElem_mem _, atI_nat h0 (List.getElem?_eq_getElem hl)⟩
theorem dIx_l {ds : List D} {i : Int} {Q : D → Prop} : dIx (.lst ds) (.int i) Q = ∃ d, atI ds i = some d ∧ Q d := rfl
theorem dIx_t {ds : List D} {i : Int} {Q : D → Prop} : dIx (.tup ds) (.int i) Q = ∃ d, atI ds i = some d ∧ Q d := rfl
theorem dIx_s {ds : List D} {i : Int} {Q : D → Prop} : dIx (.scr ds) (.int i) Q = ∃ d, atI ds i = some d ∧ Q d := rfl
theorem shD_lit1 {a : Int} : shD (.lst [.int a]) := shD_ints [a]
theorem eqDL_lit1 {ns : List Int} {a : Int} : eqDL (ns.map D.int) [.int a] = decide (ns = [a]) := eqDL_ints ns [a]
theorem str_m_u : (("move" : Str) = "undo") = False := eq_false (by decide +kernel)
theorem str_y_u : (("year" : Str) = "undo") = False := eq_false (by decide +kernel)
theorem str_y_m : (("year" : Str) = "move") = False := eq_false (by decide +kernel)
end DL

namespace DL
open PySem PySem.Spec PyProof.Rows L2
inductive Deed where
  | undo | move (n : Int) | year (cs : List Nat)
def Deed.ok : Deed → Prop
  | .undo => True
  | .move n => 0 ≤ n ∧ n < 256
  | .year cs => 1 ≤ cs.length ∧ cs.length ≤ 8 ∧ ∀ c ∈ cs, 97 ≤ c ∧ c ≤ 122
def Deed.dd : Deed → D
  | .undo => .tup [.str "undo"]
  | .move n => .tup [.str "move", .int n]
  | .year cs => .tup [.str "year", .str ⟨cs.toArray⟩]
def Deed.body : Deed → List Int
  | .undo => [3]
  | .move n => [2, n]
  | .year cs => 1 :: cs.map fun c : Nat => (c : Int)
def recI (b : List Int) : List Int := (b.length : Int) :: (b ++ [b.sum % 256, 170])
theorem Deed.body_len {e : Deed} (h : e.ok) : 1 ≤ e.body.length ∧ e.body.length ≤ 9 := by
  cases e with
  | undo => simp [Deed.body]
  | move n => simp [Deed.body]
  | year cs => have := h.2.1; simp [Deed.body]; omega
theorem Deed.body_oct {e : Deed} (h : e.ok) : ∀ n ∈ e.body, 0 ≤ n ∧ n < 256 := by
  cases e with
  | undo => intro n hn; simp [Deed.body] at hn; omega
  | move m =>
    intro n hn
    have : 0 ≤ m ∧ m < 256 := h
    simp [Deed.body] at hn; omega
  | year cs =>
    intro n hn
    simp only [Deed.body, List.mem_cons, List.mem_map] at hn
    rcases hn with rfl | ⟨c, hc, rfl⟩
    · omega
    · have := h.2.2 c hc; omega
theorem recI_map {b : List Int} : ([D.int (b.length : Int)] ++ b.map D.int) ++ [D.int (b.sum % 256), D.int 170] = (recI b).map D.int := by simp [recI]
/-- the sign-by-sign comprehension over a year's text -/
theorem year_lc {cs : List Nat} (h : ∀ c ∈ cs, 97 ≤ c ∧ c ≤ 122) {vs : List Nat} {wg : WG} {we : WE} {ρ : List Sl} {Q : List D → List Sl → Prop}
    (step : ∀ c : Nat, 97 ≤ c → c ≤ 122 → ∀ Kt : D → List Sl → Prop, Kt (.int (c : Int)) ρ → wg (.str ⟨#[c]⟩) ρ fun ρ1 => we ρ1 fun y ρ3 => noOwnB ρ3 vs = true ∧ Kt y (wipeD ρ3 vs))
    (q : Q ((cs.map fun c : Nat => (c : Int)).map D.int) ρ) : wLcL vs wg wYes we (signsD ⟨cs.toArray⟩) ρ [] Q := by
  rw [signs_mk]
  refine wLcL_rule (fun d => ∃ c : Nat, d = .str ⟨#[c]⟩ ∧ 97 ≤ c ∧ c ≤ 122) (fun d o => o = some (match d with | .str z => .int (z.cps.getD 0 0 : Nat) | d => d)) ?_ _ _ _ ?_ ?_
  · rintro d ⟨c, rfl, h1, h2⟩ Kt Kf ht hf
    simp only [↓wSeq_e, ↓wNext_e, ↓wBreak_e, ↓wCont_e, ↓wRet_e, ↓wRetN_e, ↓wDrop_e, ↓wIf_e, ↓wAnd_e, ↓wOr_e, ↓wNot_e, ↓wTst_e, ↓wAndV_e, ↓wOrV_e, ↓wNotV_e, ↓wIfE_e, ↓wChain_e, ↓wVar_e, ↓wPk_e, ↓wC_e, ↓wOp_e, ↓wUn_e, ↓wM1_e, ↓wTup_e, ↓wfLst_e, ↓wFz_e, ↓waNil_e, ↓waCons_e, ↓asNil_e, ↓asCons_e, ↓asBox_e, ↓wCall_e, ↓wAsg_e, ↓wSt_e, ↓wAsgO_e, ↓wTp_e, ↓wStL_nil, ↓wStL_cons, ↓wFor_e, ↓wRg1_e, ↓wRg2_e, ↓wItL_e, ↓wItT_e, ↓wItS_e, ↓wApp_e, ↓woNone_e, ↓woSome_e, ↓wCut_e, ↓wBx1_e, ↓wBx0_e, ↓wBxPut_e, ↓wDraw_e, ↓wTru_e, ↓wLc_e, ↓wYes_e, ↓wAug_e, dLt, dLe, dGt, dGe, dSub, dMul, dMod, dFdiv, dPow, dI2, dI2C, dAdd, dEq, dNe, dLen, dInt, dIx_l, dIx_t, dIx_s, dList, dSum, dCut, atI_zero, atI_one, Option.some.injEq, dTru, dMax2, dMin2, dIs, dNotIs, obD, id_eq, List.getElem?_cons_zero, List.getElem?_cons_succ, List.set_cons_zero, List.set_cons_succ, List.length_cons, List.length_nil, D.bl.injEq, exists_eq_left', decide_eq_true_eq, decide_eq_false_iff_not, Bool.not_eq_true', Bool.not_eq_false', Nat.zero_add, Nat.reduceAdd, true_and, and_true, forall_const, reduceCtorEq, not_true_eq_false, not_false_eq_true, false_implies, true_implies, implies_true, sz_line, Nat.reduceLeDiff, Int.reduceLE, Int.reduceLT, Int.reduceNeg, Int.reducePow, Int.reduceAdd, Int.reduceSub, Int.reduceMul]
    exact step c h1 h2 Kt (ht _ rfl)
  · intro d hd
    obtain ⟨c, hc, rfl⟩ := List.mem_map.mp hd
    exact ⟨c, rfl, h c hc⟩
  · intro ys hy
    rw [Outs.map hy, List.nil_append, List.map_map]
    rw [List.map_map] at q
    exact q
def Oct (ns : List Int) : Prop := ∀ n ∈ ns, 0 ≤ n ∧ n < 256
theorem Oct.nil : Oct [] := fun n h => by cases h
theorem Oct.cons {n : Int} {ns : List Int} (h : 0 ≤ n ∧ n < 256) (r : Oct ns) : Oct (n :: ns) := fun m hm => by
  rcases List.mem_cons.mp hm with rfl | hm
  · exact h
  · exact r m hm
theorem Oct.append {a b : List Int} (h : Oct a) (r : Oct b) : Oct (a ++ b) := fun m hm => by
  rcases List.mem_append.mp hm with hm | hm
  · exact h m hm
  · exact r m hm
theorem Oct.take {a : List Int} (n : Nat) (h : Oct a) : Oct (a.take n) := fun m hm => h m (List.mem_of_mem_take hm)
theorem Oct.drop {a : List Int} (n : Nat) (h : Oct a) : Oct (a.drop n) := fun m hm => h m (List.mem_of_mem_drop hm)
theorem Oct.recI {b : List Int} (h : Oct b) (hl : b.length < 256) : Oct (recI b) :=
  .cons (by omega) (.append h (.cons ⟨Int.emod_nonneg _ (by decide), Int.emod_lt_of_pos _ (by decide)⟩ (.cons (by decide) .nil)))
theorem recI_len (b : List Int) : (recI b).length = b.length + 3 := by simp [DL.recI]
theorem cut_to {ns : List Int} {a : Int} (h : 0 ≤ a) : cutD (ns.map D.int) none (some a) = (ns.take a.toNat).map D.int := by rw [cutD_to _ h, List.map_take]
theorem cut_from {ns : List Int} {a : Int} (h : 0 ≤ a) : cutD (ns.map D.int) (some a) none = (ns.drop a.toNat).map D.int := by rw [cutD_from _ h, List.map_drop]
/-! ### body_of -/def wf_body_of : WFn
  | [.sh d], Q => ∃ e : Deed, e.ok ∧ d = e.dd ∧ Q (.lst (e.body.map D.int))
  | _, _ => False
theorem len_body_of : ∀ as Qd, wf_body_of as Qd → as.length = 1 := fun as Qd h => by
  unfold wf_body_of at h
  split at h
  · rfl
  · exact h.elim

def w_body_of : WS := (wSeq (wIf (wTst (wOp dEq (wOp dIx (wPk 0) (wC (.int 0))) (wC (.str "undo"))))
 (wRet (wFz (wfLst (waCons (wC (.int (3))) waNil))))
 wNext)
 (wSeq (wIf (wTst (wOp dEq (wOp dIx (wPk 0) (wC (.int 0))) (wC (.str "move"))))
 (wRet (wFz (wfLst (waCons (wC (.int (2))) (waCons (wOp dIx (wPk 0) (wC (.int 1))) waNil)))))
 wNext)
 (wRet (wOp dAdd (wFz (wfLst (waCons (wC (.int (1))) waNil))) (wFz (wLc [1] (wItS (wOp dIx (wPk 0) (wC (.int 1)))) (wSt 1) wYes (wOp dAdd (wC (.int 97)) (wM1 dSIndex (wC (.str "abcdefghijklmnopqrstuvwxyz")) (wPk 1)))))))))

theorem p_body_of : ∀ as Qd, wf_body_of as Qd → w_body_of (startD ["deed", "sign"] as) { nx := fun _ => Qd .non, rt := Qd } := fun as Qd h => by
  unfold wf_body_of at h
  split at h
  · obtain ⟨e, he, rfl, q⟩ := h
    show w_body_of [.sh _, .no] _
    cases e with
    | undo => simp only [w_body_of, Deed.dd, ↓wSeq_e, ↓wNext_e, ↓wBreak_e, ↓wCont_e, ↓wRet_e, ↓wRetN_e, ↓wDrop_e, ↓wIf_e, ↓wAnd_e, ↓wOr_e, ↓wNot_e, ↓wTst_e, ↓wAndV_e, ↓wOrV_e, ↓wNotV_e, ↓wIfE_e, ↓wChain_e, ↓wVar_e, ↓wPk_e, ↓wC_e, ↓wOp_e, ↓wUn_e, ↓wM1_e, ↓wTup_e, ↓wfLst_e, ↓wFz_e, ↓waNil_e, ↓waCons_e, ↓asNil_e, ↓asCons_e, ↓asBox_e, ↓wCall_e, ↓wAsg_e, ↓wSt_e, ↓wAsgO_e, ↓wTp_e, ↓wStL_nil, ↓wStL_cons, ↓wFor_e, ↓wRg1_e, ↓wRg2_e, ↓wItL_e, ↓wItT_e, ↓wItS_e, ↓wApp_e, ↓woNone_e, ↓woSome_e, ↓wCut_e, ↓wBx1_e, ↓wBx0_e, ↓wBxPut_e, ↓wDraw_e, ↓wTru_e, ↓wLc_e, ↓wYes_e, ↓wAug_e, dLt, dLe, dGt, dGe, dSub, dMul, dMod, dFdiv, dPow, dI2, dI2C, dAdd, dEq, dNe, dLen, dInt, dIx_l, dIx_t, dIx_s, dList, dSum, dCut, atI_zero, atI_one, Option.some.injEq, dTru, dMax2, dMin2, dIs, dNotIs, obD, id_eq, List.getElem?_cons_zero, List.getElem?_cons_succ, List.set_cons_zero, List.set_cons_succ, List.length_cons, List.length_nil, D.bl.injEq, exists_eq_left', decide_eq_true_eq, decide_eq_false_iff_not, Bool.not_eq_true', Bool.not_eq_false', Nat.zero_add, Nat.reduceAdd, true_and, and_true, forall_const, reduceCtorEq, not_true_eq_false, not_false_eq_true, false_implies, true_implies, implies_true, sz_line, Nat.reduceLeDiff, Int.reduceLE, Int.reduceLT, Int.reduceNeg, Int.reducePow, Int.reduceAdd, Int.reduceSub, Int.reduceMul, dEqB]; exact q
    | move n => simp only [w_body_of, Deed.dd, ↓wSeq_e, ↓wNext_e, ↓wBreak_e, ↓wCont_e, ↓wRet_e, ↓wRetN_e, ↓wDrop_e, ↓wIf_e, ↓wAnd_e, ↓wOr_e, ↓wNot_e, ↓wTst_e, ↓wAndV_e, ↓wOrV_e, ↓wNotV_e, ↓wIfE_e, ↓wChain_e, ↓wVar_e, ↓wPk_e, ↓wC_e, ↓wOp_e, ↓wUn_e, ↓wM1_e, ↓wTup_e, ↓wfLst_e, ↓wFz_e, ↓waNil_e, ↓waCons_e, ↓asNil_e, ↓asCons_e, ↓asBox_e, ↓wCall_e, ↓wAsg_e, ↓wSt_e, ↓wAsgO_e, ↓wTp_e, ↓wStL_nil, ↓wStL_cons, ↓wFor_e, ↓wRg1_e, ↓wRg2_e, ↓wItL_e, ↓wItT_e, ↓wItS_e, ↓wApp_e, ↓woNone_e, ↓woSome_e, ↓wCut_e, ↓wBx1_e, ↓wBx0_e, ↓wBxPut_e, ↓wDraw_e, ↓wTru_e, ↓wLc_e, ↓wYes_e, ↓wAug_e, dLt, dLe, dGt, dGe, dSub, dMul, dMod, dFdiv, dPow, dI2, dI2C, dAdd, dEq, dNe, dLen, dInt, dIx_l, dIx_t, dIx_s, dList, dSum, dCut, atI_zero, atI_one, Option.some.injEq, dTru, dMax2, dMin2, dIs, dNotIs, obD, id_eq, List.getElem?_cons_zero, List.getElem?_cons_succ, List.set_cons_zero, List.set_cons_succ, List.length_cons, List.length_nil, D.bl.injEq, exists_eq_left', decide_eq_true_eq, decide_eq_false_iff_not, Bool.not_eq_true', Bool.not_eq_false', Nat.zero_add, Nat.reduceAdd, true_and, and_true, forall_const, reduceCtorEq, not_true_eq_false, not_false_eq_true, false_implies, true_implies, implies_true, sz_line, Nat.reduceLeDiff, Int.reduceLE, Int.reduceLT, Int.reduceNeg, Int.reducePow, Int.reduceAdd, Int.reduceSub, Int.reduceMul, dEqB, str_m_u]; exact q
    | year cs =>
      obtain ⟨h1, h2, h3⟩ := he
      simp only [w_body_of, Deed.dd, ↓wSeq_e, ↓wNext_e, ↓wBreak_e, ↓wCont_e, ↓wRet_e, ↓wRetN_e, ↓wDrop_e, ↓wIf_e, ↓wAnd_e, ↓wOr_e, ↓wNot_e, ↓wTst_e, ↓wAndV_e, ↓wOrV_e, ↓wNotV_e, ↓wIfE_e, ↓wChain_e, ↓wVar_e, ↓wPk_e, ↓wC_e, ↓wOp_e, ↓wUn_e, ↓wM1_e, ↓wTup_e, ↓wfLst_e, ↓wFz_e, ↓waNil_e, ↓waCons_e, ↓asNil_e, ↓asCons_e, ↓asBox_e, ↓wCall_e, ↓wAsg_e, ↓wSt_e, ↓wAsgO_e, ↓wTp_e, ↓wStL_nil, ↓wStL_cons, ↓wFor_e, ↓wRg1_e, ↓wRg2_e, ↓wItL_e, ↓wItT_e, ↓wItS_e, ↓wApp_e, ↓woNone_e, ↓woSome_e, ↓wCut_e, ↓wBx1_e, ↓wBx0_e, ↓wBxPut_e, ↓wDraw_e, ↓wTru_e, ↓wLc_e, ↓wYes_e, ↓wAug_e, dLt, dLe, dGt, dGe, dSub, dMul, dMod, dFdiv, dPow, dI2, dI2C, dAdd, dEq, dNe, dLen, dInt, dIx_l, dIx_t, dIx_s, dList, dSum, dCut, atI_zero, atI_one, Option.some.injEq, dTru, dMax2, dMin2, dIs, dNotIs, obD, id_eq, List.getElem?_cons_zero, List.getElem?_cons_succ, List.set_cons_zero, List.set_cons_succ, List.length_cons, List.length_nil, D.bl.injEq, exists_eq_left', decide_eq_true_eq, decide_eq_false_iff_not, Bool.not_eq_true', Bool.not_eq_false', Nat.zero_add, Nat.reduceAdd, true_and, and_true, forall_const, reduceCtorEq, not_true_eq_false, not_false_eq_true, false_implies, true_implies, implies_true, sz_line, Nat.reduceLeDiff, Int.reduceLE, Int.reduceLT, Int.reduceNeg, Int.reducePow, Int.reduceAdd, Int.reduceSub, Int.reduceMul, dEqB, str_y_u, str_y_m]
      refine ⟨by rw [signs_mk, List.length_map]; omega, rfl, ?_⟩
      refine year_lc (ρ := [_, .no]) h3 (fun c c1 c2 Kt ht => ?_) ?_
      · simp only [↓wSeq_e, ↓wNext_e, ↓wBreak_e, ↓wCont_e, ↓wRet_e, ↓wRetN_e, ↓wDrop_e, ↓wIf_e, ↓wAnd_e, ↓wOr_e, ↓wNot_e, ↓wTst_e, ↓wAndV_e, ↓wOrV_e, ↓wNotV_e, ↓wIfE_e, ↓wChain_e, ↓wVar_e, ↓wPk_e, ↓wC_e, ↓wOp_e, ↓wUn_e, ↓wM1_e, ↓wTup_e, ↓wfLst_e, ↓wFz_e, ↓waNil_e, ↓waCons_e, ↓asNil_e, ↓asCons_e, ↓asBox_e, ↓wCall_e, ↓wAsg_e, ↓wSt_e, ↓wAsgO_e, ↓wTp_e, ↓wStL_nil, ↓wStL_cons, ↓wFor_e, ↓wRg1_e, ↓wRg2_e, ↓wItL_e, ↓wItT_e, ↓wItS_e, ↓wApp_e, ↓woNone_e, ↓woSome_e, ↓wCut_e, ↓wBx1_e, ↓wBx0_e, ↓wBxPut_e, ↓wDraw_e, ↓wTru_e, ↓wLc_e, ↓wYes_e, ↓wAug_e, dLt, dLe, dGt, dGe, dSub, dMul, dMod, dFdiv, dPow, dI2, dI2C, dAdd, dEq, dNe, dLen, dInt, dIx_l, dIx_t, dIx_s, dList, dSum, dCut, atI_zero, atI_one, Option.some.injEq, dTru, dMax2, dMin2, dIs, dNotIs, obD, id_eq, List.getElem?_cons_zero, List.getElem?_cons_succ, List.set_cons_zero, List.set_cons_succ, List.length_cons, List.length_nil, D.bl.injEq, exists_eq_left', decide_eq_true_eq, decide_eq_false_iff_not, Bool.not_eq_true', Bool.not_eq_false', Nat.zero_add, Nat.reduceAdd, true_and, and_true, forall_const, reduceCtorEq, not_true_eq_false, not_false_eq_true, false_implies, true_implies, implies_true, sz_line, Nat.reduceLeDiff, Int.reduceLE, Int.reduceLT, Int.reduceNeg, Int.reducePow, Int.reduceAdd, Int.reduceSub, Int.reduceMul, wipeD, List.reverse_cons, List.reverse_nil, List.nil_append, noOwnB, List.all_cons, List.all_nil, Bool.and_true, Bool.true_and]
        refine ⟨⟨_, rfl⟩, dSIndex_az c1 c2 ?_⟩
        simp only [↓wSeq_e, ↓wNext_e, ↓wBreak_e, ↓wCont_e, ↓wRet_e, ↓wRetN_e, ↓wDrop_e, ↓wIf_e, ↓wAnd_e, ↓wOr_e, ↓wNot_e, ↓wTst_e, ↓wAndV_e, ↓wOrV_e, ↓wNotV_e, ↓wIfE_e, ↓wChain_e, ↓wVar_e, ↓wPk_e, ↓wC_e, ↓wOp_e, ↓wUn_e, ↓wM1_e, ↓wTup_e, ↓wfLst_e, ↓wFz_e, ↓waNil_e, ↓waCons_e, ↓asNil_e, ↓asCons_e, ↓asBox_e, ↓wCall_e, ↓wAsg_e, ↓wSt_e, ↓wAsgO_e, ↓wTp_e, ↓wStL_nil, ↓wStL_cons, ↓wFor_e, ↓wRg1_e, ↓wRg2_e, ↓wItL_e, ↓wItT_e, ↓wItS_e, ↓wApp_e, ↓woNone_e, ↓woSome_e, ↓wCut_e, ↓wBx1_e, ↓wBx0_e, ↓wBxPut_e, ↓wDraw_e, ↓wTru_e, ↓wLc_e, ↓wYes_e, ↓wAug_e, dLt, dLe, dGt, dGe, dSub, dMul, dMod, dFdiv, dPow, dI2, dI2C, dAdd, dEq, dNe, dLen, dInt, dIx_l, dIx_t, dIx_s, dList, dSum, dCut, atI_zero, atI_one, Option.some.injEq, dTru, dMax2, dMin2, dIs, dNotIs, obD, id_eq, List.getElem?_cons_zero, List.getElem?_cons_succ, List.set_cons_zero, List.set_cons_succ, List.length_cons, List.length_nil, D.bl.injEq, exists_eq_left', decide_eq_true_eq, decide_eq_false_iff_not, Bool.not_eq_true', Bool.not_eq_false', Nat.zero_add, Nat.reduceAdd, true_and, and_true, forall_const, reduceCtorEq, not_true_eq_false, not_false_eq_true, false_implies, true_implies, implies_true, sz_line, Nat.reduceLeDiff, Int.reduceLE, Int.reduceLT, Int.reduceNeg, Int.reducePow, Int.reduceAdd, Int.reduceSub, Int.reduceMul]
        have e : (97 : Int) + ((c - 97 : Nat) : Int) = (c : Int) := by omega
        rw [e]
        exact ht
      · simp only [↓wSeq_e, ↓wNext_e, ↓wBreak_e, ↓wCont_e, ↓wRet_e, ↓wRetN_e, ↓wDrop_e, ↓wIf_e, ↓wAnd_e, ↓wOr_e, ↓wNot_e, ↓wTst_e, ↓wAndV_e, ↓wOrV_e, ↓wNotV_e, ↓wIfE_e, ↓wChain_e, ↓wVar_e, ↓wPk_e, ↓wC_e, ↓wOp_e, ↓wUn_e, ↓wM1_e, ↓wTup_e, ↓wfLst_e, ↓wFz_e, ↓waNil_e, ↓waCons_e, ↓asNil_e, ↓asCons_e, ↓asBox_e, ↓wCall_e, ↓wAsg_e, ↓wSt_e, ↓wAsgO_e, ↓wTp_e, ↓wStL_nil, ↓wStL_cons, ↓wFor_e, ↓wRg1_e, ↓wRg2_e, ↓wItL_e, ↓wItT_e, ↓wItS_e, ↓wApp_e, ↓woNone_e, ↓woSome_e, ↓wCut_e, ↓wBx1_e, ↓wBx0_e, ↓wBxPut_e, ↓wDraw_e, ↓wTru_e, ↓wLc_e, ↓wYes_e, ↓wAug_e, dLt, dLe, dGt, dGe, dSub, dMul, dMod, dFdiv, dPow, dI2, dI2C, dAdd, dEq, dNe, dLen, dInt, dIx_l, dIx_t, dIx_s, dList, dSum, dCut, atI_zero, atI_one, Option.some.injEq, dTru, dMax2, dMin2, dIs, dNotIs, obD, id_eq, List.getElem?_cons_zero, List.getElem?_cons_succ, List.set_cons_zero, List.set_cons_succ, List.length_cons, List.length_nil, D.bl.injEq, exists_eq_left', decide_eq_true_eq, decide_eq_false_iff_not, Bool.not_eq_true', Bool.not_eq_false', Nat.zero_add, Nat.reduceAdd, true_and, and_true, forall_const, reduceCtorEq, not_true_eq_false, not_false_eq_true, false_implies, true_implies, implies_true, sz_line, Nat.reduceLeDiff, Int.reduceLE, Int.reduceLT, Int.reduceNeg, Int.reducePow, Int.reduceAdd, Int.reduceSub, Int.reduceMul, wipeD, List.reverse_cons, List.reverse_nil, List.nil_append, noOwnB, List.all_cons, List.all_nil, Bool.and_true, Bool.true_and, List.length_map]
        exact ⟨by omega, q⟩
  · exact h.elim
/-! ### record_of -/def wf_record_of : WFn
  | [.sh d], Q => ∃ e : Deed, e.ok ∧ d = e.dd ∧ Q (.lst ((recI e.body).map D.int))
  | _, _ => False
theorem len_record_of : ∀ as Qd, wf_record_of as Qd → as.length = 1 := fun as Qd h => by
  unfold wf_record_of at h
  split at h
  · rfl
  · exact h.elim

def w_record_of : WS := (wSeq (wAsg (wCall wf_body_of (asCons (wVar 0) asNil)) (wSt 1))
 (wRet (wOp dAdd (wOp dAdd (wFz (wfLst (waCons (wUn dLen (wPk 1)) waNil))) (wPk 1)) (wFz (wfLst (waCons (wOp dMod (wUn dSum (wPk 1)) (wC (.int 256))) (waCons (wC (.int (170))) waNil)))))))

theorem p_record_of : ∀ as Qd, wf_record_of as Qd → w_record_of (startD ["deed", "body"] as) { nx := fun _ => Qd .non, rt := Qd } := fun as Qd h => by
  unfold wf_record_of at h
  split at h
  · obtain ⟨e, he, rfl, q⟩ := h
    show w_record_of [.sh _, .no] _
    simp only [w_record_of, ↓wSeq_e, ↓wNext_e, ↓wBreak_e, ↓wCont_e, ↓wRet_e, ↓wRetN_e, ↓wDrop_e, ↓wIf_e, ↓wAnd_e, ↓wOr_e, ↓wNot_e, ↓wTst_e, ↓wAndV_e, ↓wOrV_e, ↓wNotV_e, ↓wIfE_e, ↓wChain_e, ↓wVar_e, ↓wPk_e, ↓wC_e, ↓wOp_e, ↓wUn_e, ↓wM1_e, ↓wTup_e, ↓wfLst_e, ↓wFz_e, ↓waNil_e, ↓waCons_e, ↓asNil_e, ↓asCons_e, ↓asBox_e, ↓wCall_e, ↓wAsg_e, ↓wSt_e, ↓wAsgO_e, ↓wTp_e, ↓wStL_nil, ↓wStL_cons, ↓wFor_e, ↓wRg1_e, ↓wRg2_e, ↓wItL_e, ↓wItT_e, ↓wItS_e, ↓wApp_e, ↓woNone_e, ↓woSome_e, ↓wCut_e, ↓wBx1_e, ↓wBx0_e, ↓wBxPut_e, ↓wDraw_e, ↓wTru_e, ↓wLc_e, ↓wYes_e, ↓wAug_e, dLt, dLe, dGt, dGe, dSub, dMul, dMod, dFdiv, dPow, dI2, dI2C, dAdd, dEq, dNe, dLen, dInt, dIx_l, dIx_t, dIx_s, dList, dSum, dCut, atI_zero, atI_one, Option.some.injEq, dTru, dMax2, dMin2, dIs, dNotIs, obD, id_eq, List.getElem?_cons_zero, List.getElem?_cons_succ, List.set_cons_zero, List.set_cons_succ, List.length_cons, List.length_nil, D.bl.injEq, exists_eq_left', decide_eq_true_eq, decide_eq_false_iff_not, Bool.not_eq_true', Bool.not_eq_false', Nat.zero_add, Nat.reduceAdd, true_and, and_true, forall_const, reduceCtorEq, not_true_eq_false, not_false_eq_true, false_implies, true_implies, implies_true, sz_line, Nat.reduceLeDiff, Int.reduceLE, Int.reduceLT, Int.reduceNeg, Int.reducePow, Int.reduceAdd, Int.reduceSub, Int.reduceMul, wf_body_of]
    have hl := Deed.body_len he
    refine ⟨e, he, rfl, by rw [List.length_map]; omega, e.body, rfl, by simp only [List.length_append, List.length_map, List.length_cons, List.length_nil]; omega, ?_⟩
    rw [List.length_map, recI_map]
    exact q
  · exact h.elim
/-! ### fact_of -/def factD (ns : List Int) : D := if 1 ≤ ns.length ∧ ns.length ≤ 8 ∧ ∀ n ∈ ns, 97 ≤ n ∧ n ≤ 122 then .str ⟨(ns.map fun n : Int => n.toNat).toArray⟩ else .non
theorem az_lc {ns : List Int} (h : ∀ n ∈ ns, 97 ≤ n ∧ n ≤ 122) {vs : List Nat} {wg : WG} {we : WE} {ρ : List Sl} {Q : List D → List Sl → Prop}
    (step : ∀ n : Int, 97 ≤ n → n ≤ 122 → ∀ Kt : D → List Sl → Prop, Kt (.str ⟨#[n.toNat]⟩) ρ → wg (.int n) ρ fun ρ1 => we ρ1 fun y ρ3 => noOwnB ρ3 vs = true ∧ Kt y (wipeD ρ3 vs))
    (q : Q ((ns.map fun n : Int => n.toNat).map fun c => D.str ⟨#[c]⟩) ρ) : wLcL vs wg wYes we (ns.map D.int) ρ [] Q := by
  refine wLcL_rule (fun d => ∃ n : Int, d = .int n ∧ 97 ≤ n ∧ n ≤ 122) (fun d o => o = some (match d with | .int n => .str ⟨#[n.toNat]⟩ | d => d)) ?_ _ _ _ ?_ ?_
  · rintro d ⟨c, rfl, h1, h2⟩ Kt Kf ht hf
    simp only [↓wSeq_e, ↓wNext_e, ↓wBreak_e, ↓wCont_e, ↓wRet_e, ↓wRetN_e, ↓wDrop_e, ↓wIf_e, ↓wAnd_e, ↓wOr_e, ↓wNot_e, ↓wTst_e, ↓wAndV_e, ↓wOrV_e, ↓wNotV_e, ↓wIfE_e, ↓wChain_e, ↓wVar_e, ↓wPk_e, ↓wC_e, ↓wOp_e, ↓wUn_e, ↓wM1_e, ↓wTup_e, ↓wfLst_e, ↓wFz_e, ↓waNil_e, ↓waCons_e, ↓asNil_e, ↓asCons_e, ↓asBox_e, ↓wCall_e, ↓wAsg_e, ↓wSt_e, ↓wAsgO_e, ↓wTp_e, ↓wStL_nil, ↓wStL_cons, ↓wFor_e, ↓wRg1_e, ↓wRg2_e, ↓wItL_e, ↓wItT_e, ↓wItS_e, ↓wApp_e, ↓woNone_e, ↓woSome_e, ↓wCut_e, ↓wBx1_e, ↓wBx0_e, ↓wBxPut_e, ↓wDraw_e, ↓wTru_e, ↓wLc_e, ↓wYes_e, ↓wAug_e, dLt, dLe, dGt, dGe, dSub, dMul, dMod, dFdiv, dPow, dI2, dI2C, dAdd, dEq, dNe, dLen, dInt, dIx_l, dIx_t, dIx_s, dList, dSum, dCut, atI_zero, atI_one, Option.some.injEq, dTru, dMax2, dMin2, dIs, dNotIs, obD, id_eq, List.getElem?_cons_zero, List.getElem?_cons_succ, List.set_cons_zero, List.set_cons_succ, List.length_cons, List.length_nil, D.bl.injEq, exists_eq_left', decide_eq_true_eq, decide_eq_false_iff_not, Bool.not_eq_true', Bool.not_eq_false', Nat.zero_add, Nat.reduceAdd, true_and, and_true, forall_const, reduceCtorEq, not_true_eq_false, not_false_eq_true, false_implies, true_implies, implies_true, sz_line, Nat.reduceLeDiff, Int.reduceLE, Int.reduceLT, Int.reduceNeg, Int.reducePow, Int.reduceAdd, Int.reduceSub, Int.reduceMul]
    exact step c h1 h2 Kt (ht _ rfl)
  · intro d hd
    obtain ⟨c, hc, rfl⟩ := List.mem_map.mp hd
    exact ⟨c, rfl, h c hc⟩
  · intro ys hy
    rw [Outs.map hy, List.nil_append, List.map_map]
    rw [List.map_map] at q
    exact q
theorem filt_lc {ns : List Int} (p : Int → Bool) {vs : List Nat} {wg : WG} {wt : WT} {we : WE} {ρ : List Sl} {Q : List D → List Sl → Prop}
    (step : ∀ n : Int, ∀ (Kt : D → List Sl → Prop) (Kf : List Sl → Prop), (p n = true → Kt (.int n) ρ) → (p n = false → Kf ρ) → wg (.int n) ρ fun ρ1 => wt ρ1 fun k ρ2 => (k = true → we ρ2 fun y ρ3 => noOwnB ρ3 vs = true ∧ Kt y (wipeD ρ3 vs)) ∧ (k = false → noOwnB ρ2 vs = true ∧ Kf (wipeD ρ2 vs)))
    (q : Q ((ns.filter p).map D.int) ρ) : wLcL vs wg wt we (ns.map D.int) ρ [] Q := by
  refine wLcL_rule (fun d => ∃ n : Int, d = .int n) (fun d o => o = if (match d with | .int n => p n | _ => false) = true then some d else none) ?_ _ _ _ ?_ ?_
  · rintro d ⟨n, rfl⟩ Kt Kf ht hf
    refine step n Kt Kf (fun e => ht _ ?_) (fun e => hf ?_)
    · simp only [e]; rfl
    · simp only [e]; rfl
  · intro d hd
    obtain ⟨c, hc, rfl⟩ := List.mem_map.mp hd
    exact ⟨c, rfl⟩
  · intro ys hy
    rw [Outs.filter hy, List.nil_append, List.filter_map]
    exact q
def wf_fact_of : WFn
  | [.sh (.lst ds)], Q => ∃ ns : List Int, ds = ns.map D.int ∧ ns.length ≤ 10000 ∧ Q (factD ns)
  | _, _ => False
theorem len_fact_of : ∀ as Qd, wf_fact_of as Qd → as.length = 1 := fun as Qd h => by
  unfold wf_fact_of at h
  split at h
  · rfl
  · exact h.elim

def w_fact_of : WS := (wSeq (wIf (wOr (wNot (wTst (wChain dLe dLe (wC (.int 1)) (wUn dLen (wPk 0)) (wC (.int (8)))))) (wTru (wFz (wLc [1] (wItL (wVar 0)) (wSt 1) (wNot (wTst (wChain dLe dLe (wC (.int 97)) (wPk 1) (wC (.int 122))))) (wVar 1)))))
 (wRet (wC .non))
 wNext)
 (wRet (wM1 dJoin (wC (.str "")) (wFz (wLc [1] (wItL (wVar 0)) (wSt 1) wYes (wOp dIx (wC (.str "abcdefghijklmnopqrstuvwxyz")) (wOp dSub (wPk 1) (wC (.int 97)))))))))

theorem p_fact_of : ∀ as Qd, wf_fact_of as Qd → w_fact_of (startD ["octets", "octet"] as) { nx := fun _ => Qd .non, rt := Qd } := fun as Qd h => by
  unfold wf_fact_of at h
  split at h
  · obtain ⟨ns, rfl, hl, q⟩ := h
    show w_fact_of [.sh (.lst (ns.map D.int)), .no] _
    simp only [w_fact_of, ↓wSeq_e, ↓wNext_e, ↓wBreak_e, ↓wCont_e, ↓wRet_e, ↓wRetN_e, ↓wDrop_e, ↓wIf_e, ↓wAnd_e, ↓wOr_e, ↓wNot_e, ↓wTst_e, ↓wAndV_e, ↓wOrV_e, ↓wNotV_e, ↓wIfE_e, ↓wChain_e, ↓wVar_e, ↓wPk_e, ↓wC_e, ↓wOp_e, ↓wUn_e, ↓wM1_e, ↓wTup_e, ↓wfLst_e, ↓wFz_e, ↓waNil_e, ↓waCons_e, ↓asNil_e, ↓asCons_e, ↓asBox_e, ↓wCall_e, ↓wAsg_e, ↓wSt_e, ↓wAsgO_e, ↓wTp_e, ↓wStL_nil, ↓wStL_cons, ↓wFor_e, ↓wRg1_e, ↓wRg2_e, ↓wItL_e, ↓wItT_e, ↓wItS_e, ↓wApp_e, ↓woNone_e, ↓woSome_e, ↓wCut_e, ↓wBx1_e, ↓wBx0_e, ↓wBxPut_e, ↓wDraw_e, ↓wTru_e, ↓wLc_e, ↓wYes_e, ↓wAug_e, dLt, dLe, dGt, dGe, dSub, dMul, dMod, dFdiv, dPow, dI2, dI2C, dAdd, dEq, dNe, dLen, dInt, dIx_l, dIx_t, dIx_s, dList, dSum, dCut, atI_zero, atI_one, Option.some.injEq, dTru, dMax2, dMin2, dIs, dNotIs, obD, id_eq, List.getElem?_cons_zero, List.getElem?_cons_succ, List.set_cons_zero, List.set_cons_succ, List.length_cons, List.length_nil, D.bl.injEq, exists_eq_left', decide_eq_true_eq, decide_eq_false_iff_not, Bool.not_eq_true', Bool.not_eq_false', Nat.zero_add, Nat.reduceAdd, true_and, and_true, forall_const, reduceCtorEq, not_true_eq_false, not_false_eq_true, false_implies, true_implies, implies_true, sz_line, Nat.reduceLeDiff, Int.reduceLE, Int.reduceLT, Int.reduceNeg, Int.reducePow, Int.reduceAdd, Int.reduceSub, Int.reduceMul, List.length_map]
    unfold factD at q
    refine ⟨fun h1 => ⟨fun h2 => ?_, fun h2 => ⟨by omega, rfl, ?_⟩⟩, fun h1 => ?_⟩
    · rw [if_neg (fun z => h2 (by have := z.2.1; omega))] at q; exact q
    · refine filt_lc (ρ := [_, .no]) (fun n => !(decide (97 ≤ n) && decide (n ≤ 122))) (fun n Kt Kf ht hf => ?_) ?_
      · simp only [↓wSeq_e, ↓wNext_e, ↓wBreak_e, ↓wCont_e, ↓wRet_e, ↓wRetN_e, ↓wDrop_e, ↓wIf_e, ↓wAnd_e, ↓wOr_e, ↓wNot_e, ↓wTst_e, ↓wAndV_e, ↓wOrV_e, ↓wNotV_e, ↓wIfE_e, ↓wChain_e, ↓wVar_e, ↓wPk_e, ↓wC_e, ↓wOp_e, ↓wUn_e, ↓wM1_e, ↓wTup_e, ↓wfLst_e, ↓wFz_e, ↓waNil_e, ↓waCons_e, ↓asNil_e, ↓asCons_e, ↓asBox_e, ↓wCall_e, ↓wAsg_e, ↓wSt_e, ↓wAsgO_e, ↓wTp_e, ↓wStL_nil, ↓wStL_cons, ↓wFor_e, ↓wRg1_e, ↓wRg2_e, ↓wItL_e, ↓wItT_e, ↓wItS_e, ↓wApp_e, ↓woNone_e, ↓woSome_e, ↓wCut_e, ↓wBx1_e, ↓wBx0_e, ↓wBxPut_e, ↓wDraw_e, ↓wTru_e, ↓wLc_e, ↓wYes_e, ↓wAug_e, dLt, dLe, dGt, dGe, dSub, dMul, dMod, dFdiv, dPow, dI2, dI2C, dAdd, dEq, dNe, dLen, dInt, dIx_l, dIx_t, dIx_s, dList, dSum, dCut, atI_zero, atI_one, Option.some.injEq, dTru, dMax2, dMin2, dIs, dNotIs, obD, id_eq, List.getElem?_cons_zero, List.getElem?_cons_succ, List.set_cons_zero, List.set_cons_succ, List.length_cons, List.length_nil, D.bl.injEq, exists_eq_left', decide_eq_true_eq, decide_eq_false_iff_not, Bool.not_eq_true', Bool.not_eq_false', Nat.zero_add, Nat.reduceAdd, true_and, and_true, forall_const, reduceCtorEq, not_true_eq_false, not_false_eq_true, false_implies, true_implies, implies_true, sz_line, Nat.reduceLeDiff, Int.reduceLE, Int.reduceLT, Int.reduceNeg, Int.reducePow, Int.reduceAdd, Int.reduceSub, Int.reduceMul, wipeD, List.reverse_cons, List.reverse_nil, List.nil_append, noOwnB, List.all_cons, List.all_nil, Bool.and_true, Bool.true_and]
        refine ⟨fun h3 => ⟨fun h4 => ht (by simp [h4]), fun h4 => hf (by simp [h3, h4])⟩, fun h3 => ht (by simp [h3])⟩
      · simp only [↓wSeq_e, ↓wNext_e, ↓wBreak_e, ↓wCont_e, ↓wRet_e, ↓wRetN_e, ↓wDrop_e, ↓wIf_e, ↓wAnd_e, ↓wOr_e, ↓wNot_e, ↓wTst_e, ↓wAndV_e, ↓wOrV_e, ↓wNotV_e, ↓wIfE_e, ↓wChain_e, ↓wVar_e, ↓wPk_e, ↓wC_e, ↓wOp_e, ↓wUn_e, ↓wM1_e, ↓wTup_e, ↓wfLst_e, ↓wFz_e, ↓waNil_e, ↓waCons_e, ↓asNil_e, ↓asCons_e, ↓asBox_e, ↓wCall_e, ↓wAsg_e, ↓wSt_e, ↓wAsgO_e, ↓wTp_e, ↓wStL_nil, ↓wStL_cons, ↓wFor_e, ↓wRg1_e, ↓wRg2_e, ↓wItL_e, ↓wItT_e, ↓wItS_e, ↓wApp_e, ↓woNone_e, ↓woSome_e, ↓wCut_e, ↓wBx1_e, ↓wBx0_e, ↓wBxPut_e, ↓wDraw_e, ↓wTru_e, ↓wLc_e, ↓wYes_e, ↓wAug_e, dLt, dLe, dGt, dGe, dSub, dMul, dMod, dFdiv, dPow, dI2, dI2C, dAdd, dEq, dNe, dLen, dInt, dIx_l, dIx_t, dIx_s, dList, dSum, dCut, atI_zero, atI_one, Option.some.injEq, dTru, dMax2, dMin2, dIs, dNotIs, obD, id_eq, List.getElem?_cons_zero, List.getElem?_cons_succ, List.set_cons_zero, List.set_cons_succ, List.length_cons, List.length_nil, D.bl.injEq, exists_eq_left', decide_eq_true_eq, decide_eq_false_iff_not, Bool.not_eq_true', Bool.not_eq_false', Nat.zero_add, Nat.reduceAdd, true_and, and_true, forall_const, reduceCtorEq, not_true_eq_false, not_false_eq_true, false_implies, true_implies, implies_true, sz_line, Nat.reduceLeDiff, Int.reduceLE, Int.reduceLT, Int.reduceNeg, Int.reducePow, Int.reduceAdd, Int.reduceSub, Int.reduceMul, wipeD, List.reverse_cons, List.reverse_nil, List.nil_append, noOwnB, List.all_cons, List.all_nil, Bool.and_true, Bool.true_and, List.length_map]
        refine ⟨fun h3 => ?_, fun h3 => ⟨⟨_, rfl⟩, by omega, ?_⟩⟩
        · rw [if_neg] at q
          · exact q
          · rintro ⟨_, _, z⟩
            rw [List.filter_eq_nil_iff.mpr (fun n hn => by have := z n hn; simp; omega)] at h3
            simp at h3
        · have hall : ∀ n ∈ ns, 97 ≤ n ∧ n ≤ 122 := by
            intro n hn
            have h5 := List.filter_eq_nil_iff.mp (List.map_eq_nil_iff.mp (List.isEmpty_iff.mp h3)) n hn
            simp at h5
            omega
          refine az_lc (ρ := [_, .no]) hall (fun n n1 n2 Kt ht => ?_) ?_
          · simp only [↓wSeq_e, ↓wNext_e, ↓wBreak_e, ↓wCont_e, ↓wRet_e, ↓wRetN_e, ↓wDrop_e, ↓wIf_e, ↓wAnd_e, ↓wOr_e, ↓wNot_e, ↓wTst_e, ↓wAndV_e, ↓wOrV_e, ↓wNotV_e, ↓wIfE_e, ↓wChain_e, ↓wVar_e, ↓wPk_e, ↓wC_e, ↓wOp_e, ↓wUn_e, ↓wM1_e, ↓wTup_e, ↓wfLst_e, ↓wFz_e, ↓waNil_e, ↓waCons_e, ↓asNil_e, ↓asCons_e, ↓asBox_e, ↓wCall_e, ↓wAsg_e, ↓wSt_e, ↓wAsgO_e, ↓wTp_e, ↓wStL_nil, ↓wStL_cons, ↓wFor_e, ↓wRg1_e, ↓wRg2_e, ↓wItL_e, ↓wItT_e, ↓wItS_e, ↓wApp_e, ↓woNone_e, ↓woSome_e, ↓wCut_e, ↓wBx1_e, ↓wBx0_e, ↓wBxPut_e, ↓wDraw_e, ↓wTru_e, ↓wLc_e, ↓wYes_e, ↓wAug_e, dLt, dLe, dGt, dGe, dSub, dMul, dMod, dFdiv, dPow, dI2, dI2C, dAdd, dEq, dNe, dLen, dInt, dIx_l, dIx_t, dIx_s, dList, dSum, dCut, atI_zero, atI_one, Option.some.injEq, dTru, dMax2, dMin2, dIs, dNotIs, obD, id_eq, List.getElem?_cons_zero, List.getElem?_cons_succ, List.set_cons_zero, List.set_cons_succ, List.length_cons, List.length_nil, D.bl.injEq, exists_eq_left', decide_eq_true_eq, decide_eq_false_iff_not, Bool.not_eq_true', Bool.not_eq_false', Nat.zero_add, Nat.reduceAdd, true_and, and_true, forall_const, reduceCtorEq, not_true_eq_false, not_false_eq_true, false_implies, true_implies, implies_true, sz_line, Nat.reduceLeDiff, Int.reduceLE, Int.reduceLT, Int.reduceNeg, Int.reducePow, Int.reduceAdd, Int.reduceSub, Int.reduceMul, wipeD, List.reverse_cons, List.reverse_nil, List.nil_append, noOwnB, List.all_cons, List.all_nil, Bool.and_true, Bool.true_and]
            refine dIx_az (by omega) (by omega) ?_
            have e : 97 + (n - 97).toNat = n.toNat := by omega
            rw [e]
            exact ht
          · rw [if_pos ⟨by omega, by omega, hall⟩] at q
            exact ⟨rfl, dJoin_one (by rw [List.length_map]; omega) q⟩
    · rw [if_neg (fun z => h1 (by have := z.1; omega))] at q; exact q
  · exact h.elim
/-! ### deed_of -/def condY (r : List Int) : Prop := 1 ≤ r.length ∧ r.length ≤ 8 ∧ ∀ n ∈ r, 97 ≤ n ∧ n ≤ 122
instance (r : List Int) : Decidable (condY r) := by unfold condY; infer_instance
def told : List Int → Option Deed
  | [] => none
  | a :: r => if a = 3 ∧ r = [] then some .undo else if r.length = 1 ∧ a = 2 then some (.move (r.getD 0 0)) else if a = 1 ∧ condY r then some (.year (r.map fun n : Int => n.toNat)) else none
def toldD (b : List Int) : D := match told b with
  | some e => e.dd
  | none => .non
def wf_deed_of : WFn
  | [.sh (.lst ds)], Q => ∃ ns : List Int, ds = ns.map D.int ∧ ns.length ≤ 10000 ∧ Q (toldD ns)
  | _, _ => False
theorem len_deed_of : ∀ as Qd, wf_deed_of as Qd → as.length = 1 := fun as Qd h => by
  unfold wf_deed_of at h
  split at h
  · rfl
  · exact h.elim
theorem drop1_map (ns : List Int) : cutD (ns.map D.int) (some 1) none = (ns.drop 1).map D.int := by
  rw [cutD_from _ (by decide), List.map_drop]; rfl
theorem take1_map (ns : List Int) : cutD (ns.map D.int) none (some 1) = (ns.take 1).map D.int := by
  rw [cutD_to _ (by decide), List.map_take]; rfl
theorem factD_yes {r : List Int} (h : condY r) : factD r = .str ⟨(r.map fun n : Int => n.toNat).toArray⟩ := if_pos h
theorem factD_no {r : List Int} (h : ¬ condY r) : factD r = .non := if_neg h
theorem told_cons {a : Int} {r : List Int} : told (a :: r) = if a = 3 ∧ r = [] then some .undo else if r.length = 1 ∧ a = 2 then some (.move (r.getD 0 0)) else if a = 1 ∧ condY r then some (.year (r.map fun n : Int => n.toNat)) else none := rfl
theorem toldD_of_none {b : List Int} (h : told b = none) : toldD b = .non := by unfold toldD; rw [h]
theorem toldD_of_some {b : List Int} {e : Deed} (h : told b = some e) : toldD b = e.dd := by unfold toldD; rw [h]
theorem dIs_dd {e : Deed} {Q : D → Prop} (q : Q (.bl false)) : dIsB id e.dd .non Q := by cases e <;> exact q
theorem toldD_undo : toldD [3] = .tup [.str "undo"] := rfl
theorem toldD_move {b : Int} : toldD [2, b] = .tup [.str "move", .int b] := rfl
theorem toldD_year {r : List Int} (h : condY r) : toldD (1 :: r) = .tup [.str "year", .str ⟨(r.map fun n : Int => n.toNat).toArray⟩] := by
  unfold toldD
  rw [told_cons, if_neg (by intro z; omega), if_neg (by intro z; omega), if_pos ⟨rfl, h⟩]; rfl
theorem toldD_none {a : Int} {r : List Int} (h1 : ¬ (a = 3 ∧ r = [])) (h2 : ¬ (r.length = 1 ∧ a = 2)) (h3 : ¬ (a = 1 ∧ condY r)) : toldD (a :: r) = .non := by
  unfold toldD
  rw [told_cons, if_neg h1, if_neg h2, if_neg h3]
theorem fact_part {r : List Int} {Qd : D → Prop} (hl : r.length ≤ 10000) (q1 : condY r → Qd (.tup [.str "year", .str ⟨(r.map fun n : Int => n.toNat).toArray⟩])) (q2 : ¬ condY r → Qd .non) :
    ∃ n1 : List Int, r.map D.int = n1.map D.int ∧ n1.length ≤ 10000 ∧ dIsB not (factD n1) D.non fun d => ∃ k, d = D.bl k ∧ (k = true → ∃ n2 : List Int, r.map D.int = n2.map D.int ∧ n2.length ≤ 10000 ∧ Qd (D.tup [D.str "year", factD n2])) ∧ (k = false → Qd D.non) := by
  refine ⟨r, rfl, hl, ?_⟩
  by_cases hc : condY r
  · rw [factD_yes hc]
    refine ⟨true, rfl, fun _ => ⟨r, rfl, hl, ?_⟩, fun z => by cases z⟩
    rw [factD_yes hc]; exact q1 hc
  · rw [factD_no hc]
    exact ⟨false, rfl, (fun z => by cases z), fun _ => q2 hc⟩

def w_deed_of : WS := (wSeq (wIf (wTst (wOp dEq (wPk 0) (wFz (wfLst (waCons (wC (.int (3))) waNil)))))
 (wRet (wTup (waCons (wC (.str "undo")) waNil)))
 wNext)
 (wSeq (wIf (wAnd (wTst (wOp dEq (wUn dLen (wPk 0)) (wC (.int 2)))) (wTst (wOp dEq (wOp dIx (wPk 0) (wC (.int 0))) (wC (.int (2))))))
 (wRet (wTup (waCons (wC (.str "move")) (waCons (wOp dIx (wPk 0) (wC (.int 1))) waNil))))
 wNext)
 (wSeq (wIf (wAnd (wTst (wOp dEq (wCut (wPk 0) woNone (woSome (wC (.int 1)))) (wFz (wfLst (waCons (wC (.int (1))) waNil))))) (wTst (wOp dNotIs (wCall wf_fact_of (asCons (wCut (wPk 0) (woSome (wC (.int 1))) woNone) asNil)) (wC .non))))
 (wRet (wTup (waCons (wC (.str "year")) (waCons (wCall wf_fact_of (asCons (wCut (wPk 0) (woSome (wC (.int 1))) woNone) asNil)) waNil))))
 wNext)
 (wRet (wC .non)))))

theorem p_deed_of : ∀ as Qd, wf_deed_of as Qd → w_deed_of (startD ["body"] as) { nx := fun _ => Qd .non, rt := Qd } := fun as Qd h => by
  unfold wf_deed_of at h
  split at h
  · obtain ⟨ns, rfl, hl, q⟩ := h
    show w_deed_of [.sh (.lst (ns.map D.int))] _
    simp only [w_deed_of, ↓wSeq_e, ↓wNext_e, ↓wBreak_e, ↓wCont_e, ↓wRet_e, ↓wRetN_e, ↓wDrop_e, ↓wIf_e, ↓wAnd_e, ↓wOr_e, ↓wNot_e, ↓wTst_e, ↓wAndV_e, ↓wOrV_e, ↓wNotV_e, ↓wIfE_e, ↓wChain_e, ↓wVar_e, ↓wPk_e, ↓wC_e, ↓wOp_e, ↓wUn_e, ↓wM1_e, ↓wTup_e, ↓wfLst_e, ↓wFz_e, ↓waNil_e, ↓waCons_e, ↓asNil_e, ↓asCons_e, ↓asBox_e, ↓wCall_e, ↓wAsg_e, ↓wSt_e, ↓wAsgO_e, ↓wTp_e, ↓wStL_nil, ↓wStL_cons, ↓wFor_e, ↓wRg1_e, ↓wRg2_e, ↓wItL_e, ↓wItT_e, ↓wItS_e, ↓wApp_e, ↓woNone_e, ↓woSome_e, ↓wCut_e, ↓wBx1_e, ↓wBx0_e, ↓wBxPut_e, ↓wDraw_e, ↓wTru_e, ↓wLc_e, ↓wYes_e, ↓wAug_e, dLt, dLe, dGt, dGe, dSub, dMul, dMod, dFdiv, dPow, dI2, dI2C, dAdd, dEq, dNe, dLen, dInt, dIx_l, dIx_t, dIx_s, dList, dSum, dCut, atI_zero, atI_one, Option.some.injEq, dTru, dMax2, dMin2, dIs, dNotIs, obD, id_eq, List.getElem?_cons_zero, List.getElem?_cons_succ, List.set_cons_zero, List.set_cons_succ, List.length_cons, List.length_nil, D.bl.injEq, exists_eq_left', decide_eq_true_eq, decide_eq_false_iff_not, Bool.not_eq_true', Bool.not_eq_false', Nat.zero_add, Nat.reduceAdd, true_and, and_true, forall_const, reduceCtorEq, not_true_eq_false, not_false_eq_true, false_implies, true_implies, implies_true, sz_line, Nat.reduceLeDiff, Int.reduceLE, Int.reduceLT, Int.reduceNeg, Int.reducePow, Int.reduceAdd, Int.reduceSub, Int.reduceMul, dEqB, eqD, eqDL_lit1, shD_ints, shD_lit1, drop1_map, take1_map, wf_fact_of, List.length_map]
    cases ns with
    | nil => exact ⟨fun z => by simp at z, fun _ => ⟨fun z => by simp at z, fun _ => ⟨fun z => by simp at z, fun _ => q⟩⟩⟩
    | cons a r =>
      have hr : r.length ≤ 10000 := by simp at hl; omega
      simp only [List.map_cons, ↓wSeq_e, ↓wNext_e, ↓wBreak_e, ↓wCont_e, ↓wRet_e, ↓wRetN_e, ↓wDrop_e, ↓wIf_e, ↓wAnd_e, ↓wOr_e, ↓wNot_e, ↓wTst_e, ↓wAndV_e, ↓wOrV_e, ↓wNotV_e, ↓wIfE_e, ↓wChain_e, ↓wVar_e, ↓wPk_e, ↓wC_e, ↓wOp_e, ↓wUn_e, ↓wM1_e, ↓wTup_e, ↓wfLst_e, ↓wFz_e, ↓waNil_e, ↓waCons_e, ↓asNil_e, ↓asCons_e, ↓asBox_e, ↓wCall_e, ↓wAsg_e, ↓wSt_e, ↓wAsgO_e, ↓wTp_e, ↓wStL_nil, ↓wStL_cons, ↓wFor_e, ↓wRg1_e, ↓wRg2_e, ↓wItL_e, ↓wItT_e, ↓wItS_e, ↓wApp_e, ↓woNone_e, ↓woSome_e, ↓wCut_e, ↓wBx1_e, ↓wBx0_e, ↓wBxPut_e, ↓wDraw_e, ↓wTru_e, ↓wLc_e, ↓wYes_e, ↓wAug_e, dLt, dLe, dGt, dGe, dSub, dMul, dMod, dFdiv, dPow, dI2, dI2C, dAdd, dEq, dNe, dLen, dInt, dIx_l, dIx_t, dIx_s, dList, dSum, dCut, atI_zero, atI_one, Option.some.injEq, dTru, dMax2, dMin2, dIs, dNotIs, obD, id_eq, List.getElem?_cons_zero, List.getElem?_cons_succ, List.set_cons_zero, List.set_cons_succ, List.length_cons, List.length_nil, D.bl.injEq, exists_eq_left', decide_eq_true_eq, decide_eq_false_iff_not, Bool.not_eq_true', Bool.not_eq_false', Nat.zero_add, Nat.reduceAdd, true_and, and_true, forall_const, reduceCtorEq, not_true_eq_false, not_false_eq_true, false_implies, true_implies, implies_true, sz_line, Nat.reduceLeDiff, Int.reduceLE, Int.reduceLT, Int.reduceNeg, Int.reducePow, Int.reduceAdd, Int.reduceSub, Int.reduceMul, dEqB, List.take_succ_cons, List.take_zero, List.drop_succ_cons, List.drop_zero, List.cons.injEq]
      refine ⟨fun h1 => ?_, fun h1 => ⟨fun h2 => ?_, fun h2 => ⟨fun h4 => fact_part hr (fun hc => ?_) (fun hc => ?_), fun h4 => ?_⟩⟩⟩
      · obtain ⟨rfl, rfl⟩ := h1; exact q
      · obtain ⟨b, rfl⟩ : ∃ b, r = [b] := List.length_eq_one_iff.mp (by omega)
        refine ⟨fun h3 => ?_, fun h3 => ⟨fun h4 => fact_part hr (fun hc => ?_) (fun hc => ?_), fun h4 => ?_⟩⟩
        · subst h3; exact ⟨_, atI_one, q⟩
        · subst h4; rw [toldD_year hc] at q; exact q
        · rw [toldD_none h1 (fun z => h3 z.2) (fun z => hc z.2)] at q; exact q
        · rw [toldD_none h1 (fun z => h3 z.2) (fun z => h4 z.1)] at q; exact q
      · subst h4; rw [toldD_year hc] at q; exact q
      · rw [toldD_none h1 (fun z => h2 (by omega)) (fun z => hc z.2)] at q; exact q
      · rw [toldD_none h1 (fun z => h2 (by omega)) (fun z => h4 z.1)] at q; exact q
  · exact h.elim
/-! ### recovered -/def stepF (ns : List Int) (p : Nat) : Option (Deed × Nat) :=
  if p < ns.length ∧ p + (ns.getD p 0).toNat + 3 ≤ ns.length ∧ ns.getD (p + (ns.getD p 0).toNat + 2) 0 = 170 ∧ ns.getD (p + (ns.getD p 0).toNat + 1) 0 = ((ns.drop (p + 1)).take (ns.getD p 0).toNat).sum % 256 then
    (told ((ns.drop (p + 1)).take (ns.getD p 0).toNat)).map fun e => (e, p + (ns.getD p 0).toNat + 3)
  else none
inductive Runs (ns : List Int) : Nat → List Deed → Nat → List Deed → Prop
  | stop {p es} : stepF ns p = none → Runs ns p es p es
  | go {p es e q p' es'} : stepF ns p = some (e, q) → Runs ns q (es ++ [e]) p' es' → Runs ns p es p' es'
theorem stepF_some {ns : List Int} {p q : Nat} {e : Deed} (h : stepF ns p = some (e, q)) : p < ns.length ∧ p + (ns.getD p 0).toNat + 3 ≤ ns.length ∧ ns.getD (p + (ns.getD p 0).toNat + 2) 0 = 170 ∧
    ns.getD (p + (ns.getD p 0).toNat + 1) 0 = ((ns.drop (p + 1)).take (ns.getD p 0).toNat).sum % 256 ∧ told ((ns.drop (p + 1)).take (ns.getD p 0).toNat) = some e ∧ q = p + (ns.getD p 0).toNat + 3 := by
  unfold stepF at h
  split at h
  · rename_i c
    cases ht : told ((ns.drop (p + 1)).take (ns.getD p 0).toNat) with
    | none => rw [ht] at h; cases h
    | some e' =>
      rw [ht] at h
      cases h
      exact ⟨c.1, c.2.1, c.2.2.1, c.2.2.2, rfl, rfl⟩
  · cases h
theorem Runs.total (ns : List Int) : ∀ (n p : Nat) (es : List Deed), ns.length - p ≤ n → ∃ p' es', Runs ns p es p' es'
  | 0, p, es, h => ⟨p, es, .stop (by unfold stepF; rw [if_neg (by omega)])⟩
  | n + 1, p, es, h => by
    cases hs : stepF ns p with
    | none => exact ⟨p, es, .stop hs⟩
    | some x =>
      obtain ⟨e, q⟩ := x
      have := stepF_some hs
      obtain ⟨p', es', r⟩ := Runs.total ns n q (es ++ [e]) (by omega)
      exact ⟨p', es', .go hs r⟩
theorem Runs.none {ns : List Int} {p p' : Nat} {es es' : List Deed} (r : Runs ns p es p' es') (h : stepF ns p = none) : p' = p ∧ es' = es := by
  cases r with
  | stop _ => exact ⟨rfl, rfl⟩
  | go h' _ => rw [h] at h'; cases h'
theorem Runs.some {ns : List Int} {p q p' : Nat} {es es' : List Deed} {e : Deed} (r : Runs ns p es p' es') (h : stepF ns p = some (e, q)) : Runs ns q (es ++ [e]) p' es' := by
  cases r with
  | stop h' => rw [h] at h'; cases h'
  | go h' r => rw [h] at h'; cases h'; exact r
def readD (P : Nat) (DS : List Deed) : D := .tup [.lst (DS.map Deed.dd), .int (P : Int)]
theorem slots_eq {x : Sl} {es : List Deed} {e : Deed} {p n : Nat} (s3 s4 s5 : Sl) : [x, .ol (es.map Deed.dd ++ [e.dd]), .sh (.int ((p : Int) + n + 3)), s3, s4, s5] = [x, .ol ((es ++ [e]).map Deed.dd), .sh (.int ((p + n + 3 : Nat) : Int)), s3, s4, s5] := by
  rw [List.map_append, show (((p + n + 3 : Nat) : Int)) = (p : Int) + n + 3 by omega]; rfl
def wf_recovered : WFn
  | [.sh (.lst ds)], Q => ∃ (ns : List Int) (P : Nat) (DS : List Deed), ds = ns.map D.int ∧ Oct ns ∧ ns.length ≤ 10000 ∧ Runs ns 0 [] P DS ∧ Q (readD P DS)
  | _, _ => False
theorem len_recovered : ∀ as Qd, wf_recovered as Qd → as.length = 1 := fun as Qd h => by
  unfold wf_recovered at h
  split at h
  · rfl
  · exact h.elim
theorem at_oct {ns : List Int} (ho : Oct ns) {p : Nat} (h : p < ns.length) : ∃ m : Nat, ns.getD p 0 = (m : Int) ∧ m < 256 ∧ ns[p]? = Option.some (m : Int) := by
  have h1 : ns.getD p 0 = ns[p] := by rw [List.getD_eq_getElem?_getD, List.getElem?_eq_getElem h]; rfl
  have h2 := ho _ (List.getElem_mem h)
  refine ⟨ns[p].toNat, by rw [h1]; omega, by omega, ?_⟩
  rw [List.getElem?_eq_getElem h, show ((ns[p].toNat : Nat) : Int) = ns[p] by omega]
theorem at_ints {ns : List Int} {i : Int} {p : Nat} (hi : i = (p : Int)) (h : p < ns.length) : atI (ns.map D.int) i = Option.some (.int (ns.getD p 0)) := by
  subst hi
  refine atI_nat (by omega) ?_
  rw [Int.toNat_natCast, List.getElem?_map, List.getElem?_eq_getElem h, List.getD_eq_getElem?_getD, List.getElem?_eq_getElem h]; rfl

def w_recovered_t1 : WS := (wAsg (wVar 3) (wSt 2))
def w_recovered_t2 : WS := (wSeq (wApp 1 (wVar 5))
 w_recovered_t1)
def w_recovered_t3 : WS := (wSeq (wIf (wOr (wTst (wOp dNe (wOp dIx (wPk 0) (wOp dSub (wPk 3) (wC (.int 1)))) (wC (.int (170))))) (wOr (wTst (wOp dNe (wOp dIx (wPk 0) (wOp dSub (wPk 3) (wC (.int 2)))) (wOp dMod (wUn dSum (wPk 4)) (wC (.int 256))))) (wTst (wOp dIs (wPk 5) (wC .non)))))
 wBreak
 wNext)
 w_recovered_t2)
def w_recovered_t4 : WS := (wSeq (wAsg (wCall wf_deed_of (asCons (wVar 4) asNil)) (wSt 5))
 w_recovered_t3)
def w_recovered_t5 : WS := (wSeq (wAsg (wCut (wPk 0) (woSome (wOp dAdd (wPk 2) (wC (.int 1)))) (woSome (wOp dSub (wPk 3) (wC (.int 2))))) (wSt 4))
 w_recovered_t4)
def w_recovered_t6 : WS := (wSeq (wIf (wTst (wOp dGt (wPk 3) (wUn dLen (wPk 0))))
 wBreak
 wNext)
 w_recovered_t5)
def w_recovered_t7 : WS := (wRet (wTup (waCons (wVar 1) (waCons (wVar 2) waNil))))
def w_recovered_t8 : WS := (wSeq (wWhile (wTst (wOp dLt (wPk 2) (wUn dLen (wPk 0))))
 (wSeq (wAsg (wOp dAdd (wOp dAdd (wPk 2) (wOp dIx (wPk 0) (wPk 2))) (wC (.int 3))) (wSt 3))
 w_recovered_t6))
 w_recovered_t7)
def w_recovered_t9 : WS := (wSeq (wAsg (wC (.int 0)) (wSt 2))
 w_recovered_t8)
def w_recovered : WS := (wSeq (wAsgO (wfLst waNil) 1)
 w_recovered_t9)

theorem p_recovered : ∀ as Qd, wf_recovered as Qd → w_recovered (startD ["octets", "deeds", "place", "end", "body", "deed"] as) { nx := fun _ => Qd .non, rt := Qd } := fun as Qd h => by
  unfold wf_recovered at h
  split at h
  · obtain ⟨ns, P, DS, rfl, ho, hl, hr, q⟩ := h
    show w_recovered [.sh (.lst (ns.map D.int)), .no, .no, .no, .no, .no] _
    simp only [w_recovered, w_recovered_t9, w_recovered_t8, ↓wSeq_e, ↓wNext_e, ↓wBreak_e, ↓wCont_e, ↓wRet_e, ↓wRetN_e, ↓wDrop_e, ↓wIf_e, ↓wAnd_e, ↓wOr_e, ↓wNot_e, ↓wTst_e, ↓wAndV_e, ↓wOrV_e, ↓wNotV_e, ↓wIfE_e, ↓wChain_e, ↓wVar_e, ↓wPk_e, ↓wC_e, ↓wOp_e, ↓wUn_e, ↓wM1_e, ↓wTup_e, ↓wfLst_e, ↓wFz_e, ↓waNil_e, ↓waCons_e, ↓asNil_e, ↓asCons_e, ↓asBox_e, ↓wCall_e, ↓wAsg_e, ↓wSt_e, ↓wAsgO_e, ↓wTp_e, ↓wStL_nil, ↓wStL_cons, ↓wFor_e, ↓wRg1_e, ↓wRg2_e, ↓wItL_e, ↓wItT_e, ↓wItS_e, ↓wApp_e, ↓woNone_e, ↓woSome_e, ↓wCut_e, ↓wBx1_e, ↓wBx0_e, ↓wBxPut_e, ↓wDraw_e, ↓wTru_e, ↓wLc_e, ↓wYes_e, ↓wAug_e, dLt, dLe, dGt, dGe, dSub, dMul, dMod, dFdiv, dPow, dI2, dI2C, dAdd, dEq, dNe, dLen, dInt, dIx_l, dIx_t, dIx_s, dList, dSum, dCut, atI_zero, atI_one, Option.some.injEq, dTru, dMax2, dMin2, dIs, dNotIs, obD, id_eq, List.getElem?_cons_zero, List.getElem?_cons_succ, List.set_cons_zero, List.set_cons_succ, List.length_cons, List.length_nil, D.bl.injEq, exists_eq_left', decide_eq_true_eq, decide_eq_false_iff_not, Bool.not_eq_true', Bool.not_eq_false', Nat.zero_add, Nat.reduceAdd, true_and, and_true, forall_const, reduceCtorEq, not_true_eq_false, not_false_eq_true, false_implies, true_implies, implies_true, sz_line, Nat.reduceLeDiff, Int.reduceLE, Int.reduceLT, Int.reduceNeg, Int.reducePow, Int.reduceAdd, Int.reduceSub, Int.reduceMul]
    refine wWhile_rule (fun m ρ => ∃ (p : Nat) (es : List Deed) (s3 s4 s5 : Sl), ρ = [.sh (.lst (ns.map D.int)), .ol (es.map Deed.dd), .sh (.int (p : Int)), s3, s4, s5] ∧ Runs ns p es P DS ∧ p ≤ ns.length ∧ es.length ≤ p ∧ m = ns.length - p) _ ⟨0, [], _, _, _, rfl, hr, by omega, by simp, rfl⟩ ?_
    rintro m ρ ⟨p, es, s3, s4, s5, rfl, r, hp, he, rfl⟩
    have fin : ∀ s3 s4 s5, stepF ns p = none → w_recovered_t7 [.sh (.lst (ns.map D.int)), .ol (es.map Deed.dd), .sh (.int (p : Int)), s3, s4, s5] { nx := fun _ => Qd .non, rt := Qd } := fun s3 s4 s5 hn => by
      obtain ⟨rfl, rfl⟩ := r.none hn
      simp only [w_recovered_t7, ↓wSeq_e, ↓wNext_e, ↓wBreak_e, ↓wCont_e, ↓wRet_e, ↓wRetN_e, ↓wDrop_e, ↓wIf_e, ↓wAnd_e, ↓wOr_e, ↓wNot_e, ↓wTst_e, ↓wAndV_e, ↓wOrV_e, ↓wNotV_e, ↓wIfE_e, ↓wChain_e, ↓wVar_e, ↓wPk_e, ↓wC_e, ↓wOp_e, ↓wUn_e, ↓wM1_e, ↓wTup_e, ↓wfLst_e, ↓wFz_e, ↓waNil_e, ↓waCons_e, ↓asNil_e, ↓asCons_e, ↓asBox_e, ↓wCall_e, ↓wAsg_e, ↓wSt_e, ↓wAsgO_e, ↓wTp_e, ↓wStL_nil, ↓wStL_cons, ↓wFor_e, ↓wRg1_e, ↓wRg2_e, ↓wItL_e, ↓wItT_e, ↓wItS_e, ↓wApp_e, ↓woNone_e, ↓woSome_e, ↓wCut_e, ↓wBx1_e, ↓wBx0_e, ↓wBxPut_e, ↓wDraw_e, ↓wTru_e, ↓wLc_e, ↓wYes_e, ↓wAug_e, dLt, dLe, dGt, dGe, dSub, dMul, dMod, dFdiv, dPow, dI2, dI2C, dAdd, dEq, dNe, dLen, dInt, dIx_l, dIx_t, dIx_s, dList, dSum, dCut, atI_zero, atI_one, Option.some.injEq, dTru, dMax2, dMin2, dIs, dNotIs, obD, id_eq, List.getElem?_cons_zero, List.getElem?_cons_succ, List.set_cons_zero, List.set_cons_succ, List.length_cons, List.length_nil, D.bl.injEq, exists_eq_left', decide_eq_true_eq, decide_eq_false_iff_not, Bool.not_eq_true', Bool.not_eq_false', Nat.zero_add, Nat.reduceAdd, true_and, and_true, forall_const, reduceCtorEq, not_true_eq_false, not_false_eq_true, false_implies, true_implies, implies_true, sz_line, Nat.reduceLeDiff, Int.reduceLE, Int.reduceLT, Int.reduceNeg, Int.reducePow, Int.reduceAdd, Int.reduceSub, Int.reduceMul]
      exact q
    simp only [↓wSeq_e, ↓wNext_e, ↓wBreak_e, ↓wCont_e, ↓wRet_e, ↓wRetN_e, ↓wDrop_e, ↓wIf_e, ↓wAnd_e, ↓wOr_e, ↓wNot_e, ↓wTst_e, ↓wAndV_e, ↓wOrV_e, ↓wNotV_e, ↓wIfE_e, ↓wChain_e, ↓wVar_e, ↓wPk_e, ↓wC_e, ↓wOp_e, ↓wUn_e, ↓wM1_e, ↓wTup_e, ↓wfLst_e, ↓wFz_e, ↓waNil_e, ↓waCons_e, ↓asNil_e, ↓asCons_e, ↓asBox_e, ↓wCall_e, ↓wAsg_e, ↓wSt_e, ↓wAsgO_e, ↓wTp_e, ↓wStL_nil, ↓wStL_cons, ↓wFor_e, ↓wRg1_e, ↓wRg2_e, ↓wItL_e, ↓wItT_e, ↓wItS_e, ↓wApp_e, ↓woNone_e, ↓woSome_e, ↓wCut_e, ↓wBx1_e, ↓wBx0_e, ↓wBxPut_e, ↓wDraw_e, ↓wTru_e, ↓wLc_e, ↓wYes_e, ↓wAug_e, dLt, dLe, dGt, dGe, dSub, dMul, dMod, dFdiv, dPow, dI2, dI2C, dAdd, dEq, dNe, dLen, dInt, dIx_l, dIx_t, dIx_s, dList, dSum, dCut, atI_zero, atI_one, Option.some.injEq, dTru, dMax2, dMin2, dIs, dNotIs, obD, id_eq, List.getElem?_cons_zero, List.getElem?_cons_succ, List.set_cons_zero, List.set_cons_succ, List.length_cons, List.length_nil, D.bl.injEq, exists_eq_left', decide_eq_true_eq, decide_eq_false_iff_not, Bool.not_eq_true', Bool.not_eq_false', Nat.zero_add, Nat.reduceAdd, true_and, and_true, forall_const, reduceCtorEq, not_true_eq_false, not_false_eq_true, false_implies, true_implies, implies_true, sz_line, Nat.reduceLeDiff, Int.reduceLE, Int.reduceLT, Int.reduceNeg, Int.reducePow, Int.reduceAdd, Int.reduceSub, Int.reduceMul, List.length_map]
    refine ⟨fun hc => ?_, fun hc => fin _ _ _ (by unfold stepF; rw [if_neg (by omega)])⟩
    obtain ⟨n, hn1, hn2, hn3⟩ := at_oct ho (show p < ns.length by omega)
    refine ⟨_, at_ints rfl (by omega), ?_⟩
    simp only [hn1, ↓wSeq_e, ↓wNext_e, ↓wBreak_e, ↓wCont_e, ↓wRet_e, ↓wRetN_e, ↓wDrop_e, ↓wIf_e, ↓wAnd_e, ↓wOr_e, ↓wNot_e, ↓wTst_e, ↓wAndV_e, ↓wOrV_e, ↓wNotV_e, ↓wIfE_e, ↓wChain_e, ↓wVar_e, ↓wPk_e, ↓wC_e, ↓wOp_e, ↓wUn_e, ↓wM1_e, ↓wTup_e, ↓wfLst_e, ↓wFz_e, ↓waNil_e, ↓waCons_e, ↓asNil_e, ↓asCons_e, ↓asBox_e, ↓wCall_e, ↓wAsg_e, ↓wSt_e, ↓wAsgO_e, ↓wTp_e, ↓wStL_nil, ↓wStL_cons, ↓wFor_e, ↓wRg1_e, ↓wRg2_e, ↓wItL_e, ↓wItT_e, ↓wItS_e, ↓wApp_e, ↓woNone_e, ↓woSome_e, ↓wCut_e, ↓wBx1_e, ↓wBx0_e, ↓wBxPut_e, ↓wDraw_e, ↓wTru_e, ↓wLc_e, ↓wYes_e, ↓wAug_e, dLt, dLe, dGt, dGe, dSub, dMul, dMod, dFdiv, dPow, dI2, dI2C, dAdd, dEq, dNe, dLen, dInt, dIx_l, dIx_t, dIx_s, dList, dSum, dCut, atI_zero, atI_one, Option.some.injEq, dTru, dMax2, dMin2, dIs, dNotIs, obD, id_eq, List.getElem?_cons_zero, List.getElem?_cons_succ, List.set_cons_zero, List.set_cons_succ, List.length_cons, List.length_nil, D.bl.injEq, exists_eq_left', decide_eq_true_eq, decide_eq_false_iff_not, Bool.not_eq_true', Bool.not_eq_false', Nat.zero_add, Nat.reduceAdd, true_and, and_true, forall_const, reduceCtorEq, not_true_eq_false, not_false_eq_true, false_implies, true_implies, implies_true, sz_line, Nat.reduceLeDiff, Int.reduceLE, Int.reduceLT, Int.reduceNeg, Int.reducePow, Int.reduceAdd, Int.reduceSub, Int.reduceMul]
    simp only [w_recovered_t6, ↓wSeq_e, ↓wNext_e, ↓wBreak_e, ↓wCont_e, ↓wRet_e, ↓wRetN_e, ↓wDrop_e, ↓wIf_e, ↓wAnd_e, ↓wOr_e, ↓wNot_e, ↓wTst_e, ↓wAndV_e, ↓wOrV_e, ↓wNotV_e, ↓wIfE_e, ↓wChain_e, ↓wVar_e, ↓wPk_e, ↓wC_e, ↓wOp_e, ↓wUn_e, ↓wM1_e, ↓wTup_e, ↓wfLst_e, ↓wFz_e, ↓waNil_e, ↓waCons_e, ↓asNil_e, ↓asCons_e, ↓asBox_e, ↓wCall_e, ↓wAsg_e, ↓wSt_e, ↓wAsgO_e, ↓wTp_e, ↓wStL_nil, ↓wStL_cons, ↓wFor_e, ↓wRg1_e, ↓wRg2_e, ↓wItL_e, ↓wItT_e, ↓wItS_e, ↓wApp_e, ↓woNone_e, ↓woSome_e, ↓wCut_e, ↓wBx1_e, ↓wBx0_e, ↓wBxPut_e, ↓wDraw_e, ↓wTru_e, ↓wLc_e, ↓wYes_e, ↓wAug_e, dLt, dLe, dGt, dGe, dSub, dMul, dMod, dFdiv, dPow, dI2, dI2C, dAdd, dEq, dNe, dLen, dInt, dIx_l, dIx_t, dIx_s, dList, dSum, dCut, atI_zero, atI_one, Option.some.injEq, dTru, dMax2, dMin2, dIs, dNotIs, obD, id_eq, List.getElem?_cons_zero, List.getElem?_cons_succ, List.set_cons_zero, List.set_cons_succ, List.length_cons, List.length_nil, D.bl.injEq, exists_eq_left', decide_eq_true_eq, decide_eq_false_iff_not, Bool.not_eq_true', Bool.not_eq_false', Nat.zero_add, Nat.reduceAdd, true_and, and_true, forall_const, reduceCtorEq, not_true_eq_false, not_false_eq_true, false_implies, true_implies, implies_true, sz_line, Nat.reduceLeDiff, Int.reduceLE, Int.reduceLT, Int.reduceNeg, Int.reducePow, Int.reduceAdd, Int.reduceSub, Int.reduceMul, List.length_map]
    refine ⟨fun hb => fin _ _ _ (by unfold stepF; rw [hn1, if_neg (by omega)]), fun hb => ?_⟩
    simp only [w_recovered_t5, ↓wSeq_e, ↓wNext_e, ↓wBreak_e, ↓wCont_e, ↓wRet_e, ↓wRetN_e, ↓wDrop_e, ↓wIf_e, ↓wAnd_e, ↓wOr_e, ↓wNot_e, ↓wTst_e, ↓wAndV_e, ↓wOrV_e, ↓wNotV_e, ↓wIfE_e, ↓wChain_e, ↓wVar_e, ↓wPk_e, ↓wC_e, ↓wOp_e, ↓wUn_e, ↓wM1_e, ↓wTup_e, ↓wfLst_e, ↓wFz_e, ↓waNil_e, ↓waCons_e, ↓asNil_e, ↓asCons_e, ↓asBox_e, ↓wCall_e, ↓wAsg_e, ↓wSt_e, ↓wAsgO_e, ↓wTp_e, ↓wStL_nil, ↓wStL_cons, ↓wFor_e, ↓wRg1_e, ↓wRg2_e, ↓wItL_e, ↓wItT_e, ↓wItS_e, ↓wApp_e, ↓woNone_e, ↓woSome_e, ↓wCut_e, ↓wBx1_e, ↓wBx0_e, ↓wBxPut_e, ↓wDraw_e, ↓wTru_e, ↓wLc_e, ↓wYes_e, ↓wAug_e, dLt, dLe, dGt, dGe, dSub, dMul, dMod, dFdiv, dPow, dI2, dI2C, dAdd, dEq, dNe, dLen, dInt, dIx_l, dIx_t, dIx_s, dList, dSum, dCut, atI_zero, atI_one, Option.some.injEq, dTru, dMax2, dMin2, dIs, dNotIs, obD, id_eq, List.getElem?_cons_zero, List.getElem?_cons_succ, List.set_cons_zero, List.set_cons_succ, List.length_cons, List.length_nil, D.bl.injEq, exists_eq_left', decide_eq_true_eq, decide_eq_false_iff_not, Bool.not_eq_true', Bool.not_eq_false', Nat.zero_add, Nat.reduceAdd, true_and, and_true, forall_const, reduceCtorEq, not_true_eq_false, not_false_eq_true, false_implies, true_implies, implies_true, sz_line, Nat.reduceLeDiff, Int.reduceLE, Int.reduceLT, Int.reduceNeg, Int.reducePow, Int.reduceAdd, Int.reduceSub, Int.reduceMul]
    rw [cutD_mid _ (by omega) (by omega) (by rw [List.length_map]; omega), ← List.map_drop, ← List.map_take, show ((p : Int) + 1).toNat = p + 1 by omega, show ((p : Int) + n + 3 - 2 - (p + 1)).toNat = n by omega]
    have e2 : stepF ns p = if ns.getD (p + n + 2) 0 = 170 ∧ ns.getD (p + n + 1) 0 = ((ns.drop (p + 1)).take n).sum % 256 then (told ((ns.drop (p + 1)).take n)).map fun e => (e, p + n + 3) else none := by
      unfold stepF
      rw [hn1, Int.toNat_natCast]
      by_cases z : ns.getD (p + n + 2) 0 = 170 ∧ ns.getD (p + n + 1) 0 = ((ns.drop (p + 1)).take n).sum % 256
      · rw [if_pos z, if_pos ⟨by omega, by omega, z⟩]
      · rw [if_neg z, if_neg fun y => z y.2.2]
    have lb : ((ns.drop (p + 1)).take n).length ≤ 10000 := by rw [List.length_take, List.length_drop]; omega
    generalize (ns.drop (p + 1)).take n = b at *
    simp only [w_recovered_t4, ↓wSeq_e, ↓wNext_e, ↓wBreak_e, ↓wCont_e, ↓wRet_e, ↓wRetN_e, ↓wDrop_e, ↓wIf_e, ↓wAnd_e, ↓wOr_e, ↓wNot_e, ↓wTst_e, ↓wAndV_e, ↓wOrV_e, ↓wNotV_e, ↓wIfE_e, ↓wChain_e, ↓wVar_e, ↓wPk_e, ↓wC_e, ↓wOp_e, ↓wUn_e, ↓wM1_e, ↓wTup_e, ↓wfLst_e, ↓wFz_e, ↓waNil_e, ↓waCons_e, ↓asNil_e, ↓asCons_e, ↓asBox_e, ↓wCall_e, ↓wAsg_e, ↓wSt_e, ↓wAsgO_e, ↓wTp_e, ↓wStL_nil, ↓wStL_cons, ↓wFor_e, ↓wRg1_e, ↓wRg2_e, ↓wItL_e, ↓wItT_e, ↓wItS_e, ↓wApp_e, ↓woNone_e, ↓woSome_e, ↓wCut_e, ↓wBx1_e, ↓wBx0_e, ↓wBxPut_e, ↓wDraw_e, ↓wTru_e, ↓wLc_e, ↓wYes_e, ↓wAug_e, dLt, dLe, dGt, dGe, dSub, dMul, dMod, dFdiv, dPow, dI2, dI2C, dAdd, dEq, dNe, dLen, dInt, dIx_l, dIx_t, dIx_s, dList, dSum, dCut, atI_zero, atI_one, Option.some.injEq, dTru, dMax2, dMin2, dIs, dNotIs, obD, id_eq, List.getElem?_cons_zero, List.getElem?_cons_succ, List.set_cons_zero, List.set_cons_succ, List.length_cons, List.length_nil, D.bl.injEq, exists_eq_left', decide_eq_true_eq, decide_eq_false_iff_not, Bool.not_eq_true', Bool.not_eq_false', Nat.zero_add, Nat.reduceAdd, true_and, and_true, forall_const, reduceCtorEq, not_true_eq_false, not_false_eq_true, false_implies, true_implies, implies_true, sz_line, Nat.reduceLeDiff, Int.reduceLE, Int.reduceLT, Int.reduceNeg, Int.reducePow, Int.reduceAdd, Int.reduceSub, Int.reduceMul, wf_deed_of]
    refine ⟨b, rfl, lb, ?_⟩
    have a1 := at_ints (ns := ns) (i := (p : Int) + n + 3 - 1) (p := p + n + 2) (by omega) (by omega)
    have a2 := at_ints (ns := ns) (i := (p : Int) + n + 3 - 2) (p := p + n + 1) (by omega) (by omega)
    simp only [w_recovered_t3, ↓wSeq_e, ↓wNext_e, ↓wBreak_e, ↓wCont_e, ↓wRet_e, ↓wRetN_e, ↓wDrop_e, ↓wIf_e, ↓wAnd_e, ↓wOr_e, ↓wNot_e, ↓wTst_e, ↓wAndV_e, ↓wOrV_e, ↓wNotV_e, ↓wIfE_e, ↓wChain_e, ↓wVar_e, ↓wPk_e, ↓wC_e, ↓wOp_e, ↓wUn_e, ↓wM1_e, ↓wTup_e, ↓wfLst_e, ↓wFz_e, ↓waNil_e, ↓waCons_e, ↓asNil_e, ↓asCons_e, ↓asBox_e, ↓wCall_e, ↓wAsg_e, ↓wSt_e, ↓wAsgO_e, ↓wTp_e, ↓wStL_nil, ↓wStL_cons, ↓wFor_e, ↓wRg1_e, ↓wRg2_e, ↓wItL_e, ↓wItT_e, ↓wItS_e, ↓wApp_e, ↓woNone_e, ↓woSome_e, ↓wCut_e, ↓wBx1_e, ↓wBx0_e, ↓wBxPut_e, ↓wDraw_e, ↓wTru_e, ↓wLc_e, ↓wYes_e, ↓wAug_e, dLt, dLe, dGt, dGe, dSub, dMul, dMod, dFdiv, dPow, dI2, dI2C, dAdd, dEq, dNe, dLen, dInt, dIx_l, dIx_t, dIx_s, dList, dSum, dCut, atI_zero, atI_one, Option.some.injEq, dTru, dMax2, dMin2, dIs, dNotIs, obD, id_eq, List.getElem?_cons_zero, List.getElem?_cons_succ, List.set_cons_zero, List.set_cons_succ, List.length_cons, List.length_nil, D.bl.injEq, exists_eq_left', decide_eq_true_eq, decide_eq_false_iff_not, Bool.not_eq_true', Bool.not_eq_false', Nat.zero_add, Nat.reduceAdd, true_and, and_true, forall_const, reduceCtorEq, not_true_eq_false, not_false_eq_true, false_implies, true_implies, implies_true, sz_line, Nat.reduceLeDiff, Int.reduceLE, Int.reduceLT, Int.reduceNeg, Int.reducePow, Int.reduceAdd, Int.reduceSub, Int.reduceMul, dEqB, a1, a2]
    refine ⟨fun h1 => fin _ _ _ (by rw [e2, if_neg fun z => h1 z.1]), fun h1 => ⟨b, rfl, fun h2 => fin _ _ _ (by rw [e2, if_neg fun z => h2 z.2]), fun h2 => ?_⟩⟩
    rw [if_pos ⟨h1, h2⟩] at e2
    cases ht : told b with
    | none =>
      rw [toldD_of_none ht]
      exact ⟨true, rfl, fun _ => fin _ _ _ (by rw [e2, ht]; rfl), fun z => by cases z⟩
    | some e =>
      rw [ht] at e2
      rw [toldD_of_some ht]
      refine dIs_dd ⟨false, rfl, (fun z => by cases z), fun _ => ?_⟩
      simp only [w_recovered_t2, w_recovered_t1, ↓wSeq_e, ↓wNext_e, ↓wBreak_e, ↓wCont_e, ↓wRet_e, ↓wRetN_e, ↓wDrop_e, ↓wIf_e, ↓wAnd_e, ↓wOr_e, ↓wNot_e, ↓wTst_e, ↓wAndV_e, ↓wOrV_e, ↓wNotV_e, ↓wIfE_e, ↓wChain_e, ↓wVar_e, ↓wPk_e, ↓wC_e, ↓wOp_e, ↓wUn_e, ↓wM1_e, ↓wTup_e, ↓wfLst_e, ↓wFz_e, ↓waNil_e, ↓waCons_e, ↓asNil_e, ↓asCons_e, ↓asBox_e, ↓wCall_e, ↓wAsg_e, ↓wSt_e, ↓wAsgO_e, ↓wTp_e, ↓wStL_nil, ↓wStL_cons, ↓wFor_e, ↓wRg1_e, ↓wRg2_e, ↓wItL_e, ↓wItT_e, ↓wItS_e, ↓wApp_e, ↓woNone_e, ↓woSome_e, ↓wCut_e, ↓wBx1_e, ↓wBx0_e, ↓wBxPut_e, ↓wDraw_e, ↓wTru_e, ↓wLc_e, ↓wYes_e, ↓wAug_e, dLt, dLe, dGt, dGe, dSub, dMul, dMod, dFdiv, dPow, dI2, dI2C, dAdd, dEq, dNe, dLen, dInt, dIx_l, dIx_t, dIx_s, dList, dSum, dCut, atI_zero, atI_one, Option.some.injEq, dTru, dMax2, dMin2, dIs, dNotIs, obD, id_eq, List.getElem?_cons_zero, List.getElem?_cons_succ, List.set_cons_zero, List.set_cons_succ, List.length_cons, List.length_nil, D.bl.injEq, exists_eq_left', decide_eq_true_eq, decide_eq_false_iff_not, Bool.not_eq_true', Bool.not_eq_false', Nat.zero_add, Nat.reduceAdd, true_and, and_true, forall_const, reduceCtorEq, not_true_eq_false, not_false_eq_true, false_implies, true_implies, implies_true, sz_line, Nat.reduceLeDiff, Int.reduceLE, Int.reduceLT, Int.reduceNeg, Int.reducePow, Int.reduceAdd, Int.reduceSub, Int.reduceMul, List.length_map]
      exact ⟨by omega, ns.length - (p + n + 3), by omega, p + n + 3, es ++ [e], _, _, _, slots_eq _ _ _, r.some e2, by omega, by simp; omega, rfl⟩
  · exact h.elim
/-! ### _law_cell -/def wf__law_cell : WFn
  | [.sh (.scr ds), .sh (.int k)], Q => (∃ ns : List Int, ds = ns.map D.int) ∧ 0 ≤ k ∧ ∀ z, Q (.int z)
  | _, _ => False
theorem len__law_cell : ∀ as Qd, wf__law_cell as Qd → as.length = 2 := fun as Qd h => by
  unfold wf__law_cell at h
  split at h
  · rfl
  · exact h.elim

def w__law_cell : WS := (wSeq (wIf (wTst (wOp dLt (wPk 1) (wUn dLen (wPk 0))))
 (wRet (wOp dIx (wPk 0) (wPk 1)))
 wNext)
 (wRet (wC (.int 0))))

theorem p__law_cell : ∀ as Qd, wf__law_cell as Qd → w__law_cell (startD ["_law_script", "_law_k"] as) { nx := fun _ => Qd .non, rt := Qd } := fun as Qd h => by
  unfold wf__law_cell at h
  split at h
  · obtain ⟨⟨ns, rfl⟩, hk, q⟩ := h
    show w__law_cell [.sh _, .sh _] _
    simp only [w__law_cell, ↓wSeq_e, ↓wNext_e, ↓wBreak_e, ↓wCont_e, ↓wRet_e, ↓wRetN_e, ↓wDrop_e, ↓wIf_e, ↓wAnd_e, ↓wOr_e, ↓wNot_e, ↓wTst_e, ↓wAndV_e, ↓wOrV_e, ↓wNotV_e, ↓wIfE_e, ↓wChain_e, ↓wVar_e, ↓wPk_e, ↓wC_e, ↓wOp_e, ↓wUn_e, ↓wM1_e, ↓wTup_e, ↓wfLst_e, ↓wFz_e, ↓waNil_e, ↓waCons_e, ↓asNil_e, ↓asCons_e, ↓asBox_e, ↓wCall_e, ↓wAsg_e, ↓wSt_e, ↓wAsgO_e, ↓wTp_e, ↓wStL_nil, ↓wStL_cons, ↓wFor_e, ↓wRg1_e, ↓wRg2_e, ↓wItL_e, ↓wItT_e, ↓wItS_e, ↓wApp_e, ↓woNone_e, ↓woSome_e, ↓wCut_e, ↓wBx1_e, ↓wBx0_e, ↓wBxPut_e, ↓wDraw_e, ↓wTru_e, ↓wLc_e, ↓wYes_e, ↓wAug_e, dLt, dLe, dGt, dGe, dSub, dMul, dMod, dFdiv, dPow, dI2, dI2C, dAdd, dEq, dNe, dLen, dInt, dIx_l, dIx_t, dIx_s, dList, dSum, dCut, atI_zero, atI_one, Option.some.injEq, dTru, dMax2, dMin2, dIs, dNotIs, obD, id_eq, List.getElem?_cons_zero, List.getElem?_cons_succ, List.set_cons_zero, List.set_cons_succ, List.length_cons, List.length_nil, D.bl.injEq, exists_eq_left', decide_eq_true_eq, decide_eq_false_iff_not, Bool.not_eq_true', Bool.not_eq_false', Nat.zero_add, Nat.reduceAdd, true_and, and_true, forall_const, reduceCtorEq, not_true_eq_false, not_false_eq_true, false_implies, true_implies, implies_true, sz_line, Nat.reduceLeDiff, Int.reduceLE, Int.reduceLT, Int.reduceNeg, Int.reducePow, Int.reduceAdd, Int.reduceSub, Int.reduceMul]
    refine ⟨fun hc => ?_, fun _ => q 0⟩
    rw [List.length_map] at hc
    obtain ⟨n, _, _, e⟩ := atI_map (f := D.int) hk hc
    exact ⟨_, e, q n⟩
  · exact h.elim
/-! ### _law_row -/def wf__law_row : WFn
  | [.sh (.int z), .sh (.int k), .sh (.int m)], Q => 0 ≤ m ∧ m ≤ 1000000 ∧ ∀ ns : List Int, (ns.length : Int) ≤ m → Q (.lst (ns.map D.int))
  | _, _ => False
theorem len__law_row : ∀ as Qd, wf__law_row as Qd → as.length = 3 := fun as Qd h => by
  unfold wf__law_row at h
  split at h
  · rfl
  · exact h.elim

def w__law_row : WS := (wSeq (wAsgO (wfLst waNil) 3)
 (wSeq (wIf (wTst (wOp dLt (wPk 0) (wC (.int 0))))
 (wAsg (wOp dSub (wC (.int 1)) (wOp dMul (wC (.int 2)) (wPk 0))) (wSt 0))
 wNext)
 (wSeq (wIf (wTst (wOp dGe (wPk 0) (wOp dPow (wC (.int 10)) (wC (.int 18)))))
 (wSeq (wFor (wRg1 (waCons (wC (.int 60)) waNil)) (wSt 4)
 (wIf (wAnd (wTst (wOp dGt (wPk 0) (wC (.int 0)))) (wTst (wOp dLt (wUn dLen (wPk 3)) (wPk 2))))
 (wSeq (wApp 3 (wOp dMod (wUn dInt (wPk 0)) (wC (.int 1000))))
 (wAsg (wOp dFdiv (wPk 0) (wC (.int 1000))) (wSt 0)))
 wNext))
 (wRet (wVar 3)))
 wNext)
 (wSeq (wAsg (wOp dMod (wUn dInt (wOp dAdd (wOp dAdd (wOp dMul (wPk 0) (wC (.int 48271))) (wOp dMul (wPk 1) (wC (.int 69621)))) (wC (.int 11)))) (wC (.int 2147483647))) (wSt 5))
 (wSeq (wFor (wRg1 (waCons (wVar 2) waNil)) (wSt 4)
 (wSeq (wAsg (wOp dMod (wUn dInt (wOp dAdd (wOp dAdd (wOp dMul (wPk 5) (wC (.int 16807))) (wOp dMul (wC (.int 7)) (wPk 4))) (wC (.int 1)))) (wC (.int 2147483647))) (wSt 5))
 (wApp 3 (wOp dMod (wUn dInt (wOp dFdiv (wPk 5) (wC (.int 997)))) (wC (.int 1000))))))
 (wRet (wVar 3)))))))

theorem p__law_row : ∀ as Qd, wf__law_row as Qd → w__law_row (startD ["_law_cell_here", "_law_k", "_law_many", "_law_row_here", "_law_turn", "_law_seed"] as) { nx := fun _ => Qd .non, rt := Qd } := fun as Qd h => by
  unfold wf__law_row at h
  split at h
  · rename_i z k m
    obtain ⟨hm0, hm1, q⟩ := h
    show w__law_row [.sh (.int z), .sh (.int k), .sh (.int m), .no, .no, .no] _
    simp only [w__law_row, ↓wSeq_e, ↓wNext_e, ↓wBreak_e, ↓wCont_e, ↓wRet_e, ↓wRetN_e, ↓wDrop_e, ↓wIf_e, ↓wAnd_e, ↓wOr_e, ↓wNot_e, ↓wTst_e, ↓wAndV_e, ↓wOrV_e, ↓wNotV_e, ↓wIfE_e, ↓wChain_e, ↓wVar_e, ↓wPk_e, ↓wC_e, ↓wOp_e, ↓wUn_e, ↓wM1_e, ↓wTup_e, ↓wfLst_e, ↓wFz_e, ↓waNil_e, ↓waCons_e, ↓asNil_e, ↓asCons_e, ↓asBox_e, ↓wCall_e, ↓wAsg_e, ↓wSt_e, ↓wAsgO_e, ↓wTp_e, ↓wStL_nil, ↓wStL_cons, ↓wFor_e, ↓wRg1_e, ↓wRg2_e, ↓wItL_e, ↓wItT_e, ↓wItS_e, ↓wApp_e, ↓woNone_e, ↓woSome_e, ↓wCut_e, ↓wBx1_e, ↓wBx0_e, ↓wBxPut_e, ↓wDraw_e, ↓wTru_e, ↓wLc_e, ↓wYes_e, ↓wAug_e, dLt, dLe, dGt, dGe, dSub, dMul, dMod, dFdiv, dPow, dI2, dI2C, dAdd, dEq, dNe, dLen, dInt, dIx_l, dIx_t, dIx_s, dList, dSum, dCut, atI_zero, atI_one, Option.some.injEq, dTru, dMax2, dMin2, dIs, dNotIs, obD, id_eq, List.getElem?_cons_zero, List.getElem?_cons_succ, List.set_cons_zero, List.set_cons_succ, List.length_cons, List.length_nil, D.bl.injEq, exists_eq_left', decide_eq_true_eq, decide_eq_false_iff_not, Bool.not_eq_true', Bool.not_eq_false', Nat.zero_add, Nat.reduceAdd, true_and, and_true, forall_const, reduceCtorEq, not_true_eq_false, not_false_eq_true, false_implies, true_implies, implies_true, sz_line, Nat.reduceLeDiff, Int.reduceLE, Int.reduceLT, Int.reduceNeg, Int.reducePow, Int.reduceAdd, Int.reduceSub, Int.reduceMul]
    refine ⟨fun _ => ⟨.inl (by decide), ?_⟩, fun _ => ?_⟩
    all_goals
      refine ⟨⟨by decide, by decide, by decide⟩, fun _ => ?_, fun _ => ⟨.inr (by decide), .inr (by decide), by omega, ?_⟩⟩
      · refine wForL_rule (fun _ ρ => ∃ (z : Int) (ns : List Int) (s4 : Sl), ρ = [.sh (.int z), .sh (.int k), .sh (.int m), .ol (ns.map D.int), s4, .no] ∧ (ns.length : Int) ≤ m) ?_ ?_ _ _ ⟨_, [], _, rfl, hm0⟩
        · rintro d r ρ ⟨z, ns, s4, rfl, hl⟩ C hC
          simp only [↓wSeq_e, ↓wNext_e, ↓wBreak_e, ↓wCont_e, ↓wRet_e, ↓wRetN_e, ↓wDrop_e, ↓wIf_e, ↓wAnd_e, ↓wOr_e, ↓wNot_e, ↓wTst_e, ↓wAndV_e, ↓wOrV_e, ↓wNotV_e, ↓wIfE_e, ↓wChain_e, ↓wVar_e, ↓wPk_e, ↓wC_e, ↓wOp_e, ↓wUn_e, ↓wM1_e, ↓wTup_e, ↓wfLst_e, ↓wFz_e, ↓waNil_e, ↓waCons_e, ↓asNil_e, ↓asCons_e, ↓asBox_e, ↓wCall_e, ↓wAsg_e, ↓wSt_e, ↓wAsgO_e, ↓wTp_e, ↓wStL_nil, ↓wStL_cons, ↓wFor_e, ↓wRg1_e, ↓wRg2_e, ↓wItL_e, ↓wItT_e, ↓wItS_e, ↓wApp_e, ↓woNone_e, ↓woSome_e, ↓wCut_e, ↓wBx1_e, ↓wBx0_e, ↓wBxPut_e, ↓wDraw_e, ↓wTru_e, ↓wLc_e, ↓wYes_e, ↓wAug_e, dLt, dLe, dGt, dGe, dSub, dMul, dMod, dFdiv, dPow, dI2, dI2C, dAdd, dEq, dNe, dLen, dInt, dIx_l, dIx_t, dIx_s, dList, dSum, dCut, atI_zero, atI_one, Option.some.injEq, dTru, dMax2, dMin2, dIs, dNotIs, obD, id_eq, List.getElem?_cons_zero, List.getElem?_cons_succ, List.set_cons_zero, List.set_cons_succ, List.length_cons, List.length_nil, D.bl.injEq, exists_eq_left', decide_eq_true_eq, decide_eq_false_iff_not, Bool.not_eq_true', Bool.not_eq_false', Nat.zero_add, Nat.reduceAdd, true_and, and_true, forall_const, reduceCtorEq, not_true_eq_false, not_false_eq_true, false_implies, true_implies, implies_true, sz_line, Nat.reduceLeDiff, Int.reduceLE, Int.reduceLT, Int.reduceNeg, Int.reducePow, Int.reduceAdd, Int.reduceSub, Int.reduceMul, List.length_map]
          refine ⟨fun _ => ⟨fun hc => ⟨by omega, ⟨by decide, by decide⟩, ?_⟩, fun _ => ?_⟩, fun _ => ?_⟩
          · exact hC _ ⟨z / 1000, ns ++ [z % 1000], _, by rw [List.map_append]; rfl, by simp; omega⟩
          · exact hC _ ⟨z, ns, _, rfl, hl⟩
          · exact hC _ ⟨z, ns, _, rfl, hl⟩
        · rintro ρ ⟨z, ns, s4, rfl, hl⟩
          simp only [↓wSeq_e, ↓wNext_e, ↓wBreak_e, ↓wCont_e, ↓wRet_e, ↓wRetN_e, ↓wDrop_e, ↓wIf_e, ↓wAnd_e, ↓wOr_e, ↓wNot_e, ↓wTst_e, ↓wAndV_e, ↓wOrV_e, ↓wNotV_e, ↓wIfE_e, ↓wChain_e, ↓wVar_e, ↓wPk_e, ↓wC_e, ↓wOp_e, ↓wUn_e, ↓wM1_e, ↓wTup_e, ↓wfLst_e, ↓wFz_e, ↓waNil_e, ↓waCons_e, ↓asNil_e, ↓asCons_e, ↓asBox_e, ↓wCall_e, ↓wAsg_e, ↓wSt_e, ↓wAsgO_e, ↓wTp_e, ↓wStL_nil, ↓wStL_cons, ↓wFor_e, ↓wRg1_e, ↓wRg2_e, ↓wItL_e, ↓wItT_e, ↓wItS_e, ↓wApp_e, ↓woNone_e, ↓woSome_e, ↓wCut_e, ↓wBx1_e, ↓wBx0_e, ↓wBxPut_e, ↓wDraw_e, ↓wTru_e, ↓wLc_e, ↓wYes_e, ↓wAug_e, dLt, dLe, dGt, dGe, dSub, dMul, dMod, dFdiv, dPow, dI2, dI2C, dAdd, dEq, dNe, dLen, dInt, dIx_l, dIx_t, dIx_s, dList, dSum, dCut, atI_zero, atI_one, Option.some.injEq, dTru, dMax2, dMin2, dIs, dNotIs, obD, id_eq, List.getElem?_cons_zero, List.getElem?_cons_succ, List.set_cons_zero, List.set_cons_succ, List.length_cons, List.length_nil, D.bl.injEq, exists_eq_left', decide_eq_true_eq, decide_eq_false_iff_not, Bool.not_eq_true', Bool.not_eq_false', Nat.zero_add, Nat.reduceAdd, true_and, and_true, forall_const, reduceCtorEq, not_true_eq_false, not_false_eq_true, false_implies, true_implies, implies_true, sz_line, Nat.reduceLeDiff, Int.reduceLE, Int.reduceLT, Int.reduceNeg, Int.reducePow, Int.reduceAdd, Int.reduceSub, Int.reduceMul]
          exact q ns hl
      · refine wForL_rule (fun r ρ => ∃ (z : Int) (ns : List Int) (s4 : Sl) (y : Int), ρ = [.sh (.int z), .sh (.int k), .sh (.int m), .ol (ns.map D.int), s4, .sh (.int y)] ∧ ns.length + r.length ≤ m.toNat ∧ ∀ d ∈ r, ∃ i, d = D.int i) ?_ ?_ _ _ ⟨_, [], _, _, rfl, ?_, ?_⟩
        · rintro d r ρ ⟨z, ns, s4, y, rfl, hl, hr⟩ C hC
          obtain ⟨i, rfl⟩ := hr d List.mem_cons_self
          rw [List.length_cons] at hl
          simp only [↓wSeq_e, ↓wNext_e, ↓wBreak_e, ↓wCont_e, ↓wRet_e, ↓wRetN_e, ↓wDrop_e, ↓wIf_e, ↓wAnd_e, ↓wOr_e, ↓wNot_e, ↓wTst_e, ↓wAndV_e, ↓wOrV_e, ↓wNotV_e, ↓wIfE_e, ↓wChain_e, ↓wVar_e, ↓wPk_e, ↓wC_e, ↓wOp_e, ↓wUn_e, ↓wM1_e, ↓wTup_e, ↓wfLst_e, ↓wFz_e, ↓waNil_e, ↓waCons_e, ↓asNil_e, ↓asCons_e, ↓asBox_e, ↓wCall_e, ↓wAsg_e, ↓wSt_e, ↓wAsgO_e, ↓wTp_e, ↓wStL_nil, ↓wStL_cons, ↓wFor_e, ↓wRg1_e, ↓wRg2_e, ↓wItL_e, ↓wItT_e, ↓wItS_e, ↓wApp_e, ↓woNone_e, ↓woSome_e, ↓wCut_e, ↓wBx1_e, ↓wBx0_e, ↓wBxPut_e, ↓wDraw_e, ↓wTru_e, ↓wLc_e, ↓wYes_e, ↓wAug_e, dLt, dLe, dGt, dGe, dSub, dMul, dMod, dFdiv, dPow, dI2, dI2C, dAdd, dEq, dNe, dLen, dInt, dIx_l, dIx_t, dIx_s, dList, dSum, dCut, atI_zero, atI_one, Option.some.injEq, dTru, dMax2, dMin2, dIs, dNotIs, obD, id_eq, List.getElem?_cons_zero, List.getElem?_cons_succ, List.set_cons_zero, List.set_cons_succ, List.length_cons, List.length_nil, D.bl.injEq, exists_eq_left', decide_eq_true_eq, decide_eq_false_iff_not, Bool.not_eq_true', Bool.not_eq_false', Nat.zero_add, Nat.reduceAdd, true_and, and_true, forall_const, reduceCtorEq, not_true_eq_false, not_false_eq_true, false_implies, true_implies, implies_true, sz_line, Nat.reduceLeDiff, Int.reduceLE, Int.reduceLT, Int.reduceNeg, Int.reducePow, Int.reduceAdd, Int.reduceSub, Int.reduceMul, List.length_map]
          refine ⟨.inr (by decide), .inl (by decide), ⟨by decide, by decide⟩, by omega, ?_⟩
          exact hC _ ⟨z, ns ++ [_], _, _, by rw [List.map_append]; rfl, by simp; omega, fun d hd => hr d (List.mem_cons_of_mem _ hd)⟩
        · rintro ρ ⟨z, ns, s4, y, rfl, hl, _⟩
          simp only [↓wSeq_e, ↓wNext_e, ↓wBreak_e, ↓wCont_e, ↓wRet_e, ↓wRetN_e, ↓wDrop_e, ↓wIf_e, ↓wAnd_e, ↓wOr_e, ↓wNot_e, ↓wTst_e, ↓wAndV_e, ↓wOrV_e, ↓wNotV_e, ↓wIfE_e, ↓wChain_e, ↓wVar_e, ↓wPk_e, ↓wC_e, ↓wOp_e, ↓wUn_e, ↓wM1_e, ↓wTup_e, ↓wfLst_e, ↓wFz_e, ↓waNil_e, ↓waCons_e, ↓asNil_e, ↓asCons_e, ↓asBox_e, ↓wCall_e, ↓wAsg_e, ↓wSt_e, ↓wAsgO_e, ↓wTp_e, ↓wStL_nil, ↓wStL_cons, ↓wFor_e, ↓wRg1_e, ↓wRg2_e, ↓wItL_e, ↓wItT_e, ↓wItS_e, ↓wApp_e, ↓woNone_e, ↓woSome_e, ↓wCut_e, ↓wBx1_e, ↓wBx0_e, ↓wBxPut_e, ↓wDraw_e, ↓wTru_e, ↓wLc_e, ↓wYes_e, ↓wAug_e, dLt, dLe, dGt, dGe, dSub, dMul, dMod, dFdiv, dPow, dI2, dI2C, dAdd, dEq, dNe, dLen, dInt, dIx_l, dIx_t, dIx_s, dList, dSum, dCut, atI_zero, atI_one, Option.some.injEq, dTru, dMax2, dMin2, dIs, dNotIs, obD, id_eq, List.getElem?_cons_zero, List.getElem?_cons_succ, List.set_cons_zero, List.set_cons_succ, List.length_cons, List.length_nil, D.bl.injEq, exists_eq_left', decide_eq_true_eq, decide_eq_false_iff_not, Bool.not_eq_true', Bool.not_eq_false', Nat.zero_add, Nat.reduceAdd, true_and, and_true, forall_const, reduceCtorEq, not_true_eq_false, not_false_eq_true, false_implies, true_implies, implies_true, sz_line, Nat.reduceLeDiff, Int.reduceLE, Int.reduceLT, Int.reduceNeg, Int.reducePow, Int.reduceAdd, Int.reduceSub, Int.reduceMul]
          exact q ns (by simp at hl; omega)
        · rw [rangeD_length]; simp
        · intro d hd
          obtain ⟨i, e, _⟩ := rangeD_mem hd
          exact ⟨i, e⟩
  · exact h.elim
/-! ### _law_box -/def wf__law_box : WFn
  | [.sh (.scr ds), .sh (.int lo), .sh (.int hi)], Q => (∃ ns : List Int, ds = ns.map D.int) ∧ 0 ≤ lo ∧ lo ≤ hi ∧ hi ≤ 10000 ∧ ∀ ns : List Int, Q (.lst [.lst (ns.map D.int), .int 0])
  | _, _ => False
theorem len__law_box : ∀ as Qd, wf__law_box as Qd → as.length = 3 := fun as Qd h => by
  unfold wf__law_box at h
  split at h
  · rfl
  · exact h.elim

def w__law_box : WS := (wSeq (wAsg (wFz (wfLst waNil)) (wSt 3))
 (wSeq (wFor (wRg2 (waCons (wVar 1) (waCons (wVar 2) waNil))) (wSt 4)
 (wAsg (wOp dAdd (wPk 3) (wCall wf__law_row (asCons (wCall wf__law_cell (asCons (wVar 0) (asCons (wVar 4) asNil))) (asCons (wVar 4) (asCons (wC (.int 12)) asNil))))) (wSt 3)))
 (wRet (wFz (wfLst (waCons (wVar 3) (waCons (wC (.int 0)) waNil)))))))

theorem p__law_box : ∀ as Qd, wf__law_box as Qd → w__law_box (startD ["_law_script", "_law_first", "_law_last", "_law_row_here", "_law_k"] as) { nx := fun _ => Qd .non, rt := Qd } := fun as Qd h => by
  unfold wf__law_box at h
  split at h
  · rename_i _ _ ds lo hi
    obtain ⟨⟨sc, rfl⟩, h0, h1, h2, q⟩ := h
    show w__law_box [.sh (.scr (sc.map D.int)), .sh (.int lo), .sh (.int hi), .no, .no] _
    simp only [w__law_box, ↓wSeq_e, ↓wNext_e, ↓wBreak_e, ↓wCont_e, ↓wRet_e, ↓wRetN_e, ↓wDrop_e, ↓wIf_e, ↓wAnd_e, ↓wOr_e, ↓wNot_e, ↓wTst_e, ↓wAndV_e, ↓wOrV_e, ↓wNotV_e, ↓wIfE_e, ↓wChain_e, ↓wVar_e, ↓wPk_e, ↓wC_e, ↓wOp_e, ↓wUn_e, ↓wM1_e, ↓wTup_e, ↓wfLst_e, ↓wFz_e, ↓waNil_e, ↓waCons_e, ↓asNil_e, ↓asCons_e, ↓asBox_e, ↓wCall_e, ↓wAsg_e, ↓wSt_e, ↓wAsgO_e, ↓wTp_e, ↓wStL_nil, ↓wStL_cons, ↓wFor_e, ↓wRg1_e, ↓wRg2_e, ↓wItL_e, ↓wItT_e, ↓wItS_e, ↓wApp_e, ↓woNone_e, ↓woSome_e, ↓wCut_e, ↓wBx1_e, ↓wBx0_e, ↓wBxPut_e, ↓wDraw_e, ↓wTru_e, ↓wLc_e, ↓wYes_e, ↓wAug_e, dLt, dLe, dGt, dGe, dSub, dMul, dMod, dFdiv, dPow, dI2, dI2C, dAdd, dEq, dNe, dLen, dInt, dIx_l, dIx_t, dIx_s, dList, dSum, dCut, atI_zero, atI_one, Option.some.injEq, dTru, dMax2, dMin2, dIs, dNotIs, obD, id_eq, List.getElem?_cons_zero, List.getElem?_cons_succ, List.set_cons_zero, List.set_cons_succ, List.length_cons, List.length_nil, D.bl.injEq, exists_eq_left', decide_eq_true_eq, decide_eq_false_iff_not, Bool.not_eq_true', Bool.not_eq_false', Nat.zero_add, Nat.reduceAdd, true_and, and_true, forall_const, reduceCtorEq, not_true_eq_false, not_false_eq_true, false_implies, true_implies, implies_true, sz_line, Nat.reduceLeDiff, Int.reduceLE, Int.reduceLT, Int.reduceNeg, Int.reducePow, Int.reduceAdd, Int.reduceSub, Int.reduceMul]
    refine ⟨by omega, ?_⟩
    refine wForL_rule (fun r ρ => ∃ (ns : List Int) (s4 : Sl), ρ = [.sh (.scr (sc.map D.int)), .sh (.int lo), .sh (.int hi), .sh (.lst (ns.map D.int)), s4] ∧ ns.length + 12 * r.length ≤ 12 * (hi - lo).toNat ∧ ∀ d ∈ r, ∃ i : Int, d = .int i ∧ 0 ≤ i) ?_ ?_ _ _ ⟨[], _, rfl, ?_, ?_⟩
    · rintro d r ρ ⟨ns, s4, rfl, hl, hr⟩ C hC
      obtain ⟨i, rfl, hi0⟩ := hr d List.mem_cons_self
      rw [List.length_cons] at hl
      simp only [↓wSeq_e, ↓wNext_e, ↓wBreak_e, ↓wCont_e, ↓wRet_e, ↓wRetN_e, ↓wDrop_e, ↓wIf_e, ↓wAnd_e, ↓wOr_e, ↓wNot_e, ↓wTst_e, ↓wAndV_e, ↓wOrV_e, ↓wNotV_e, ↓wIfE_e, ↓wChain_e, ↓wVar_e, ↓wPk_e, ↓wC_e, ↓wOp_e, ↓wUn_e, ↓wM1_e, ↓wTup_e, ↓wfLst_e, ↓wFz_e, ↓waNil_e, ↓waCons_e, ↓asNil_e, ↓asCons_e, ↓asBox_e, ↓wCall_e, ↓wAsg_e, ↓wSt_e, ↓wAsgO_e, ↓wTp_e, ↓wStL_nil, ↓wStL_cons, ↓wFor_e, ↓wRg1_e, ↓wRg2_e, ↓wItL_e, ↓wItT_e, ↓wItS_e, ↓wApp_e, ↓woNone_e, ↓woSome_e, ↓wCut_e, ↓wBx1_e, ↓wBx0_e, ↓wBxPut_e, ↓wDraw_e, ↓wTru_e, ↓wLc_e, ↓wYes_e, ↓wAug_e, dLt, dLe, dGt, dGe, dSub, dMul, dMod, dFdiv, dPow, dI2, dI2C, dAdd, dEq, dNe, dLen, dInt, dIx_l, dIx_t, dIx_s, dList, dSum, dCut, atI_zero, atI_one, Option.some.injEq, dTru, dMax2, dMin2, dIs, dNotIs, obD, id_eq, List.getElem?_cons_zero, List.getElem?_cons_succ, List.set_cons_zero, List.set_cons_succ, List.length_cons, List.length_nil, D.bl.injEq, exists_eq_left', decide_eq_true_eq, decide_eq_false_iff_not, Bool.not_eq_true', Bool.not_eq_false', Nat.zero_add, Nat.reduceAdd, true_and, and_true, forall_const, reduceCtorEq, not_true_eq_false, not_false_eq_true, false_implies, true_implies, implies_true, sz_line, Nat.reduceLeDiff, Int.reduceLE, Int.reduceLT, Int.reduceNeg, Int.reducePow, Int.reduceAdd, Int.reduceSub, Int.reduceMul, wf__law_cell, wf__law_row, List.length_map]
      refine ⟨⟨_, rfl⟩, hi0, fun ms hm => ⟨by omega, hC _ ⟨ns ++ ms, _, by rw [List.map_append], by rw [List.length_append]; omega, fun d hd => hr d (List.mem_cons_of_mem _ hd)⟩⟩⟩
    · rintro ρ ⟨ns, s4, rfl, _⟩
      simp only [↓wSeq_e, ↓wNext_e, ↓wBreak_e, ↓wCont_e, ↓wRet_e, ↓wRetN_e, ↓wDrop_e, ↓wIf_e, ↓wAnd_e, ↓wOr_e, ↓wNot_e, ↓wTst_e, ↓wAndV_e, ↓wOrV_e, ↓wNotV_e, ↓wIfE_e, ↓wChain_e, ↓wVar_e, ↓wPk_e, ↓wC_e, ↓wOp_e, ↓wUn_e, ↓wM1_e, ↓wTup_e, ↓wfLst_e, ↓wFz_e, ↓waNil_e, ↓waCons_e, ↓asNil_e, ↓asCons_e, ↓asBox_e, ↓wCall_e, ↓wAsg_e, ↓wSt_e, ↓wAsgO_e, ↓wTp_e, ↓wStL_nil, ↓wStL_cons, ↓wFor_e, ↓wRg1_e, ↓wRg2_e, ↓wItL_e, ↓wItT_e, ↓wItS_e, ↓wApp_e, ↓woNone_e, ↓woSome_e, ↓wCut_e, ↓wBx1_e, ↓wBx0_e, ↓wBxPut_e, ↓wDraw_e, ↓wTru_e, ↓wLc_e, ↓wYes_e, ↓wAug_e, dLt, dLe, dGt, dGe, dSub, dMul, dMod, dFdiv, dPow, dI2, dI2C, dAdd, dEq, dNe, dLen, dInt, dIx_l, dIx_t, dIx_s, dList, dSum, dCut, atI_zero, atI_one, Option.some.injEq, dTru, dMax2, dMin2, dIs, dNotIs, obD, id_eq, List.getElem?_cons_zero, List.getElem?_cons_succ, List.set_cons_zero, List.set_cons_succ, List.length_cons, List.length_nil, D.bl.injEq, exists_eq_left', decide_eq_true_eq, decide_eq_false_iff_not, Bool.not_eq_true', Bool.not_eq_false', Nat.zero_add, Nat.reduceAdd, true_and, and_true, forall_const, reduceCtorEq, not_true_eq_false, not_false_eq_true, false_implies, true_implies, implies_true, sz_line, Nat.reduceLeDiff, Int.reduceLE, Int.reduceLT, Int.reduceNeg, Int.reducePow, Int.reduceAdd, Int.reduceSub, Int.reduceMul]
      exact q ns
    · rw [rangeD_length]; simp
    · intro d hd
      obtain ⟨i, e, hi, _⟩ := rangeD_mem hd
      exact ⟨i, e, by omega⟩
  · exact h.elim
/-! ### _law_draw -/def wf__law_draw : WFn
  | [.bx, .sh (.int n)], Q => 0 < n ∧ ∀ r : Int, 0 ≤ r → r < n → Q (.int r)
  | _, _ => False
theorem len__law_draw : ∀ as Qd, wf__law_draw as Qd → as.length = 2 := fun as Qd h => by
  unfold wf__law_draw at h
  split at h
  · rfl
  · exact h.elim

def w__law_draw : WS := (wSeq (wAsg (wBx1 0) (wSt 2))
 (wSeq (wBxPut 0 (wOp dAdd (wPk 2) (wC (.int 1))))
 (wSeq (wDraw 0 2 1)
 (wRet (wOp dMod (wUn dInt (wOp dAdd (wOp dMul (wPk 2) (wC (.int 7))) (wC (.int 3)))) (wPk 1))))))

theorem p__law_draw : ∀ as Qd, wf__law_draw as Qd → w__law_draw (startD ["_law_box_here", "_law_many", "_law_at"] as) { nx := fun _ => Qd .non, rt := Qd } := fun as Qd h => by
  unfold wf__law_draw at h
  split at h
  · obtain ⟨hn, q⟩ := h
    show w__law_draw [.bx, .sh (.int _), .no] _
    simp only [w__law_draw, ↓wSeq_e, ↓wNext_e, ↓wBreak_e, ↓wCont_e, ↓wRet_e, ↓wRetN_e, ↓wDrop_e, ↓wIf_e, ↓wAnd_e, ↓wOr_e, ↓wNot_e, ↓wTst_e, ↓wAndV_e, ↓wOrV_e, ↓wNotV_e, ↓wIfE_e, ↓wChain_e, ↓wVar_e, ↓wPk_e, ↓wC_e, ↓wOp_e, ↓wUn_e, ↓wM1_e, ↓wTup_e, ↓wfLst_e, ↓wFz_e, ↓waNil_e, ↓waCons_e, ↓asNil_e, ↓asCons_e, ↓asBox_e, ↓wCall_e, ↓wAsg_e, ↓wSt_e, ↓wAsgO_e, ↓wTp_e, ↓wStL_nil, ↓wStL_cons, ↓wFor_e, ↓wRg1_e, ↓wRg2_e, ↓wItL_e, ↓wItT_e, ↓wItS_e, ↓wApp_e, ↓woNone_e, ↓woSome_e, ↓wCut_e, ↓wBx1_e, ↓wBx0_e, ↓wBxPut_e, ↓wDraw_e, ↓wTru_e, ↓wLc_e, ↓wYes_e, ↓wAug_e, dLt, dLe, dGt, dGe, dSub, dMul, dMod, dFdiv, dPow, dI2, dI2C, dAdd, dEq, dNe, dLen, dInt, dIx_l, dIx_t, dIx_s, dList, dSum, dCut, atI_zero, atI_one, Option.some.injEq, dTru, dMax2, dMin2, dIs, dNotIs, obD, id_eq, List.getElem?_cons_zero, List.getElem?_cons_succ, List.set_cons_zero, List.set_cons_succ, List.length_cons, List.length_nil, D.bl.injEq, exists_eq_left', decide_eq_true_eq, decide_eq_false_iff_not, Bool.not_eq_true', Bool.not_eq_false', Nat.zero_add, Nat.reduceAdd, true_and, and_true, forall_const, reduceCtorEq, not_true_eq_false, not_false_eq_true, false_implies, true_implies, implies_true, sz_line, Nat.reduceLeDiff, Int.reduceLE, Int.reduceLT, Int.reduceNeg, Int.reducePow, Int.reduceAdd, Int.reduceSub, Int.reduceMul, List.length_map]
    intro n h0
    refine ⟨by omega, n, _, rfl, rfl, h0, hn, q, .inr (by decide), hn, q _ (Int.emod_nonneg _ (by omega)) (Int.emod_lt_of_pos _ hn)⟩
  · exact h.elim
/-! ### _law_same -/def wf__law_same : WFn
  | [.sh d, .sh e], Q => d = e ∧ Shw d ∧ Q (.bl true)
  | _, _ => False
theorem len__law_same : ∀ as Qd, wf__law_same as Qd → as.length = 2 := fun as Qd h => by
  unfold wf__law_same at h
  split at h
  · rfl
  · exact h.elim

def w__law_same : WS := (wRet (wOp dEq (wUn dRepr (wPk 0)) (wUn dRepr (wPk 1))))

theorem p__law_same : ∀ as Qd, wf__law_same as Qd → w__law_same (startD ["_law_one", "_law_other"] as) { nx := fun _ => Qd .non, rt := Qd } := fun as Qd h => by
  unfold wf__law_same at h
  split at h
  · obtain ⟨rfl, hs, q⟩ := h
    show w__law_same [.sh _, .sh _] _
    simp only [w__law_same, ↓wSeq_e, ↓wNext_e, ↓wBreak_e, ↓wCont_e, ↓wRet_e, ↓wRetN_e, ↓wDrop_e, ↓wIf_e, ↓wAnd_e, ↓wOr_e, ↓wNot_e, ↓wTst_e, ↓wAndV_e, ↓wOrV_e, ↓wNotV_e, ↓wIfE_e, ↓wChain_e, ↓wVar_e, ↓wPk_e, ↓wC_e, ↓wOp_e, ↓wUn_e, ↓wM1_e, ↓wTup_e, ↓wfLst_e, ↓wFz_e, ↓waNil_e, ↓waCons_e, ↓asNil_e, ↓asCons_e, ↓asBox_e, ↓wCall_e, ↓wAsg_e, ↓wSt_e, ↓wAsgO_e, ↓wTp_e, ↓wStL_nil, ↓wStL_cons, ↓wFor_e, ↓wRg1_e, ↓wRg2_e, ↓wItL_e, ↓wItT_e, ↓wItS_e, ↓wApp_e, ↓woNone_e, ↓woSome_e, ↓wCut_e, ↓wBx1_e, ↓wBx0_e, ↓wBxPut_e, ↓wDraw_e, ↓wTru_e, ↓wLc_e, ↓wYes_e, ↓wAug_e, dLt, dLe, dGt, dGe, dSub, dMul, dMod, dFdiv, dPow, dI2, dI2C, dAdd, dEq, dNe, dLen, dInt, dIx_l, dIx_t, dIx_s, dList, dSum, dCut, atI_zero, atI_one, Option.some.injEq, dTru, dMax2, dMin2, dIs, dNotIs, obD, id_eq, List.getElem?_cons_zero, List.getElem?_cons_succ, List.set_cons_zero, List.set_cons_succ, List.length_cons, List.length_nil, D.bl.injEq, exists_eq_left', decide_eq_true_eq, decide_eq_false_iff_not, Bool.not_eq_true', Bool.not_eq_false', Nat.zero_add, Nat.reduceAdd, true_and, and_true, forall_const, reduceCtorEq, not_true_eq_false, not_false_eq_true, false_implies, true_implies, implies_true, sz_line, Nat.reduceLeDiff, Int.reduceLE, Int.reduceLT, Int.reduceNeg, Int.reducePow, Int.reduceAdd, Int.reduceSub, Int.reduceMul, dRepr, dEqB]
    refine ⟨hs, hs, ?_⟩
    simpa using q
  · exact h.elim

/-! ### _law_some_deed -/def wf__law_some_deed : WFn
  | [.bx], Q => ∀ e : Deed, e.ok → Q e.dd
  | _, _ => False
theorem len__law_some_deed : ∀ as Qd, wf__law_some_deed as Qd → as.length = 1 := fun as Qd h => by
  unfold wf__law_some_deed at h
  split at h
  · rfl
  · exact h.elim

def w__law_some_deed : WS := (wSeq (wAsg (wCall wf__law_draw (asBox 0 (asCons (wC (.int 6)) asNil))) (wSt 1))
 (wSeq (wIf (wTst (wOp dEq (wPk 1) (wC (.int 0))))
 (wRet (wTup (waCons (wC (.str "undo")) waNil)))
 wNext)
 (wSeq (wIf (wTst (wOp dLt (wPk 1) (wC (.int 3))))
 (wRet (wTup (waCons (wC (.str "move")) (waCons (wOp dIx (wFz (wfLst (waCons (wCall wf__law_draw (asBox 0 (asCons (wC (.int 5)) asNil))) (waCons (wCall wf__law_draw (asBox 0 (asCons (wC (.int 256)) asNil))) (waCons (wC (.int 170)) (waCons (wC (.int 255)) waNil)))))) (wCall wf__law_draw (asBox 0 (asCons (wC (.int 4)) asNil)))) waNil))))
 wNext)
 (wRet (wTup (waCons (wC (.str "year")) (waCons (wM1 dJoin (wC (.str "")) (wFz (wLc [2] (wRg1 (waCons (wOp dAdd (wC (.int 1)) (wCall wf__law_draw (asBox 0 (asCons (wC (.int 8)) asNil)))) waNil)) (wSt 2) wYes (wOp dIx (wC (.str "abcdefghijklmnopqrstuvwxyz")) (wCall wf__law_draw (asBox 0 (asCons (wC (.int 26)) asNil))))))) waNil)))))))

theorem p__law_some_deed : ∀ as Qd, wf__law_some_deed as Qd → w__law_some_deed (startD ["_law_box_here", "_law_kind", "_law_k"] as) { nx := fun _ => Qd .non, rt := Qd } := fun as Qd h => by
  unfold wf__law_some_deed at h
  split at h
  · show w__law_some_deed [.bx, .no, .no] _
    simp only [w__law_some_deed, ↓wSeq_e, ↓wNext_e, ↓wBreak_e, ↓wCont_e, ↓wRet_e, ↓wRetN_e, ↓wDrop_e, ↓wIf_e, ↓wAnd_e, ↓wOr_e, ↓wNot_e, ↓wTst_e, ↓wAndV_e, ↓wOrV_e, ↓wNotV_e, ↓wIfE_e, ↓wChain_e, ↓wVar_e, ↓wPk_e, ↓wC_e, ↓wOp_e, ↓wUn_e, ↓wM1_e, ↓wTup_e, ↓wfLst_e, ↓wFz_e, ↓waNil_e, ↓waCons_e, ↓asNil_e, ↓asCons_e, ↓asBox_e, ↓wCall_e, ↓wAsg_e, ↓wSt_e, ↓wAsgO_e, ↓wTp_e, ↓wStL_nil, ↓wStL_cons, ↓wFor_e, ↓wRg1_e, ↓wRg2_e, ↓wItL_e, ↓wItT_e, ↓wItS_e, ↓wApp_e, ↓woNone_e, ↓woSome_e, ↓wCut_e, ↓wBx1_e, ↓wBx0_e, ↓wBxPut_e, ↓wDraw_e, ↓wTru_e, ↓wLc_e, ↓wYes_e, ↓wAug_e, dLt, dLe, dGt, dGe, dSub, dMul, dMod, dFdiv, dPow, dI2, dI2C, dAdd, dEq, dNe, dLen, dInt, dIx_l, dIx_t, dIx_s, dList, dSum, dCut, atI_zero, atI_one, Option.some.injEq, dTru, dMax2, dMin2, dIs, dNotIs, obD, id_eq, List.getElem?_cons_zero, List.getElem?_cons_succ, List.set_cons_zero, List.set_cons_succ, List.length_cons, List.length_nil, D.bl.injEq, exists_eq_left', decide_eq_true_eq, decide_eq_false_iff_not, Bool.not_eq_true', Bool.not_eq_false', Nat.zero_add, Nat.reduceAdd, true_and, and_true, forall_const, reduceCtorEq, not_true_eq_false, not_false_eq_true, false_implies, true_implies, implies_true, sz_line, Nat.reduceLeDiff, Int.reduceLE, Int.reduceLT, Int.reduceNeg, Int.reducePow, Int.reduceAdd, Int.reduceSub, Int.reduceMul, wf__law_draw, dEqB]
    intro r r0 r1
    refine ⟨fun _ => h .undo trivial, fun hr => ⟨fun hr3 => ?_, fun hr3 => ?_⟩⟩
    · intro a a0 a1 b b0 b1 i i0 i1
      obtain ⟨d, hd, e⟩ := atI_mem (l := [D.int a, .int b, .int 170, .int 255]) i0 i1
      refine ⟨d, e, ?_⟩
      have hh : ∃ n : Int, d = .int n ∧ 0 ≤ n ∧ n < 256 := by
        simp only [List.mem_cons, List.not_mem_nil, or_false] at hd
        rcases hd with rfl | rfl | rfl | rfl
        · exact ⟨_, rfl, a0, by omega⟩
        · exact ⟨_, rfl, b0, b1⟩
        · exact ⟨_, rfl, by decide⟩
        · exact ⟨_, rfl, by decide⟩
      obtain ⟨n, rfl, n0, n1⟩ := hh
      exact h (.move n) ⟨n0, n1⟩
    · refine ⟨⟨_, rfl⟩, fun k k0 k1 => ⟨by omega, by rw [rangeD_length]; omega, rfl, ?_⟩⟩
      refine wLcL_rule (ρ := [.bx, .sh (.int r), .no]) (fun d => True) (fun _ o => ∃ y, o = some y ∧ ∃ c : Nat, y = .str ⟨#[c]⟩ ∧ 97 ≤ c ∧ c ≤ 122) ?_ _ _ _ (fun _ _ => trivial) ?_
      · rintro d _ Kt Kf ht hf
        simp only [↓wSeq_e, ↓wNext_e, ↓wBreak_e, ↓wCont_e, ↓wRet_e, ↓wRetN_e, ↓wDrop_e, ↓wIf_e, ↓wAnd_e, ↓wOr_e, ↓wNot_e, ↓wTst_e, ↓wAndV_e, ↓wOrV_e, ↓wNotV_e, ↓wIfE_e, ↓wChain_e, ↓wVar_e, ↓wPk_e, ↓wC_e, ↓wOp_e, ↓wUn_e, ↓wM1_e, ↓wTup_e, ↓wfLst_e, ↓wFz_e, ↓waNil_e, ↓waCons_e, ↓asNil_e, ↓asCons_e, ↓asBox_e, ↓wCall_e, ↓wAsg_e, ↓wSt_e, ↓wAsgO_e, ↓wTp_e, ↓wStL_nil, ↓wStL_cons, ↓wFor_e, ↓wRg1_e, ↓wRg2_e, ↓wItL_e, ↓wItT_e, ↓wItS_e, ↓wApp_e, ↓woNone_e, ↓woSome_e, ↓wCut_e, ↓wBx1_e, ↓wBx0_e, ↓wBxPut_e, ↓wDraw_e, ↓wTru_e, ↓wLc_e, ↓wYes_e, ↓wAug_e, dLt, dLe, dGt, dGe, dSub, dMul, dMod, dFdiv, dPow, dI2, dI2C, dAdd, dEq, dNe, dLen, dInt, dIx_l, dIx_t, dIx_s, dList, dSum, dCut, atI_zero, atI_one, Option.some.injEq, dTru, dMax2, dMin2, dIs, dNotIs, obD, id_eq, List.getElem?_cons_zero, List.getElem?_cons_succ, List.set_cons_zero, List.set_cons_succ, List.length_cons, List.length_nil, D.bl.injEq, exists_eq_left', decide_eq_true_eq, decide_eq_false_iff_not, Bool.not_eq_true', Bool.not_eq_false', Nat.zero_add, Nat.reduceAdd, true_and, and_true, forall_const, reduceCtorEq, not_true_eq_false, not_false_eq_true, false_implies, true_implies, implies_true, sz_line, Nat.reduceLeDiff, Int.reduceLE, Int.reduceLT, Int.reduceNeg, Int.reducePow, Int.reduceAdd, Int.reduceSub, Int.reduceMul, wipeD, List.reverse_cons, List.reverse_nil, List.nil_append, noOwnB, List.all_cons, List.all_nil, Bool.and_true, Bool.true_and, wf__law_draw]
        intro z z0 z1
        exact dIx_az z0 z1 (ht _ ⟨_, rfl, _, rfl, by omega, by omega⟩)
      · intro ys hy
        obtain ⟨y1, y2⟩ := hy.all
        obtain ⟨cs, rfl, c2, c3⟩ := signs_of y2
        rw [List.nil_append]
        refine ⟨rfl, dJoin_one ?_ ?_⟩
        · rw [rangeD_length] at y1; omega
        · have hc : cs.length = (1 + k).toNat := by rw [c3, y1, rangeD_length]; simp
          exact h (.year cs) ⟨by omega, by omega, c2⟩
  · exact h.elim
/-! ### _law_record -/def wf__law_record : WFn
  | [.sh d], Q => ∃ e : Deed, e.ok ∧ d = e.dd ∧ Q (.lst ((recI e.body).map D.int))
  | _, _ => False
theorem len__law_record : ∀ as Qd, wf__law_record as Qd → as.length = 1 := fun as Qd h => by
  unfold wf__law_record at h
  split at h
  · rfl
  · exact h.elim

def w__law_record : WS := (wSeq (wIf (wTst (wOp dEq (wOp dIx (wPk 0) (wC (.int 0))) (wC (.str "undo"))))
 (wAsg (wFz (wfLst (waCons (wC (.int 3)) waNil))) (wSt 1))
 (wIf (wTst (wOp dEq (wOp dIx (wPk 0) (wC (.int 0))) (wC (.str "move"))))
 (wAsg (wFz (wfLst (waCons (wC (.int 2)) (waCons (wOp dIx (wPk 0) (wC (.int 1))) waNil)))) (wSt 1))
 (wAsg (wOp dAdd (wFz (wfLst (waCons (wC (.int 1)) waNil))) (wFz (wLc [2] (wItS (wOp dIx (wPk 0) (wC (.int 1)))) (wSt 2) wYes (wUn dOrd (wPk 2))))) (wSt 1))))
 (wRet (wOp dAdd (wOp dAdd (wFz (wfLst (waCons (wUn dLen (wPk 1)) waNil))) (wPk 1)) (wFz (wfLst (waCons (wOp dMod (wUn dSum (wPk 1)) (wC (.int 256))) (waCons (wC (.int 170)) waNil)))))))

theorem p__law_record : ∀ as Qd, wf__law_record as Qd → w__law_record (startD ["_law_deed", "_law_body", "_law_sign"] as) { nx := fun _ => Qd .non, rt := Qd } := fun as Qd h => by
  unfold wf__law_record at h
  split at h
  · obtain ⟨e, he, rfl, q⟩ := h
    show w__law_record [.sh _, .no, .no] _
    cases e with
    | undo => simp only [w__law_record, Deed.dd, ↓wSeq_e, ↓wNext_e, ↓wBreak_e, ↓wCont_e, ↓wRet_e, ↓wRetN_e, ↓wDrop_e, ↓wIf_e, ↓wAnd_e, ↓wOr_e, ↓wNot_e, ↓wTst_e, ↓wAndV_e, ↓wOrV_e, ↓wNotV_e, ↓wIfE_e, ↓wChain_e, ↓wVar_e, ↓wPk_e, ↓wC_e, ↓wOp_e, ↓wUn_e, ↓wM1_e, ↓wTup_e, ↓wfLst_e, ↓wFz_e, ↓waNil_e, ↓waCons_e, ↓asNil_e, ↓asCons_e, ↓asBox_e, ↓wCall_e, ↓wAsg_e, ↓wSt_e, ↓wAsgO_e, ↓wTp_e, ↓wStL_nil, ↓wStL_cons, ↓wFor_e, ↓wRg1_e, ↓wRg2_e, ↓wItL_e, ↓wItT_e, ↓wItS_e, ↓wApp_e, ↓woNone_e, ↓woSome_e, ↓wCut_e, ↓wBx1_e, ↓wBx0_e, ↓wBxPut_e, ↓wDraw_e, ↓wTru_e, ↓wLc_e, ↓wYes_e, ↓wAug_e, dLt, dLe, dGt, dGe, dSub, dMul, dMod, dFdiv, dPow, dI2, dI2C, dAdd, dEq, dNe, dLen, dInt, dIx_l, dIx_t, dIx_s, dList, dSum, dCut, atI_zero, atI_one, Option.some.injEq, dTru, dMax2, dMin2, dIs, dNotIs, obD, id_eq, List.getElem?_cons_zero, List.getElem?_cons_succ, List.set_cons_zero, List.set_cons_succ, List.length_cons, List.length_nil, D.bl.injEq, exists_eq_left', decide_eq_true_eq, decide_eq_false_iff_not, Bool.not_eq_true', Bool.not_eq_false', Nat.zero_add, Nat.reduceAdd, true_and, and_true, forall_const, reduceCtorEq, not_true_eq_false, not_false_eq_true, false_implies, true_implies, implies_true, sz_line, Nat.reduceLeDiff, Int.reduceLE, Int.reduceLT, Int.reduceNeg, Int.reducePow, Int.reduceAdd, Int.reduceSub, Int.reduceMul, dEqB]; exact ⟨[3], rfl, by decide, q⟩
    | move n =>
      simp only [w__law_record, Deed.dd, ↓wSeq_e, ↓wNext_e, ↓wBreak_e, ↓wCont_e, ↓wRet_e, ↓wRetN_e, ↓wDrop_e, ↓wIf_e, ↓wAnd_e, ↓wOr_e, ↓wNot_e, ↓wTst_e, ↓wAndV_e, ↓wOrV_e, ↓wNotV_e, ↓wIfE_e, ↓wChain_e, ↓wVar_e, ↓wPk_e, ↓wC_e, ↓wOp_e, ↓wUn_e, ↓wM1_e, ↓wTup_e, ↓wfLst_e, ↓wFz_e, ↓waNil_e, ↓waCons_e, ↓asNil_e, ↓asCons_e, ↓asBox_e, ↓wCall_e, ↓wAsg_e, ↓wSt_e, ↓wAsgO_e, ↓wTp_e, ↓wStL_nil, ↓wStL_cons, ↓wFor_e, ↓wRg1_e, ↓wRg2_e, ↓wItL_e, ↓wItT_e, ↓wItS_e, ↓wApp_e, ↓woNone_e, ↓woSome_e, ↓wCut_e, ↓wBx1_e, ↓wBx0_e, ↓wBxPut_e, ↓wDraw_e, ↓wTru_e, ↓wLc_e, ↓wYes_e, ↓wAug_e, dLt, dLe, dGt, dGe, dSub, dMul, dMod, dFdiv, dPow, dI2, dI2C, dAdd, dEq, dNe, dLen, dInt, dIx_l, dIx_t, dIx_s, dList, dSum, dCut, atI_zero, atI_one, Option.some.injEq, dTru, dMax2, dMin2, dIs, dNotIs, obD, id_eq, List.getElem?_cons_zero, List.getElem?_cons_succ, List.set_cons_zero, List.set_cons_succ, List.length_cons, List.length_nil, D.bl.injEq, exists_eq_left', decide_eq_true_eq, decide_eq_false_iff_not, Bool.not_eq_true', Bool.not_eq_false', Nat.zero_add, Nat.reduceAdd, true_and, and_true, forall_const, reduceCtorEq, not_true_eq_false, not_false_eq_true, false_implies, true_implies, implies_true, sz_line, Nat.reduceLeDiff, Int.reduceLE, Int.reduceLT, Int.reduceNeg, Int.reducePow, Int.reduceAdd, Int.reduceSub, Int.reduceMul, dEqB, str_m_u]
      refine ⟨[2, n], rfl, (by decide : 3 ≤ 16777214), ?_⟩
      exact q
    | year cs =>
      obtain ⟨h1, h2, h3⟩ := he
      simp only [w__law_record, Deed.dd, ↓wSeq_e, ↓wNext_e, ↓wBreak_e, ↓wCont_e, ↓wRet_e, ↓wRetN_e, ↓wDrop_e, ↓wIf_e, ↓wAnd_e, ↓wOr_e, ↓wNot_e, ↓wTst_e, ↓wAndV_e, ↓wOrV_e, ↓wNotV_e, ↓wIfE_e, ↓wChain_e, ↓wVar_e, ↓wPk_e, ↓wC_e, ↓wOp_e, ↓wUn_e, ↓wM1_e, ↓wTup_e, ↓wfLst_e, ↓wFz_e, ↓waNil_e, ↓waCons_e, ↓asNil_e, ↓asCons_e, ↓asBox_e, ↓wCall_e, ↓wAsg_e, ↓wSt_e, ↓wAsgO_e, ↓wTp_e, ↓wStL_nil, ↓wStL_cons, ↓wFor_e, ↓wRg1_e, ↓wRg2_e, ↓wItL_e, ↓wItT_e, ↓wItS_e, ↓wApp_e, ↓woNone_e, ↓woSome_e, ↓wCut_e, ↓wBx1_e, ↓wBx0_e, ↓wBxPut_e, ↓wDraw_e, ↓wTru_e, ↓wLc_e, ↓wYes_e, ↓wAug_e, dLt, dLe, dGt, dGe, dSub, dMul, dMod, dFdiv, dPow, dI2, dI2C, dAdd, dEq, dNe, dLen, dInt, dIx_l, dIx_t, dIx_s, dList, dSum, dCut, atI_zero, atI_one, Option.some.injEq, dTru, dMax2, dMin2, dIs, dNotIs, obD, id_eq, List.getElem?_cons_zero, List.getElem?_cons_succ, List.set_cons_zero, List.set_cons_succ, List.length_cons, List.length_nil, D.bl.injEq, exists_eq_left', decide_eq_true_eq, decide_eq_false_iff_not, Bool.not_eq_true', Bool.not_eq_false', Nat.zero_add, Nat.reduceAdd, true_and, and_true, forall_const, reduceCtorEq, not_true_eq_false, not_false_eq_true, false_implies, true_implies, implies_true, sz_line, Nat.reduceLeDiff, Int.reduceLE, Int.reduceLT, Int.reduceNeg, Int.reducePow, Int.reduceAdd, Int.reduceSub, Int.reduceMul, dEqB, str_y_u, str_y_m]
      refine ⟨by rw [signs_mk, List.length_map]; omega, rfl, ?_⟩
      refine year_lc (ρ := [_, .no, .no]) h3 (fun c c1 c2 Kt ht => ?_) ?_
      · simp only [↓wSeq_e, ↓wNext_e, ↓wBreak_e, ↓wCont_e, ↓wRet_e, ↓wRetN_e, ↓wDrop_e, ↓wIf_e, ↓wAnd_e, ↓wOr_e, ↓wNot_e, ↓wTst_e, ↓wAndV_e, ↓wOrV_e, ↓wNotV_e, ↓wIfE_e, ↓wChain_e, ↓wVar_e, ↓wPk_e, ↓wC_e, ↓wOp_e, ↓wUn_e, ↓wM1_e, ↓wTup_e, ↓wfLst_e, ↓wFz_e, ↓waNil_e, ↓waCons_e, ↓asNil_e, ↓asCons_e, ↓asBox_e, ↓wCall_e, ↓wAsg_e, ↓wSt_e, ↓wAsgO_e, ↓wTp_e, ↓wStL_nil, ↓wStL_cons, ↓wFor_e, ↓wRg1_e, ↓wRg2_e, ↓wItL_e, ↓wItT_e, ↓wItS_e, ↓wApp_e, ↓woNone_e, ↓woSome_e, ↓wCut_e, ↓wBx1_e, ↓wBx0_e, ↓wBxPut_e, ↓wDraw_e, ↓wTru_e, ↓wLc_e, ↓wYes_e, ↓wAug_e, dLt, dLe, dGt, dGe, dSub, dMul, dMod, dFdiv, dPow, dI2, dI2C, dAdd, dEq, dNe, dLen, dInt, dIx_l, dIx_t, dIx_s, dList, dSum, dCut, atI_zero, atI_one, Option.some.injEq, dTru, dMax2, dMin2, dIs, dNotIs, obD, id_eq, List.getElem?_cons_zero, List.getElem?_cons_succ, List.set_cons_zero, List.set_cons_succ, List.length_cons, List.length_nil, D.bl.injEq, exists_eq_left', decide_eq_true_eq, decide_eq_false_iff_not, Bool.not_eq_true', Bool.not_eq_false', Nat.zero_add, Nat.reduceAdd, true_and, and_true, forall_const, reduceCtorEq, not_true_eq_false, not_false_eq_true, false_implies, true_implies, implies_true, sz_line, Nat.reduceLeDiff, Int.reduceLE, Int.reduceLT, Int.reduceNeg, Int.reducePow, Int.reduceAdd, Int.reduceSub, Int.reduceMul, wipeD, List.reverse_cons, List.reverse_nil, List.nil_append, noOwnB, List.all_cons, List.all_nil, Bool.and_true, Bool.true_and, dOrd]
        exact ⟨rfl, ht⟩
      · simp only [↓wSeq_e, ↓wNext_e, ↓wBreak_e, ↓wCont_e, ↓wRet_e, ↓wRetN_e, ↓wDrop_e, ↓wIf_e, ↓wAnd_e, ↓wOr_e, ↓wNot_e, ↓wTst_e, ↓wAndV_e, ↓wOrV_e, ↓wNotV_e, ↓wIfE_e, ↓wChain_e, ↓wVar_e, ↓wPk_e, ↓wC_e, ↓wOp_e, ↓wUn_e, ↓wM1_e, ↓wTup_e, ↓wfLst_e, ↓wFz_e, ↓waNil_e, ↓waCons_e, ↓asNil_e, ↓asCons_e, ↓asBox_e, ↓wCall_e, ↓wAsg_e, ↓wSt_e, ↓wAsgO_e, ↓wTp_e, ↓wStL_nil, ↓wStL_cons, ↓wFor_e, ↓wRg1_e, ↓wRg2_e, ↓wItL_e, ↓wItT_e, ↓wItS_e, ↓wApp_e, ↓woNone_e, ↓woSome_e, ↓wCut_e, ↓wBx1_e, ↓wBx0_e, ↓wBxPut_e, ↓wDraw_e, ↓wTru_e, ↓wLc_e, ↓wYes_e, ↓wAug_e, dLt, dLe, dGt, dGe, dSub, dMul, dMod, dFdiv, dPow, dI2, dI2C, dAdd, dEq, dNe, dLen, dInt, dIx_l, dIx_t, dIx_s, dList, dSum, dCut, atI_zero, atI_one, Option.some.injEq, dTru, dMax2, dMin2, dIs, dNotIs, obD, id_eq, List.getElem?_cons_zero, List.getElem?_cons_succ, List.set_cons_zero, List.set_cons_succ, List.length_cons, List.length_nil, D.bl.injEq, exists_eq_left', decide_eq_true_eq, decide_eq_false_iff_not, Bool.not_eq_true', Bool.not_eq_false', Nat.zero_add, Nat.reduceAdd, true_and, and_true, forall_const, reduceCtorEq, not_true_eq_false, not_false_eq_true, false_implies, true_implies, implies_true, sz_line, Nat.reduceLeDiff, Int.reduceLE, Int.reduceLT, Int.reduceNeg, Int.reducePow, Int.reduceAdd, Int.reduceSub, Int.reduceMul, wipeD, List.reverse_cons, List.reverse_nil, List.nil_append, noOwnB, List.all_cons, List.all_nil, Bool.and_true, Bool.true_and, List.length_map]
        refine ⟨by omega, by simp only [List.length_append, List.length_map, List.length_cons, List.length_nil]; omega, 1 :: cs.map (fun c : Nat => (c : Int)), rfl, by simp only [List.length_append, List.length_map, List.length_cons, List.length_nil]; omega, ?_⟩
        have e := recI_map (b := Deed.body (.year cs))
        rw [← e] at q
        simp only [Deed.body, List.length_cons, List.length_map] at q
        simpa using q
  · exact h.elim
/-! ### _law_body_told -/def wf__law_body_told : WFn
  | [.sh (.lst ds)], Q => ∃ ns : List Int, ds = ns.map D.int ∧ ns.length ≤ 10000 ∧ Q (toldD ns)
  | _, _ => False
theorem len__law_body_told : ∀ as Qd, wf__law_body_told as Qd → as.length = 1 := fun as Qd h => by
  unfold wf__law_body_told at h
  split at h
  · rfl
  · exact h.elim

def w__law_body_told : WS := (wSeq (wIf (wTst (wOp dEq (wPk 0) (wFz (wfLst (waCons (wC (.int 3)) waNil)))))
 (wRet (wTup (waCons (wC (.str "undo")) waNil)))
 wNext)
 (wSeq (wIf (wAnd (wTst (wOp dEq (wUn dLen (wPk 0)) (wC (.int 2)))) (wTst (wOp dEq (wOp dIx (wPk 0) (wC (.int 0))) (wC (.int 2)))))
 (wRet (wTup (waCons (wC (.str "move")) (waCons (wOp dIx (wPk 0) (wC (.int 1))) waNil))))
 wNext)
 (wSeq (wIf (wAnd (wTst (wChain dLe dLe (wC (.int 2)) (wUn dLen (wPk 0)) (wC (.int 9)))) (wAnd (wTst (wOp dEq (wOp dIx (wPk 0) (wC (.int 0))) (wC (.int 1)))) (wTst (wOp dEq (wUn dLen (wFz (wLc [1] (wItL (wCut (wPk 0) (woSome (wC (.int 1))) woNone)) (wSt 1) (wTst (wChain dLe dLe (wC (.int 97)) (wPk 1) (wC (.int 122)))) (wVar 1)))) (wOp dSub (wUn dLen (wPk 0)) (wC (.int 1)))))))
 (wRet (wTup (waCons (wC (.str "year")) (waCons (wM1 dJoin (wC (.str "")) (wFz (wLc [1] (wItL (wCut (wPk 0) (woSome (wC (.int 1))) woNone)) (wSt 1) wYes (wOp dIx (wC (.str "abcdefghijklmnopqrstuvwxyz")) (wOp dSub (wPk 1) (wC (.int 97))))))) waNil))))
 wNext)
 (wRet (wC .non)))))

theorem p__law_body_told : ∀ as Qd, wf__law_body_told as Qd → w__law_body_told (startD ["_law_body", "_law_octet"] as) { nx := fun _ => Qd .non, rt := Qd } := fun as Qd h => by
  unfold wf__law_body_told at h
  split at h
  · obtain ⟨ns, rfl, hl, q⟩ := h
    show w__law_body_told [.sh (.lst (ns.map D.int)), .no] _
    cases ns with
    | nil =>
      simp only [w__law_body_told, ↓wSeq_e, ↓wNext_e, ↓wBreak_e, ↓wCont_e, ↓wRet_e, ↓wRetN_e, ↓wDrop_e, ↓wIf_e, ↓wAnd_e, ↓wOr_e, ↓wNot_e, ↓wTst_e, ↓wAndV_e, ↓wOrV_e, ↓wNotV_e, ↓wIfE_e, ↓wChain_e, ↓wVar_e, ↓wPk_e, ↓wC_e, ↓wOp_e, ↓wUn_e, ↓wM1_e, ↓wTup_e, ↓wfLst_e, ↓wFz_e, ↓waNil_e, ↓waCons_e, ↓asNil_e, ↓asCons_e, ↓asBox_e, ↓wCall_e, ↓wAsg_e, ↓wSt_e, ↓wAsgO_e, ↓wTp_e, ↓wStL_nil, ↓wStL_cons, ↓wFor_e, ↓wRg1_e, ↓wRg2_e, ↓wItL_e, ↓wItT_e, ↓wItS_e, ↓wApp_e, ↓woNone_e, ↓woSome_e, ↓wCut_e, ↓wBx1_e, ↓wBx0_e, ↓wBxPut_e, ↓wDraw_e, ↓wTru_e, ↓wLc_e, ↓wYes_e, ↓wAug_e, dLt, dLe, dGt, dGe, dSub, dMul, dMod, dFdiv, dPow, dI2, dI2C, dAdd, dEq, dNe, dLen, dInt, dIx_l, dIx_t, dIx_s, dList, dSum, dCut, atI_zero, atI_one, Option.some.injEq, dTru, dMax2, dMin2, dIs, dNotIs, obD, id_eq, List.getElem?_cons_zero, List.getElem?_cons_succ, List.set_cons_zero, List.set_cons_succ, List.length_cons, List.length_nil, D.bl.injEq, exists_eq_left', decide_eq_true_eq, decide_eq_false_iff_not, Bool.not_eq_true', Bool.not_eq_false', Nat.zero_add, Nat.reduceAdd, true_and, and_true, forall_const, reduceCtorEq, not_true_eq_false, not_false_eq_true, false_implies, true_implies, implies_true, sz_line, Nat.reduceLeDiff, Int.reduceLE, Int.reduceLT, Int.reduceNeg, Int.reducePow, Int.reduceAdd, Int.reduceSub, Int.reduceMul, dEqB, eqD, eqDL_lit1, shD_ints, shD_lit1, drop1_map, take1_map, List.length_map]
      exact ⟨fun z => by simp at z, fun _ => ⟨fun z => by simp at z, fun _ => q⟩⟩
    | cons a r =>
      have hr : r.length ≤ 10000 := by simp at hl; omega
      have hd : cutD (D.int a :: r.map D.int) (some 1) none = r.map D.int := drop1_map (a :: r)
      simp only [w__law_body_told, ↓wSeq_e, ↓wNext_e, ↓wBreak_e, ↓wCont_e, ↓wRet_e, ↓wRetN_e, ↓wDrop_e, ↓wIf_e, ↓wAnd_e, ↓wOr_e, ↓wNot_e, ↓wTst_e, ↓wAndV_e, ↓wOrV_e, ↓wNotV_e, ↓wIfE_e, ↓wChain_e, ↓wVar_e, ↓wPk_e, ↓wC_e, ↓wOp_e, ↓wUn_e, ↓wM1_e, ↓wTup_e, ↓wfLst_e, ↓wFz_e, ↓waNil_e, ↓waCons_e, ↓asNil_e, ↓asCons_e, ↓asBox_e, ↓wCall_e, ↓wAsg_e, ↓wSt_e, ↓wAsgO_e, ↓wTp_e, ↓wStL_nil, ↓wStL_cons, ↓wFor_e, ↓wRg1_e, ↓wRg2_e, ↓wItL_e, ↓wItT_e, ↓wItS_e, ↓wApp_e, ↓woNone_e, ↓woSome_e, ↓wCut_e, ↓wBx1_e, ↓wBx0_e, ↓wBxPut_e, ↓wDraw_e, ↓wTru_e, ↓wLc_e, ↓wYes_e, ↓wAug_e, dLt, dLe, dGt, dGe, dSub, dMul, dMod, dFdiv, dPow, dI2, dI2C, dAdd, dEq, dNe, dLen, dInt, dIx_l, dIx_t, dIx_s, dList, dSum, dCut, atI_zero, atI_one, Option.some.injEq, dTru, dMax2, dMin2, dIs, dNotIs, obD, id_eq, List.getElem?_cons_zero, List.getElem?_cons_succ, List.set_cons_zero, List.set_cons_succ, List.length_cons, List.length_nil, D.bl.injEq, exists_eq_left', decide_eq_true_eq, decide_eq_false_iff_not, Bool.not_eq_true', Bool.not_eq_false', Nat.zero_add, Nat.reduceAdd, true_and, and_true, forall_const, reduceCtorEq, not_true_eq_false, not_false_eq_true, false_implies, true_implies, implies_true, sz_line, Nat.reduceLeDiff, Int.reduceLE, Int.reduceLT, Int.reduceNeg, Int.reducePow, Int.reduceAdd, Int.reduceSub, Int.reduceMul, dEqB, eqD, eqDL_lit1, shD_ints, shD_lit1, drop1_map, List.length_map]
      simp only [List.map_cons, ↓wSeq_e, ↓wNext_e, ↓wBreak_e, ↓wCont_e, ↓wRet_e, ↓wRetN_e, ↓wDrop_e, ↓wIf_e, ↓wAnd_e, ↓wOr_e, ↓wNot_e, ↓wTst_e, ↓wAndV_e, ↓wOrV_e, ↓wNotV_e, ↓wIfE_e, ↓wChain_e, ↓wVar_e, ↓wPk_e, ↓wC_e, ↓wOp_e, ↓wUn_e, ↓wM1_e, ↓wTup_e, ↓wfLst_e, ↓wFz_e, ↓waNil_e, ↓waCons_e, ↓asNil_e, ↓asCons_e, ↓asBox_e, ↓wCall_e, ↓wAsg_e, ↓wSt_e, ↓wAsgO_e, ↓wTp_e, ↓wStL_nil, ↓wStL_cons, ↓wFor_e, ↓wRg1_e, ↓wRg2_e, ↓wItL_e, ↓wItT_e, ↓wItS_e, ↓wApp_e, ↓woNone_e, ↓woSome_e, ↓wCut_e, ↓wBx1_e, ↓wBx0_e, ↓wBxPut_e, ↓wDraw_e, ↓wTru_e, ↓wLc_e, ↓wYes_e, ↓wAug_e, dLt, dLe, dGt, dGe, dSub, dMul, dMod, dFdiv, dPow, dI2, dI2C, dAdd, dEq, dNe, dLen, dInt, dIx_l, dIx_t, dIx_s, dList, dSum, dCut, atI_zero, atI_one, Option.some.injEq, dTru, dMax2, dMin2, dIs, dNotIs, obD, id_eq, List.getElem?_cons_zero, List.getElem?_cons_succ, List.set_cons_zero, List.set_cons_succ, List.length_cons, List.length_nil, D.bl.injEq, exists_eq_left', decide_eq_true_eq, decide_eq_false_iff_not, Bool.not_eq_true', Bool.not_eq_false', Nat.zero_add, Nat.reduceAdd, true_and, and_true, forall_const, reduceCtorEq, not_true_eq_false, not_false_eq_true, false_implies, true_implies, implies_true, sz_line, Nat.reduceLeDiff, Int.reduceLE, Int.reduceLT, Int.reduceNeg, Int.reducePow, Int.reduceAdd, Int.reduceSub, Int.reduceMul, dEqB, List.drop_succ_cons, List.drop_zero, List.cons.injEq]
      refine ⟨fun h1 => ?_, fun h1 => ⟨fun h2 => ⟨fun h3 => ?_, fun h3 => ?_⟩, fun h2 => ?_⟩⟩
      · obtain ⟨rfl, rfl⟩ := h1; exact q
      · obtain ⟨b, rfl⟩ : ∃ b, r = [b] := List.length_eq_one_iff.mp (by omega)
        subst h3; exact ⟨_, atI_one, q⟩
      all_goals
        have h23 : ¬ (r.length = 1 ∧ a = 2) := by intro z; first | exact h3 z.2 | exact h2 (by omega)
        refine ⟨fun h4 => ⟨fun h5 => ⟨fun h6 => ⟨by omega, rfl, ?_⟩, fun h6 => ?_⟩, fun h5 => ?_⟩, fun h4 => ?_⟩
        · refine filt_lc (ρ := [_, .no]) (fun n => decide (97 ≤ n) && decide (n ≤ 122)) (fun n Kt Kf ht hf => ?_) ?_
          · simp only [↓wSeq_e, ↓wNext_e, ↓wBreak_e, ↓wCont_e, ↓wRet_e, ↓wRetN_e, ↓wDrop_e, ↓wIf_e, ↓wAnd_e, ↓wOr_e, ↓wNot_e, ↓wTst_e, ↓wAndV_e, ↓wOrV_e, ↓wNotV_e, ↓wIfE_e, ↓wChain_e, ↓wVar_e, ↓wPk_e, ↓wC_e, ↓wOp_e, ↓wUn_e, ↓wM1_e, ↓wTup_e, ↓wfLst_e, ↓wFz_e, ↓waNil_e, ↓waCons_e, ↓asNil_e, ↓asCons_e, ↓asBox_e, ↓wCall_e, ↓wAsg_e, ↓wSt_e, ↓wAsgO_e, ↓wTp_e, ↓wStL_nil, ↓wStL_cons, ↓wFor_e, ↓wRg1_e, ↓wRg2_e, ↓wItL_e, ↓wItT_e, ↓wItS_e, ↓wApp_e, ↓woNone_e, ↓woSome_e, ↓wCut_e, ↓wBx1_e, ↓wBx0_e, ↓wBxPut_e, ↓wDraw_e, ↓wTru_e, ↓wLc_e, ↓wYes_e, ↓wAug_e, dLt, dLe, dGt, dGe, dSub, dMul, dMod, dFdiv, dPow, dI2, dI2C, dAdd, dEq, dNe, dLen, dInt, dIx_l, dIx_t, dIx_s, dList, dSum, dCut, atI_zero, atI_one, Option.some.injEq, dTru, dMax2, dMin2, dIs, dNotIs, obD, id_eq, List.getElem?_cons_zero, List.getElem?_cons_succ, List.set_cons_zero, List.set_cons_succ, List.length_cons, List.length_nil, D.bl.injEq, exists_eq_left', decide_eq_true_eq, decide_eq_false_iff_not, Bool.not_eq_true', Bool.not_eq_false', Nat.zero_add, Nat.reduceAdd, true_and, and_true, forall_const, reduceCtorEq, not_true_eq_false, not_false_eq_true, false_implies, true_implies, implies_true, sz_line, Nat.reduceLeDiff, Int.reduceLE, Int.reduceLT, Int.reduceNeg, Int.reducePow, Int.reduceAdd, Int.reduceSub, Int.reduceMul, wipeD, List.reverse_cons, List.reverse_nil, List.nil_append, noOwnB, List.all_cons, List.all_nil, Bool.and_true, Bool.true_and]
            exact ⟨fun h3 => ⟨fun h4 => ht (by simp [h3, h4]), fun h4 => hf (by simp [h4])⟩, fun h3 => hf (by simp [h3])⟩
          · simp only [↓wSeq_e, ↓wNext_e, ↓wBreak_e, ↓wCont_e, ↓wRet_e, ↓wRetN_e, ↓wDrop_e, ↓wIf_e, ↓wAnd_e, ↓wOr_e, ↓wNot_e, ↓wTst_e, ↓wAndV_e, ↓wOrV_e, ↓wNotV_e, ↓wIfE_e, ↓wChain_e, ↓wVar_e, ↓wPk_e, ↓wC_e, ↓wOp_e, ↓wUn_e, ↓wM1_e, ↓wTup_e, ↓wfLst_e, ↓wFz_e, ↓waNil_e, ↓waCons_e, ↓asNil_e, ↓asCons_e, ↓asBox_e, ↓wCall_e, ↓wAsg_e, ↓wSt_e, ↓wAsgO_e, ↓wTp_e, ↓wStL_nil, ↓wStL_cons, ↓wFor_e, ↓wRg1_e, ↓wRg2_e, ↓wItL_e, ↓wItT_e, ↓wItS_e, ↓wApp_e, ↓woNone_e, ↓woSome_e, ↓wCut_e, ↓wBx1_e, ↓wBx0_e, ↓wBxPut_e, ↓wDraw_e, ↓wTru_e, ↓wLc_e, ↓wYes_e, ↓wAug_e, dLt, dLe, dGt, dGe, dSub, dMul, dMod, dFdiv, dPow, dI2, dI2C, dAdd, dEq, dNe, dLen, dInt, dIx_l, dIx_t, dIx_s, dList, dSum, dCut, atI_zero, atI_one, Option.some.injEq, dTru, dMax2, dMin2, dIs, dNotIs, obD, id_eq, List.getElem?_cons_zero, List.getElem?_cons_succ, List.set_cons_zero, List.set_cons_succ, List.length_cons, List.length_nil, D.bl.injEq, exists_eq_left', decide_eq_true_eq, decide_eq_false_iff_not, Bool.not_eq_true', Bool.not_eq_false', Nat.zero_add, Nat.reduceAdd, true_and, and_true, forall_const, reduceCtorEq, not_true_eq_false, not_false_eq_true, false_implies, true_implies, implies_true, sz_line, Nat.reduceLeDiff, Int.reduceLE, Int.reduceLT, Int.reduceNeg, Int.reducePow, Int.reduceAdd, Int.reduceSub, Int.reduceMul, wipeD, List.reverse_cons, List.reverse_nil, List.nil_append, noOwnB, List.all_cons, List.all_nil, Bool.and_true, Bool.true_and, dEqB, List.length_map, hd]
            subst h6
            refine ⟨fun h7 => ⟨⟨_, rfl⟩, by omega, ?_⟩, fun h7 => ?_⟩
            · have hall : ∀ n ∈ r, 97 ≤ n ∧ n ≤ 122 := by
                have h8 := List.length_filter_eq_length_iff.mp (show (r.filter (fun n => decide (97 ≤ n) && decide (n ≤ 122))).length = r.length by omega)
                intro n hn
                have := h8 n hn
                simpa using this
              refine az_lc (ρ := [_, .no]) hall (fun n n1 n2 Kt ht => ?_) ?_
              · simp only [↓wSeq_e, ↓wNext_e, ↓wBreak_e, ↓wCont_e, ↓wRet_e, ↓wRetN_e, ↓wDrop_e, ↓wIf_e, ↓wAnd_e, ↓wOr_e, ↓wNot_e, ↓wTst_e, ↓wAndV_e, ↓wOrV_e, ↓wNotV_e, ↓wIfE_e, ↓wChain_e, ↓wVar_e, ↓wPk_e, ↓wC_e, ↓wOp_e, ↓wUn_e, ↓wM1_e, ↓wTup_e, ↓wfLst_e, ↓wFz_e, ↓waNil_e, ↓waCons_e, ↓asNil_e, ↓asCons_e, ↓asBox_e, ↓wCall_e, ↓wAsg_e, ↓wSt_e, ↓wAsgO_e, ↓wTp_e, ↓wStL_nil, ↓wStL_cons, ↓wFor_e, ↓wRg1_e, ↓wRg2_e, ↓wItL_e, ↓wItT_e, ↓wItS_e, ↓wApp_e, ↓woNone_e, ↓woSome_e, ↓wCut_e, ↓wBx1_e, ↓wBx0_e, ↓wBxPut_e, ↓wDraw_e, ↓wTru_e, ↓wLc_e, ↓wYes_e, ↓wAug_e, dLt, dLe, dGt, dGe, dSub, dMul, dMod, dFdiv, dPow, dI2, dI2C, dAdd, dEq, dNe, dLen, dInt, dIx_l, dIx_t, dIx_s, dList, dSum, dCut, atI_zero, atI_one, Option.some.injEq, dTru, dMax2, dMin2, dIs, dNotIs, obD, id_eq, List.getElem?_cons_zero, List.getElem?_cons_succ, List.set_cons_zero, List.set_cons_succ, List.length_cons, List.length_nil, D.bl.injEq, exists_eq_left', decide_eq_true_eq, decide_eq_false_iff_not, Bool.not_eq_true', Bool.not_eq_false', Nat.zero_add, Nat.reduceAdd, true_and, and_true, forall_const, reduceCtorEq, not_true_eq_false, not_false_eq_true, false_implies, true_implies, implies_true, sz_line, Nat.reduceLeDiff, Int.reduceLE, Int.reduceLT, Int.reduceNeg, Int.reducePow, Int.reduceAdd, Int.reduceSub, Int.reduceMul, wipeD, List.reverse_cons, List.reverse_nil, List.nil_append, noOwnB, List.all_cons, List.all_nil, Bool.and_true, Bool.true_and]
                refine dIx_az (by omega) (by omega) ?_
                have e : 97 + (n - 97).toNat = n.toNat := by omega
                rw [e]
                exact ht
              · rw [toldD_year ⟨by omega, by omega, hall⟩] at q
                exact ⟨rfl, dJoin_one (by rw [List.length_map]; omega) q⟩
            · rw [toldD_none h1 h23 (fun z => h7 ?_)] at q
              · exact q
              · have h8 := List.length_filter_eq_length_iff.mpr (show ∀ n ∈ r, (decide (97 ≤ n) && decide (n ≤ 122)) = true from fun n hn => by have := z.2.2.2 n hn; simp; omega)
                omega
        · rw [toldD_none h1 h23 (fun z => h6 z.1)] at q; exact q
        · rw [toldD_none h1 h23 (fun z => h5 (by have := z.2.2.1; omega))] at q; exact q
        · rw [toldD_none h1 h23 (fun z => h4 (by have := z.2.1; omega))] at q; exact q
  · exact h.elim
/-! ### _law_read -/def wf__law_read : WFn
  | [.sh (.lst ds)], Q => ∃ (ns : List Int) (P : Nat) (DS : List Deed), ds = ns.map D.int ∧ Oct ns ∧ ns.length ≤ 10000 ∧ Runs ns 0 [] P DS ∧ Q (readD P DS)
  | _, _ => False
theorem len__law_read : ∀ as Qd, wf__law_read as Qd → as.length = 1 := fun as Qd h => by
  unfold wf__law_read at h
  split at h
  · rfl
  · exact h.elim
theorem getD_drop {ns : List Int} {k i : Nat} : (ns.drop k).getD i 0 = ns.getD (k + i) 0 := by
  rw [List.getD_eq_getElem?_getD, List.getElem?_drop, List.getD_eq_getElem?_getD]

def w__law_read_t1 : WS := (wAsg (wOp dAdd (wOp dAdd (wPk 2) (wPk 4)) (wC (.int 3))) (wSt 2))
def w__law_read_t2 : WS := (wSeq (wApp 1 (wVar 5))
 w__law_read_t1)
def w__law_read_t3 : WS := (wSeq (wIf (wTst (wOp dIs (wPk 5) (wC .non)))
 (wRet (wTup (waCons (wVar 1) (waCons (wVar 2) waNil))))
 wNext)
 w__law_read_t2)
def w__law_read_t4 : WS := (wSeq (wAsg (wCall wf__law_body_told (asCons (wCut (wPk 3) woNone (woSome (wVar 4))) asNil)) (wSt 5))
 w__law_read_t3)
def w__law_read_t5 : WS := (wSeq (wIf (wOr (wTst (wOp dLt (wUn dLen (wPk 3)) (wOp dAdd (wPk 4) (wC (.int 2))))) (wOr (wTst (wOp dNe (wOp dIx (wPk 3) (wOp dAdd (wPk 4) (wC (.int 1)))) (wC (.int 170)))) (wTst (wOp dNe (wOp dIx (wPk 3) (wPk 4)) (wOp dMod (wUn dSum (wCut (wPk 3) woNone (woSome (wVar 4)))) (wC (.int 256)))))))
 (wRet (wTup (waCons (wVar 1) (waCons (wVar 2) waNil))))
 wNext)
 w__law_read_t4)
def w__law_read_t6 : WS := (wSeq (wAsg (wOp dIx (wPk 0) (wPk 2)) (wSt 4))
 w__law_read_t5)
def w__law_read_t7 : WS := (wRet (wTup (waCons (wVar 1) (waCons (wVar 2) waNil))))
def w__law_read_t8 : WS := (wSeq (wWhile (wTst (wOp dLt (wPk 2) (wUn dLen (wPk 0))))
 (wSeq (wAsg (wCut (wPk 0) (woSome (wOp dAdd (wPk 2) (wC (.int 1)))) woNone) (wSt 3))
 w__law_read_t6))
 w__law_read_t7)
def w__law_read_t9 : WS := (wSeq (wAsg (wC (.int 0)) (wSt 2))
 w__law_read_t8)
def w__law_read : WS := (wSeq (wAsgO (wfLst waNil) 1)
 w__law_read_t9)

theorem p__law_read : ∀ as Qd, wf__law_read as Qd → w__law_read (startD ["_law_octets", "_law_deeds", "_law_place", "_law_rest", "_law_many", "_law_deed"] as) { nx := fun _ => Qd .non, rt := Qd } := fun as Qd h => by
  unfold wf__law_read at h
  split at h
  · obtain ⟨ns, P, DS, rfl, ho, hl, hr, q⟩ := h
    show w__law_read [.sh (.lst (ns.map D.int)), .no, .no, .no, .no, .no] _
    simp only [w__law_read, w__law_read_t9, w__law_read_t8, ↓wSeq_e, ↓wNext_e, ↓wBreak_e, ↓wCont_e, ↓wRet_e, ↓wRetN_e, ↓wDrop_e, ↓wIf_e, ↓wAnd_e, ↓wOr_e, ↓wNot_e, ↓wTst_e, ↓wAndV_e, ↓wOrV_e, ↓wNotV_e, ↓wIfE_e, ↓wChain_e, ↓wVar_e, ↓wPk_e, ↓wC_e, ↓wOp_e, ↓wUn_e, ↓wM1_e, ↓wTup_e, ↓wfLst_e, ↓wFz_e, ↓waNil_e, ↓waCons_e, ↓asNil_e, ↓asCons_e, ↓asBox_e, ↓wCall_e, ↓wAsg_e, ↓wSt_e, ↓wAsgO_e, ↓wTp_e, ↓wStL_nil, ↓wStL_cons, ↓wFor_e, ↓wRg1_e, ↓wRg2_e, ↓wItL_e, ↓wItT_e, ↓wItS_e, ↓wApp_e, ↓woNone_e, ↓woSome_e, ↓wCut_e, ↓wBx1_e, ↓wBx0_e, ↓wBxPut_e, ↓wDraw_e, ↓wTru_e, ↓wLc_e, ↓wYes_e, ↓wAug_e, dLt, dLe, dGt, dGe, dSub, dMul, dMod, dFdiv, dPow, dI2, dI2C, dAdd, dEq, dNe, dLen, dInt, dIx_l, dIx_t, dIx_s, dList, dSum, dCut, atI_zero, atI_one, Option.some.injEq, dTru, dMax2, dMin2, dIs, dNotIs, obD, id_eq, List.getElem?_cons_zero, List.getElem?_cons_succ, List.set_cons_zero, List.set_cons_succ, List.length_cons, List.length_nil, D.bl.injEq, exists_eq_left', decide_eq_true_eq, decide_eq_false_iff_not, Bool.not_eq_true', Bool.not_eq_false', Nat.zero_add, Nat.reduceAdd, true_and, and_true, forall_const, reduceCtorEq, not_true_eq_false, not_false_eq_true, false_implies, true_implies, implies_true, sz_line, Nat.reduceLeDiff, Int.reduceLE, Int.reduceLT, Int.reduceNeg, Int.reducePow, Int.reduceAdd, Int.reduceSub, Int.reduceMul]
    refine wWhile_rule (fun m ρ => ∃ (p : Nat) (es : List Deed) (s3 s4 s5 : Sl), ρ = [.sh (.lst (ns.map D.int)), .ol (es.map Deed.dd), .sh (.int (p : Int)), s3, s4, s5] ∧ Runs ns p es P DS ∧ p ≤ ns.length ∧ es.length ≤ p ∧ m = ns.length - p) _ ⟨0, [], _, _, _, rfl, hr, by omega, by simp, rfl⟩ ?_
    rintro m ρ ⟨p, es, s3, s4, s5, rfl, r, hp, he, rfl⟩
    have fin0 : stepF ns p = none → Qd (.tup [.lst (es.map Deed.dd), .int (p : Int)]) := fun hn => by
      obtain ⟨rfl, rfl⟩ := r.none hn
      exact q
    simp only [↓wSeq_e, ↓wNext_e, ↓wBreak_e, ↓wCont_e, ↓wRet_e, ↓wRetN_e, ↓wDrop_e, ↓wIf_e, ↓wAnd_e, ↓wOr_e, ↓wNot_e, ↓wTst_e, ↓wAndV_e, ↓wOrV_e, ↓wNotV_e, ↓wIfE_e, ↓wChain_e, ↓wVar_e, ↓wPk_e, ↓wC_e, ↓wOp_e, ↓wUn_e, ↓wM1_e, ↓wTup_e, ↓wfLst_e, ↓wFz_e, ↓waNil_e, ↓waCons_e, ↓asNil_e, ↓asCons_e, ↓asBox_e, ↓wCall_e, ↓wAsg_e, ↓wSt_e, ↓wAsgO_e, ↓wTp_e, ↓wStL_nil, ↓wStL_cons, ↓wFor_e, ↓wRg1_e, ↓wRg2_e, ↓wItL_e, ↓wItT_e, ↓wItS_e, ↓wApp_e, ↓woNone_e, ↓woSome_e, ↓wCut_e, ↓wBx1_e, ↓wBx0_e, ↓wBxPut_e, ↓wDraw_e, ↓wTru_e, ↓wLc_e, ↓wYes_e, ↓wAug_e, dLt, dLe, dGt, dGe, dSub, dMul, dMod, dFdiv, dPow, dI2, dI2C, dAdd, dEq, dNe, dLen, dInt, dIx_l, dIx_t, dIx_s, dList, dSum, dCut, atI_zero, atI_one, Option.some.injEq, dTru, dMax2, dMin2, dIs, dNotIs, obD, id_eq, List.getElem?_cons_zero, List.getElem?_cons_succ, List.set_cons_zero, List.set_cons_succ, List.length_cons, List.length_nil, D.bl.injEq, exists_eq_left', decide_eq_true_eq, decide_eq_false_iff_not, Bool.not_eq_true', Bool.not_eq_false', Nat.zero_add, Nat.reduceAdd, true_and, and_true, forall_const, reduceCtorEq, not_true_eq_false, not_false_eq_true, false_implies, true_implies, implies_true, sz_line, Nat.reduceLeDiff, Int.reduceLE, Int.reduceLT, Int.reduceNeg, Int.reducePow, Int.reduceAdd, Int.reduceSub, Int.reduceMul, List.length_map]
    refine ⟨fun hc => ?_, fun hc => ?_⟩
    · obtain ⟨n, hn1, hn2, hn3⟩ := at_oct ho (show p < ns.length by omega)
      simp only [w__law_read_t6, ↓wSeq_e, ↓wNext_e, ↓wBreak_e, ↓wCont_e, ↓wRet_e, ↓wRetN_e, ↓wDrop_e, ↓wIf_e, ↓wAnd_e, ↓wOr_e, ↓wNot_e, ↓wTst_e, ↓wAndV_e, ↓wOrV_e, ↓wNotV_e, ↓wIfE_e, ↓wChain_e, ↓wVar_e, ↓wPk_e, ↓wC_e, ↓wOp_e, ↓wUn_e, ↓wM1_e, ↓wTup_e, ↓wfLst_e, ↓wFz_e, ↓waNil_e, ↓waCons_e, ↓asNil_e, ↓asCons_e, ↓asBox_e, ↓wCall_e, ↓wAsg_e, ↓wSt_e, ↓wAsgO_e, ↓wTp_e, ↓wStL_nil, ↓wStL_cons, ↓wFor_e, ↓wRg1_e, ↓wRg2_e, ↓wItL_e, ↓wItT_e, ↓wItS_e, ↓wApp_e, ↓woNone_e, ↓woSome_e, ↓wCut_e, ↓wBx1_e, ↓wBx0_e, ↓wBxPut_e, ↓wDraw_e, ↓wTru_e, ↓wLc_e, ↓wYes_e, ↓wAug_e, dLt, dLe, dGt, dGe, dSub, dMul, dMod, dFdiv, dPow, dI2, dI2C, dAdd, dEq, dNe, dLen, dInt, dIx_l, dIx_t, dIx_s, dList, dSum, dCut, atI_zero, atI_one, Option.some.injEq, dTru, dMax2, dMin2, dIs, dNotIs, obD, id_eq, List.getElem?_cons_zero, List.getElem?_cons_succ, List.set_cons_zero, List.set_cons_succ, List.length_cons, List.length_nil, D.bl.injEq, exists_eq_left', decide_eq_true_eq, decide_eq_false_iff_not, Bool.not_eq_true', Bool.not_eq_false', Nat.zero_add, Nat.reduceAdd, true_and, and_true, forall_const, reduceCtorEq, not_true_eq_false, not_false_eq_true, false_implies, true_implies, implies_true, sz_line, Nat.reduceLeDiff, Int.reduceLE, Int.reduceLT, Int.reduceNeg, Int.reducePow, Int.reduceAdd, Int.reduceSub, Int.reduceMul, cut_from (show 0 ≤ (p : Int) + 1 by omega), show ((p : Int) + 1).toNat = p + 1 by omega]
      refine ⟨_, at_ints rfl (by omega), ?_⟩
      have e2 : stepF ns p = if p + n + 3 ≤ ns.length ∧ ns.getD (p + n + 2) 0 = 170 ∧ ns.getD (p + n + 1) 0 = ((ns.drop (p + 1)).take n).sum % 256 then (told ((ns.drop (p + 1)).take n)).map fun e => (e, p + n + 3) else none := by
        unfold stepF
        rw [hn1, Int.toNat_natCast]
        by_cases z : p + n + 3 ≤ ns.length ∧ ns.getD (p + n + 2) 0 = 170 ∧ ns.getD (p + n + 1) 0 = ((ns.drop (p + 1)).take n).sum % 256
        · rw [if_pos z, if_pos ⟨by omega, z⟩]
        · rw [if_neg z, if_neg fun y => z y.2]
      simp only [hn1, w__law_read_t5, ↓wSeq_e, ↓wNext_e, ↓wBreak_e, ↓wCont_e, ↓wRet_e, ↓wRetN_e, ↓wDrop_e, ↓wIf_e, ↓wAnd_e, ↓wOr_e, ↓wNot_e, ↓wTst_e, ↓wAndV_e, ↓wOrV_e, ↓wNotV_e, ↓wIfE_e, ↓wChain_e, ↓wVar_e, ↓wPk_e, ↓wC_e, ↓wOp_e, ↓wUn_e, ↓wM1_e, ↓wTup_e, ↓wfLst_e, ↓wFz_e, ↓waNil_e, ↓waCons_e, ↓asNil_e, ↓asCons_e, ↓asBox_e, ↓wCall_e, ↓wAsg_e, ↓wSt_e, ↓wAsgO_e, ↓wTp_e, ↓wStL_nil, ↓wStL_cons, ↓wFor_e, ↓wRg1_e, ↓wRg2_e, ↓wItL_e, ↓wItT_e, ↓wItS_e, ↓wApp_e, ↓woNone_e, ↓woSome_e, ↓wCut_e, ↓wBx1_e, ↓wBx0_e, ↓wBxPut_e, ↓wDraw_e, ↓wTru_e, ↓wLc_e, ↓wYes_e, ↓wAug_e, dLt, dLe, dGt, dGe, dSub, dMul, dMod, dFdiv, dPow, dI2, dI2C, dAdd, dEq, dNe, dLen, dInt, dIx_l, dIx_t, dIx_s, dList, dSum, dCut, atI_zero, atI_one, Option.some.injEq, dTru, dMax2, dMin2, dIs, dNotIs, obD, id_eq, List.getElem?_cons_zero, List.getElem?_cons_succ, List.set_cons_zero, List.set_cons_succ, List.length_cons, List.length_nil, D.bl.injEq, exists_eq_left', decide_eq_true_eq, decide_eq_false_iff_not, Bool.not_eq_true', Bool.not_eq_false', Nat.zero_add, Nat.reduceAdd, true_and, and_true, forall_const, reduceCtorEq, not_true_eq_false, not_false_eq_true, false_implies, true_implies, implies_true, sz_line, Nat.reduceLeDiff, Int.reduceLE, Int.reduceLT, Int.reduceNeg, Int.reducePow, Int.reduceAdd, Int.reduceSub, Int.reduceMul, dEqB, List.length_map, List.length_drop, cut_to (show 0 ≤ (n : Int) by omega), Int.toNat_natCast]
      refine ⟨fun h0 => fin0 (by rw [e2, if_neg]; rintro ⟨z, _⟩; omega), fun h0 => ?_⟩
      have ld : (ns.drop (p + 1)).length = ns.length - (p + 1) := List.length_drop
      have a1 := at_ints (ns := ns.drop (p + 1)) (i := (n : Int) + 1) (p := n + 1) (by omega) (by omega)
      have a2 := at_ints (ns := ns.drop (p + 1)) (i := (n : Int)) (p := n) (by omega) (by omega)
      rw [getD_drop] at a1 a2
      rw [show p + 1 + (n + 1) = p + n + 2 by omega] at a1
      rw [show p + 1 + n = p + n + 1 by omega] at a2
      refine ⟨_, a1, ?_⟩
      simp only [↓wSeq_e, ↓wNext_e, ↓wBreak_e, ↓wCont_e, ↓wRet_e, ↓wRetN_e, ↓wDrop_e, ↓wIf_e, ↓wAnd_e, ↓wOr_e, ↓wNot_e, ↓wTst_e, ↓wAndV_e, ↓wOrV_e, ↓wNotV_e, ↓wIfE_e, ↓wChain_e, ↓wVar_e, ↓wPk_e, ↓wC_e, ↓wOp_e, ↓wUn_e, ↓wM1_e, ↓wTup_e, ↓wfLst_e, ↓wFz_e, ↓waNil_e, ↓waCons_e, ↓asNil_e, ↓asCons_e, ↓asBox_e, ↓wCall_e, ↓wAsg_e, ↓wSt_e, ↓wAsgO_e, ↓wTp_e, ↓wStL_nil, ↓wStL_cons, ↓wFor_e, ↓wRg1_e, ↓wRg2_e, ↓wItL_e, ↓wItT_e, ↓wItS_e, ↓wApp_e, ↓woNone_e, ↓woSome_e, ↓wCut_e, ↓wBx1_e, ↓wBx0_e, ↓wBxPut_e, ↓wDraw_e, ↓wTru_e, ↓wLc_e, ↓wYes_e, ↓wAug_e, dLt, dLe, dGt, dGe, dSub, dMul, dMod, dFdiv, dPow, dI2, dI2C, dAdd, dEq, dNe, dLen, dInt, dIx_l, dIx_t, dIx_s, dList, dSum, dCut, atI_zero, atI_one, Option.some.injEq, dTru, dMax2, dMin2, dIs, dNotIs, obD, id_eq, List.getElem?_cons_zero, List.getElem?_cons_succ, List.set_cons_zero, List.set_cons_succ, List.length_cons, List.length_nil, D.bl.injEq, exists_eq_left', decide_eq_true_eq, decide_eq_false_iff_not, Bool.not_eq_true', Bool.not_eq_false', Nat.zero_add, Nat.reduceAdd, true_and, and_true, forall_const, reduceCtorEq, not_true_eq_false, not_false_eq_true, false_implies, true_implies, implies_true, sz_line, Nat.reduceLeDiff, Int.reduceLE, Int.reduceLT, Int.reduceNeg, Int.reducePow, Int.reduceAdd, Int.reduceSub, Int.reduceMul]
      refine ⟨fun h1 => fin0 (by rw [e2, if_neg]; rintro ⟨_, z, _⟩; exact h1 z), fun h1 => ⟨_, a2, ?_⟩⟩
      simp only [↓wSeq_e, ↓wNext_e, ↓wBreak_e, ↓wCont_e, ↓wRet_e, ↓wRetN_e, ↓wDrop_e, ↓wIf_e, ↓wAnd_e, ↓wOr_e, ↓wNot_e, ↓wTst_e, ↓wAndV_e, ↓wOrV_e, ↓wNotV_e, ↓wIfE_e, ↓wChain_e, ↓wVar_e, ↓wPk_e, ↓wC_e, ↓wOp_e, ↓wUn_e, ↓wM1_e, ↓wTup_e, ↓wfLst_e, ↓wFz_e, ↓waNil_e, ↓waCons_e, ↓asNil_e, ↓asCons_e, ↓asBox_e, ↓wCall_e, ↓wAsg_e, ↓wSt_e, ↓wAsgO_e, ↓wTp_e, ↓wStL_nil, ↓wStL_cons, ↓wFor_e, ↓wRg1_e, ↓wRg2_e, ↓wItL_e, ↓wItT_e, ↓wItS_e, ↓wApp_e, ↓woNone_e, ↓woSome_e, ↓wCut_e, ↓wBx1_e, ↓wBx0_e, ↓wBxPut_e, ↓wDraw_e, ↓wTru_e, ↓wLc_e, ↓wYes_e, ↓wAug_e, dLt, dLe, dGt, dGe, dSub, dMul, dMod, dFdiv, dPow, dI2, dI2C, dAdd, dEq, dNe, dLen, dInt, dIx_l, dIx_t, dIx_s, dList, dSum, dCut, atI_zero, atI_one, Option.some.injEq, dTru, dMax2, dMin2, dIs, dNotIs, obD, id_eq, List.getElem?_cons_zero, List.getElem?_cons_succ, List.set_cons_zero, List.set_cons_succ, List.length_cons, List.length_nil, D.bl.injEq, exists_eq_left', decide_eq_true_eq, decide_eq_false_iff_not, Bool.not_eq_true', Bool.not_eq_false', Nat.zero_add, Nat.reduceAdd, true_and, and_true, forall_const, reduceCtorEq, not_true_eq_false, not_false_eq_true, false_implies, true_implies, implies_true, sz_line, Nat.reduceLeDiff, Int.reduceLE, Int.reduceLT, Int.reduceNeg, Int.reducePow, Int.reduceAdd, Int.reduceSub, Int.reduceMul]
      refine ⟨(ns.drop (p + 1)).take n, rfl, ?_⟩
      have lb : ((ns.drop (p + 1)).take n).length ≤ 10000 := by rw [List.length_take, List.length_drop]; omega
      refine ⟨fun h2 => fin0 (by rw [e2, if_neg]; rintro ⟨_, _, z⟩; exact h2 z), fun h2 => ?_⟩
      rw [if_pos ⟨by omega, h1, h2⟩] at e2
      simp only [w__law_read_t4, ↓wSeq_e, ↓wNext_e, ↓wBreak_e, ↓wCont_e, ↓wRet_e, ↓wRetN_e, ↓wDrop_e, ↓wIf_e, ↓wAnd_e, ↓wOr_e, ↓wNot_e, ↓wTst_e, ↓wAndV_e, ↓wOrV_e, ↓wNotV_e, ↓wIfE_e, ↓wChain_e, ↓wVar_e, ↓wPk_e, ↓wC_e, ↓wOp_e, ↓wUn_e, ↓wM1_e, ↓wTup_e, ↓wfLst_e, ↓wFz_e, ↓waNil_e, ↓waCons_e, ↓asNil_e, ↓asCons_e, ↓asBox_e, ↓wCall_e, ↓wAsg_e, ↓wSt_e, ↓wAsgO_e, ↓wTp_e, ↓wStL_nil, ↓wStL_cons, ↓wFor_e, ↓wRg1_e, ↓wRg2_e, ↓wItL_e, ↓wItT_e, ↓wItS_e, ↓wApp_e, ↓woNone_e, ↓woSome_e, ↓wCut_e, ↓wBx1_e, ↓wBx0_e, ↓wBxPut_e, ↓wDraw_e, ↓wTru_e, ↓wLc_e, ↓wYes_e, ↓wAug_e, dLt, dLe, dGt, dGe, dSub, dMul, dMod, dFdiv, dPow, dI2, dI2C, dAdd, dEq, dNe, dLen, dInt, dIx_l, dIx_t, dIx_s, dList, dSum, dCut, atI_zero, atI_one, Option.some.injEq, dTru, dMax2, dMin2, dIs, dNotIs, obD, id_eq, List.getElem?_cons_zero, List.getElem?_cons_succ, List.set_cons_zero, List.set_cons_succ, List.length_cons, List.length_nil, D.bl.injEq, exists_eq_left', decide_eq_true_eq, decide_eq_false_iff_not, Bool.not_eq_true', Bool.not_eq_false', Nat.zero_add, Nat.reduceAdd, true_and, and_true, forall_const, reduceCtorEq, not_true_eq_false, not_false_eq_true, false_implies, true_implies, implies_true, sz_line, Nat.reduceLeDiff, Int.reduceLE, Int.reduceLT, Int.reduceNeg, Int.reducePow, Int.reduceAdd, Int.reduceSub, Int.reduceMul, wf__law_body_told, cut_to (show 0 ≤ (n : Int) by omega), Int.toNat_natCast]
      refine ⟨_, rfl, lb, ?_⟩
      generalize (ns.drop (p + 1)).take n = b at *
      simp only [w__law_read_t3, ↓wSeq_e, ↓wNext_e, ↓wBreak_e, ↓wCont_e, ↓wRet_e, ↓wRetN_e, ↓wDrop_e, ↓wIf_e, ↓wAnd_e, ↓wOr_e, ↓wNot_e, ↓wTst_e, ↓wAndV_e, ↓wOrV_e, ↓wNotV_e, ↓wIfE_e, ↓wChain_e, ↓wVar_e, ↓wPk_e, ↓wC_e, ↓wOp_e, ↓wUn_e, ↓wM1_e, ↓wTup_e, ↓wfLst_e, ↓wFz_e, ↓waNil_e, ↓waCons_e, ↓asNil_e, ↓asCons_e, ↓asBox_e, ↓wCall_e, ↓wAsg_e, ↓wSt_e, ↓wAsgO_e, ↓wTp_e, ↓wStL_nil, ↓wStL_cons, ↓wFor_e, ↓wRg1_e, ↓wRg2_e, ↓wItL_e, ↓wItT_e, ↓wItS_e, ↓wApp_e, ↓woNone_e, ↓woSome_e, ↓wCut_e, ↓wBx1_e, ↓wBx0_e, ↓wBxPut_e, ↓wDraw_e, ↓wTru_e, ↓wLc_e, ↓wYes_e, ↓wAug_e, dLt, dLe, dGt, dGe, dSub, dMul, dMod, dFdiv, dPow, dI2, dI2C, dAdd, dEq, dNe, dLen, dInt, dIx_l, dIx_t, dIx_s, dList, dSum, dCut, atI_zero, atI_one, Option.some.injEq, dTru, dMax2, dMin2, dIs, dNotIs, obD, id_eq, List.getElem?_cons_zero, List.getElem?_cons_succ, List.set_cons_zero, List.set_cons_succ, List.length_cons, List.length_nil, D.bl.injEq, exists_eq_left', decide_eq_true_eq, decide_eq_false_iff_not, Bool.not_eq_true', Bool.not_eq_false', Nat.zero_add, Nat.reduceAdd, true_and, and_true, forall_const, reduceCtorEq, not_true_eq_false, not_false_eq_true, false_implies, true_implies, implies_true, sz_line, Nat.reduceLeDiff, Int.reduceLE, Int.reduceLT, Int.reduceNeg, Int.reducePow, Int.reduceAdd, Int.reduceSub, Int.reduceMul]
      cases ht : told b with
      | none =>
        rw [toldD_of_none ht]
        exact ⟨true, rfl, fun _ => fin0 (by rw [e2, ht]; rfl), fun z => by cases z⟩
      | some e =>
        rw [ht] at e2
        rw [toldD_of_some ht]
        refine dIs_dd ⟨false, rfl, (fun z => by cases z), fun _ => ?_⟩
        simp only [w__law_read_t2, w__law_read_t1, ↓wSeq_e, ↓wNext_e, ↓wBreak_e, ↓wCont_e, ↓wRet_e, ↓wRetN_e, ↓wDrop_e, ↓wIf_e, ↓wAnd_e, ↓wOr_e, ↓wNot_e, ↓wTst_e, ↓wAndV_e, ↓wOrV_e, ↓wNotV_e, ↓wIfE_e, ↓wChain_e, ↓wVar_e, ↓wPk_e, ↓wC_e, ↓wOp_e, ↓wUn_e, ↓wM1_e, ↓wTup_e, ↓wfLst_e, ↓wFz_e, ↓waNil_e, ↓waCons_e, ↓asNil_e, ↓asCons_e, ↓asBox_e, ↓wCall_e, ↓wAsg_e, ↓wSt_e, ↓wAsgO_e, ↓wTp_e, ↓wStL_nil, ↓wStL_cons, ↓wFor_e, ↓wRg1_e, ↓wRg2_e, ↓wItL_e, ↓wItT_e, ↓wItS_e, ↓wApp_e, ↓woNone_e, ↓woSome_e, ↓wCut_e, ↓wBx1_e, ↓wBx0_e, ↓wBxPut_e, ↓wDraw_e, ↓wTru_e, ↓wLc_e, ↓wYes_e, ↓wAug_e, dLt, dLe, dGt, dGe, dSub, dMul, dMod, dFdiv, dPow, dI2, dI2C, dAdd, dEq, dNe, dLen, dInt, dIx_l, dIx_t, dIx_s, dList, dSum, dCut, atI_zero, atI_one, Option.some.injEq, dTru, dMax2, dMin2, dIs, dNotIs, obD, id_eq, List.getElem?_cons_zero, List.getElem?_cons_succ, List.set_cons_zero, List.set_cons_succ, List.length_cons, List.length_nil, D.bl.injEq, exists_eq_left', decide_eq_true_eq, decide_eq_false_iff_not, Bool.not_eq_true', Bool.not_eq_false', Nat.zero_add, Nat.reduceAdd, true_and, and_true, forall_const, reduceCtorEq, not_true_eq_false, not_false_eq_true, false_implies, true_implies, implies_true, sz_line, Nat.reduceLeDiff, Int.reduceLE, Int.reduceLT, Int.reduceNeg, Int.reducePow, Int.reduceAdd, Int.reduceSub, Int.reduceMul, List.length_map]
        exact ⟨by omega, ns.length - (p + n + 3), by omega, p + n + 3, es ++ [e], _, _, _, slots_eq _ _ _, r.some e2, by omega, by simp; omega, rfl⟩
    · simp only [w__law_read_t7, ↓wSeq_e, ↓wNext_e, ↓wBreak_e, ↓wCont_e, ↓wRet_e, ↓wRetN_e, ↓wDrop_e, ↓wIf_e, ↓wAnd_e, ↓wOr_e, ↓wNot_e, ↓wTst_e, ↓wAndV_e, ↓wOrV_e, ↓wNotV_e, ↓wIfE_e, ↓wChain_e, ↓wVar_e, ↓wPk_e, ↓wC_e, ↓wOp_e, ↓wUn_e, ↓wM1_e, ↓wTup_e, ↓wfLst_e, ↓wFz_e, ↓waNil_e, ↓waCons_e, ↓asNil_e, ↓asCons_e, ↓asBox_e, ↓wCall_e, ↓wAsg_e, ↓wSt_e, ↓wAsgO_e, ↓wTp_e, ↓wStL_nil, ↓wStL_cons, ↓wFor_e, ↓wRg1_e, ↓wRg2_e, ↓wItL_e, ↓wItT_e, ↓wItS_e, ↓wApp_e, ↓woNone_e, ↓woSome_e, ↓wCut_e, ↓wBx1_e, ↓wBx0_e, ↓wBxPut_e, ↓wDraw_e, ↓wTru_e, ↓wLc_e, ↓wYes_e, ↓wAug_e, dLt, dLe, dGt, dGe, dSub, dMul, dMod, dFdiv, dPow, dI2, dI2C, dAdd, dEq, dNe, dLen, dInt, dIx_l, dIx_t, dIx_s, dList, dSum, dCut, atI_zero, atI_one, Option.some.injEq, dTru, dMax2, dMin2, dIs, dNotIs, obD, id_eq, List.getElem?_cons_zero, List.getElem?_cons_succ, List.set_cons_zero, List.set_cons_succ, List.length_cons, List.length_nil, D.bl.injEq, exists_eq_left', decide_eq_true_eq, decide_eq_false_iff_not, Bool.not_eq_true', Bool.not_eq_false', Nat.zero_add, Nat.reduceAdd, true_and, and_true, forall_const, reduceCtorEq, not_true_eq_false, not_false_eq_true, false_implies, true_implies, implies_true, sz_line, Nat.reduceLeDiff, Int.reduceLE, Int.reduceLT, Int.reduceNeg, Int.reducePow, Int.reduceAdd, Int.reduceSub, Int.reduceMul]
      exact fin0 (by unfold stepF; rw [if_neg (by omega)])
  · exact h.elim
/-! ### _law_by_hand -/def wf__law_by_hand : WFn
  | [.bx], Q => ∀ ns : List Int, Oct ns → ns.length ≤ 13 → Q (.lst (ns.map D.int))
  | _, _ => False
theorem len__law_by_hand : ∀ as Qd, wf__law_by_hand as Qd → as.length = 1 := fun as Qd h => by
  unfold wf__law_by_hand at h
  split at h
  · rfl
  · exact h.elim

def w__law_by_hand_t1 : WS := (wRet (wOp dAdd (wOp dAdd (wFz (wfLst (waCons (wUn dLen (wPk 2)) waNil))) (wPk 2)) (wFz (wfLst (waCons (wOp dMod (wUn dSum (wPk 2)) (wC (.int 256))) (waCons (wC (.int 170)) waNil))))))
def w__law_by_hand_t2 : WS := (wSeq (wIf (wTst (wOp dEq (wCall wf__law_draw (asBox 0 (asCons (wC (.int 3)) asNil))) (wC (.int 0))))
 (wAsg (wOp dAdd (wFz (wfLst (waCons (wCall wf__law_draw (asBox 0 (asCons (wC (.int 6)) asNil))) waNil))) (wFz (wLc [3] (wRg1 (waCons (wCall wf__law_draw (asBox 0 (asCons (wC (.int 4)) asNil))) waNil)) (wSt 3) wYes (wOp dIx (wFz (wfLst (waCons (wC (.int 97)) (waCons (wC (.int 122)) (waCons (wC (.int 123)) (waCons (wC (.int 2)) waNil)))))) (wCall wf__law_draw (asBox 0 (asCons (wC (.int 4)) asNil))))))) (wSt 2))
 wNext)
 w__law_by_hand_t1)
def w__law_by_hand_t3 : WS := (wSeq (wAsg (wOp dIx (wFz (wfLst (waCons (wFz (wfLst waNil)) (waCons (wFz (wfLst (waCons (wC (.int 1)) waNil))) (waCons (wFz (wfLst (waCons (wC (.int 1)) (waCons (wC (.int 96)) waNil)))) (waCons (wOp dAdd (wFz (wfLst (waCons (wC (.int 1)) waNil))) (wFz (wLc [3] (wRg1 (waCons (wC (.int 9)) waNil)) (wSt 3) wYes (wOp dAdd (wC (.int 97)) (wCall wf__law_draw (asBox 0 (asCons (wC (.int 26)) asNil))))))) (waCons (wFz (wfLst (waCons (wC (.int 2)) waNil))) (waCons (wFz (wfLst (waCons (wC (.int 3)) (waCons (wC (.int 3)) waNil)))) waNil)))))))) (wPk 1)) (wSt 2))
 w__law_by_hand_t2)
def w__law_by_hand : WS := (wSeq (wAsg (wCall wf__law_draw (asBox 0 (asCons (wC (.int 6)) asNil))) (wSt 1))
 w__law_by_hand_t3)

theorem p__law_by_hand : ∀ as Qd, wf__law_by_hand as Qd → w__law_by_hand (startD ["_law_box_here", "_law_kind", "_law_body", "_law_k"] as) { nx := fun _ => Qd .non, rt := Qd } := fun as Qd h => by
  unfold wf__law_by_hand at h
  split at h
  · show w__law_by_hand [.bx, .no, .no, .no] _
    have last : ∀ (b : List Int) (s1 : Sl), Oct b → b.length ≤ 10 → w__law_by_hand_t1 [.bx, s1, .sh (.lst (b.map D.int)), .no] { nx := fun _ => Qd .non, rt := Qd } := by
      intro b s1 ho hl
      simp only [w__law_by_hand_t1, ↓wSeq_e, ↓wNext_e, ↓wBreak_e, ↓wCont_e, ↓wRet_e, ↓wRetN_e, ↓wDrop_e, ↓wIf_e, ↓wAnd_e, ↓wOr_e, ↓wNot_e, ↓wTst_e, ↓wAndV_e, ↓wOrV_e, ↓wNotV_e, ↓wIfE_e, ↓wChain_e, ↓wVar_e, ↓wPk_e, ↓wC_e, ↓wOp_e, ↓wUn_e, ↓wM1_e, ↓wTup_e, ↓wfLst_e, ↓wFz_e, ↓waNil_e, ↓waCons_e, ↓asNil_e, ↓asCons_e, ↓asBox_e, ↓wCall_e, ↓wAsg_e, ↓wSt_e, ↓wAsgO_e, ↓wTp_e, ↓wStL_nil, ↓wStL_cons, ↓wFor_e, ↓wRg1_e, ↓wRg2_e, ↓wItL_e, ↓wItT_e, ↓wItS_e, ↓wApp_e, ↓woNone_e, ↓woSome_e, ↓wCut_e, ↓wBx1_e, ↓wBx0_e, ↓wBxPut_e, ↓wDraw_e, ↓wTru_e, ↓wLc_e, ↓wYes_e, ↓wAug_e, dLt, dLe, dGt, dGe, dSub, dMul, dMod, dFdiv, dPow, dI2, dI2C, dAdd, dEq, dNe, dLen, dInt, dIx_l, dIx_t, dIx_s, dList, dSum, dCut, atI_zero, atI_one, Option.some.injEq, dTru, dMax2, dMin2, dIs, dNotIs, obD, id_eq, List.getElem?_cons_zero, List.getElem?_cons_succ, List.set_cons_zero, List.set_cons_succ, List.length_cons, List.length_nil, D.bl.injEq, exists_eq_left', decide_eq_true_eq, decide_eq_false_iff_not, Bool.not_eq_true', Bool.not_eq_false', Nat.zero_add, Nat.reduceAdd, true_and, and_true, forall_const, reduceCtorEq, not_true_eq_false, not_false_eq_true, false_implies, true_implies, implies_true, sz_line, Nat.reduceLeDiff, Int.reduceLE, Int.reduceLT, Int.reduceNeg, Int.reducePow, Int.reduceAdd, Int.reduceSub, Int.reduceMul, List.length_map]
      refine ⟨by omega, b, rfl, by simp only [List.length_append, List.length_map, List.length_cons, List.length_nil]; omega, ?_⟩
      rw [recI_map]
      exact h _ (ho.recI (by omega)) (by rw [recI_len]; omega)
    have mid : ∀ (b : List Int) (k : Int), Oct b → b.length ≤ 10 → w__law_by_hand_t2 [.bx, .sh (.int k), .sh (.lst (b.map D.int)), .no] { nx := fun _ => Qd .non, rt := Qd } := by
      intro b s1 ho hl
      simp only [w__law_by_hand_t2, ↓wSeq_e, ↓wNext_e, ↓wBreak_e, ↓wCont_e, ↓wRet_e, ↓wRetN_e, ↓wDrop_e, ↓wIf_e, ↓wAnd_e, ↓wOr_e, ↓wNot_e, ↓wTst_e, ↓wAndV_e, ↓wOrV_e, ↓wNotV_e, ↓wIfE_e, ↓wChain_e, ↓wVar_e, ↓wPk_e, ↓wC_e, ↓wOp_e, ↓wUn_e, ↓wM1_e, ↓wTup_e, ↓wfLst_e, ↓wFz_e, ↓waNil_e, ↓waCons_e, ↓asNil_e, ↓asCons_e, ↓asBox_e, ↓wCall_e, ↓wAsg_e, ↓wSt_e, ↓wAsgO_e, ↓wTp_e, ↓wStL_nil, ↓wStL_cons, ↓wFor_e, ↓wRg1_e, ↓wRg2_e, ↓wItL_e, ↓wItT_e, ↓wItS_e, ↓wApp_e, ↓woNone_e, ↓woSome_e, ↓wCut_e, ↓wBx1_e, ↓wBx0_e, ↓wBxPut_e, ↓wDraw_e, ↓wTru_e, ↓wLc_e, ↓wYes_e, ↓wAug_e, dLt, dLe, dGt, dGe, dSub, dMul, dMod, dFdiv, dPow, dI2, dI2C, dAdd, dEq, dNe, dLen, dInt, dIx_l, dIx_t, dIx_s, dList, dSum, dCut, atI_zero, atI_one, Option.some.injEq, dTru, dMax2, dMin2, dIs, dNotIs, obD, id_eq, List.getElem?_cons_zero, List.getElem?_cons_succ, List.set_cons_zero, List.set_cons_succ, List.length_cons, List.length_nil, D.bl.injEq, exists_eq_left', decide_eq_true_eq, decide_eq_false_iff_not, Bool.not_eq_true', Bool.not_eq_false', Nat.zero_add, Nat.reduceAdd, true_and, and_true, forall_const, reduceCtorEq, not_true_eq_false, not_false_eq_true, false_implies, true_implies, implies_true, sz_line, Nat.reduceLeDiff, Int.reduceLE, Int.reduceLT, Int.reduceNeg, Int.reducePow, Int.reduceAdd, Int.reduceSub, Int.reduceMul, wf__law_draw, dEqB]
      intro r r0 r1
      refine ⟨fun _ => ?_, fun _ => last _ _ ho hl⟩
      intro a a0 a1 n n0 n1
      refine ⟨by omega, by rw [rangeD_length]; omega, rfl, ?_⟩
      refine wLcL_rule (ρ := [.bx, .sh (.int s1), _, .no]) (fun d => True) (fun _ o => ∃ y, o = some y ∧ ∃ c : Int, y = .int c ∧ 0 ≤ c ∧ c < 256) ?_ _ _ _ (fun _ _ => trivial) ?_
      · rintro d _ Kt Kf ht hf
        simp only [↓wSeq_e, ↓wNext_e, ↓wBreak_e, ↓wCont_e, ↓wRet_e, ↓wRetN_e, ↓wDrop_e, ↓wIf_e, ↓wAnd_e, ↓wOr_e, ↓wNot_e, ↓wTst_e, ↓wAndV_e, ↓wOrV_e, ↓wNotV_e, ↓wIfE_e, ↓wChain_e, ↓wVar_e, ↓wPk_e, ↓wC_e, ↓wOp_e, ↓wUn_e, ↓wM1_e, ↓wTup_e, ↓wfLst_e, ↓wFz_e, ↓waNil_e, ↓waCons_e, ↓asNil_e, ↓asCons_e, ↓asBox_e, ↓wCall_e, ↓wAsg_e, ↓wSt_e, ↓wAsgO_e, ↓wTp_e, ↓wStL_nil, ↓wStL_cons, ↓wFor_e, ↓wRg1_e, ↓wRg2_e, ↓wItL_e, ↓wItT_e, ↓wItS_e, ↓wApp_e, ↓woNone_e, ↓woSome_e, ↓wCut_e, ↓wBx1_e, ↓wBx0_e, ↓wBxPut_e, ↓wDraw_e, ↓wTru_e, ↓wLc_e, ↓wYes_e, ↓wAug_e, dLt, dLe, dGt, dGe, dSub, dMul, dMod, dFdiv, dPow, dI2, dI2C, dAdd, dEq, dNe, dLen, dInt, dIx_l, dIx_t, dIx_s, dList, dSum, dCut, atI_zero, atI_one, Option.some.injEq, dTru, dMax2, dMin2, dIs, dNotIs, obD, id_eq, List.getElem?_cons_zero, List.getElem?_cons_succ, List.set_cons_zero, List.set_cons_succ, List.length_cons, List.length_nil, D.bl.injEq, exists_eq_left', decide_eq_true_eq, decide_eq_false_iff_not, Bool.not_eq_true', Bool.not_eq_false', Nat.zero_add, Nat.reduceAdd, true_and, and_true, forall_const, reduceCtorEq, not_true_eq_false, not_false_eq_true, false_implies, true_implies, implies_true, sz_line, Nat.reduceLeDiff, Int.reduceLE, Int.reduceLT, Int.reduceNeg, Int.reducePow, Int.reduceAdd, Int.reduceSub, Int.reduceMul, wipeD, List.reverse_cons, List.reverse_nil, List.nil_append, noOwnB, List.all_cons, List.all_nil, Bool.and_true, Bool.true_and, wf__law_draw]
        intro z z0 z1
        obtain ⟨d, hd, e⟩ := atI_mem (l := [D.int 97, .int 122, .int 123, .int 2]) z0 z1
        refine ⟨d, e, ht _ ⟨_, rfl, ?_⟩⟩
        simp only [List.mem_cons, List.not_mem_nil, or_false] at hd
        rcases hd with rfl | rfl | rfl | rfl <;> exact ⟨_, rfl, by decide⟩
      · intro ys hy
        obtain ⟨y1, y2⟩ := hy.all
        obtain ⟨cs, rfl, c2, c3⟩ := ints_of y2
        rw [rangeD_length] at y1
        rw [List.nil_append]
        simp only [↓wSeq_e, ↓wNext_e, ↓wBreak_e, ↓wCont_e, ↓wRet_e, ↓wRetN_e, ↓wDrop_e, ↓wIf_e, ↓wAnd_e, ↓wOr_e, ↓wNot_e, ↓wTst_e, ↓wAndV_e, ↓wOrV_e, ↓wNotV_e, ↓wIfE_e, ↓wChain_e, ↓wVar_e, ↓wPk_e, ↓wC_e, ↓wOp_e, ↓wUn_e, ↓wM1_e, ↓wTup_e, ↓wfLst_e, ↓wFz_e, ↓waNil_e, ↓waCons_e, ↓asNil_e, ↓asCons_e, ↓asBox_e, ↓wCall_e, ↓wAsg_e, ↓wSt_e, ↓wAsgO_e, ↓wTp_e, ↓wStL_nil, ↓wStL_cons, ↓wFor_e, ↓wRg1_e, ↓wRg2_e, ↓wItL_e, ↓wItT_e, ↓wItS_e, ↓wApp_e, ↓woNone_e, ↓woSome_e, ↓wCut_e, ↓wBx1_e, ↓wBx0_e, ↓wBxPut_e, ↓wDraw_e, ↓wTru_e, ↓wLc_e, ↓wYes_e, ↓wAug_e, dLt, dLe, dGt, dGe, dSub, dMul, dMod, dFdiv, dPow, dI2, dI2C, dAdd, dEq, dNe, dLen, dInt, dIx_l, dIx_t, dIx_s, dList, dSum, dCut, atI_zero, atI_one, Option.some.injEq, dTru, dMax2, dMin2, dIs, dNotIs, obD, id_eq, List.getElem?_cons_zero, List.getElem?_cons_succ, List.set_cons_zero, List.set_cons_succ, List.length_cons, List.length_nil, D.bl.injEq, exists_eq_left', decide_eq_true_eq, decide_eq_false_iff_not, Bool.not_eq_true', Bool.not_eq_false', Nat.zero_add, Nat.reduceAdd, true_and, and_true, forall_const, reduceCtorEq, not_true_eq_false, not_false_eq_true, false_implies, true_implies, implies_true, sz_line, Nat.reduceLeDiff, Int.reduceLE, Int.reduceLT, Int.reduceNeg, Int.reducePow, Int.reduceAdd, Int.reduceSub, Int.reduceMul, wipeD, List.reverse_cons, List.reverse_nil, List.nil_append, noOwnB, List.all_cons, List.all_nil, Bool.and_true, Bool.true_and, List.length_map]
        refine ⟨by omega, ?_⟩
        exact last (a :: cs) _ (.cons (by omega) c2) (by rw [List.length_cons]; omega)
    simp only [w__law_by_hand, ↓wSeq_e, ↓wNext_e, ↓wBreak_e, ↓wCont_e, ↓wRet_e, ↓wRetN_e, ↓wDrop_e, ↓wIf_e, ↓wAnd_e, ↓wOr_e, ↓wNot_e, ↓wTst_e, ↓wAndV_e, ↓wOrV_e, ↓wNotV_e, ↓wIfE_e, ↓wChain_e, ↓wVar_e, ↓wPk_e, ↓wC_e, ↓wOp_e, ↓wUn_e, ↓wM1_e, ↓wTup_e, ↓wfLst_e, ↓wFz_e, ↓waNil_e, ↓waCons_e, ↓asNil_e, ↓asCons_e, ↓asBox_e, ↓wCall_e, ↓wAsg_e, ↓wSt_e, ↓wAsgO_e, ↓wTp_e, ↓wStL_nil, ↓wStL_cons, ↓wFor_e, ↓wRg1_e, ↓wRg2_e, ↓wItL_e, ↓wItT_e, ↓wItS_e, ↓wApp_e, ↓woNone_e, ↓woSome_e, ↓wCut_e, ↓wBx1_e, ↓wBx0_e, ↓wBxPut_e, ↓wDraw_e, ↓wTru_e, ↓wLc_e, ↓wYes_e, ↓wAug_e, dLt, dLe, dGt, dGe, dSub, dMul, dMod, dFdiv, dPow, dI2, dI2C, dAdd, dEq, dNe, dLen, dInt, dIx_l, dIx_t, dIx_s, dList, dSum, dCut, atI_zero, atI_one, Option.some.injEq, dTru, dMax2, dMin2, dIs, dNotIs, obD, id_eq, List.getElem?_cons_zero, List.getElem?_cons_succ, List.set_cons_zero, List.set_cons_succ, List.length_cons, List.length_nil, D.bl.injEq, exists_eq_left', decide_eq_true_eq, decide_eq_false_iff_not, Bool.not_eq_true', Bool.not_eq_false', Nat.zero_add, Nat.reduceAdd, true_and, and_true, forall_const, reduceCtorEq, not_true_eq_false, not_false_eq_true, false_implies, true_implies, implies_true, sz_line, Nat.reduceLeDiff, Int.reduceLE, Int.reduceLT, Int.reduceNeg, Int.reducePow, Int.reduceAdd, Int.reduceSub, Int.reduceMul, wf__law_draw]
    intro k k0 k1
    simp only [w__law_by_hand_t3, ↓wSeq_e, ↓wNext_e, ↓wBreak_e, ↓wCont_e, ↓wRet_e, ↓wRetN_e, ↓wDrop_e, ↓wIf_e, ↓wAnd_e, ↓wOr_e, ↓wNot_e, ↓wTst_e, ↓wAndV_e, ↓wOrV_e, ↓wNotV_e, ↓wIfE_e, ↓wChain_e, ↓wVar_e, ↓wPk_e, ↓wC_e, ↓wOp_e, ↓wUn_e, ↓wM1_e, ↓wTup_e, ↓wfLst_e, ↓wFz_e, ↓waNil_e, ↓waCons_e, ↓asNil_e, ↓asCons_e, ↓asBox_e, ↓wCall_e, ↓wAsg_e, ↓wSt_e, ↓wAsgO_e, ↓wTp_e, ↓wStL_nil, ↓wStL_cons, ↓wFor_e, ↓wRg1_e, ↓wRg2_e, ↓wItL_e, ↓wItT_e, ↓wItS_e, ↓wApp_e, ↓woNone_e, ↓woSome_e, ↓wCut_e, ↓wBx1_e, ↓wBx0_e, ↓wBxPut_e, ↓wDraw_e, ↓wTru_e, ↓wLc_e, ↓wYes_e, ↓wAug_e, dLt, dLe, dGt, dGe, dSub, dMul, dMod, dFdiv, dPow, dI2, dI2C, dAdd, dEq, dNe, dLen, dInt, dIx_l, dIx_t, dIx_s, dList, dSum, dCut, atI_zero, atI_one, Option.some.injEq, dTru, dMax2, dMin2, dIs, dNotIs, obD, id_eq, List.getElem?_cons_zero, List.getElem?_cons_succ, List.set_cons_zero, List.set_cons_succ, List.length_cons, List.length_nil, D.bl.injEq, exists_eq_left', decide_eq_true_eq, decide_eq_false_iff_not, Bool.not_eq_true', Bool.not_eq_false', Nat.zero_add, Nat.reduceAdd, true_and, and_true, forall_const, reduceCtorEq, not_true_eq_false, not_false_eq_true, false_implies, true_implies, implies_true, sz_line, Nat.reduceLeDiff, Int.reduceLE, Int.reduceLT, Int.reduceNeg, Int.reducePow, Int.reduceAdd, Int.reduceSub, Int.reduceMul, wf__law_draw]
    refine ⟨by rw [rangeD_length]; decide, rfl, ?_⟩
    refine wLcL_rule (ρ := [.bx, .sh (.int k), .no, .no]) (fun d => True) (fun _ o => ∃ y, o = some y ∧ ∃ c : Int, y = .int c ∧ 0 ≤ c ∧ c < 256) ?_ _ _ _ (fun _ _ => trivial) ?_
    · rintro d _ Kt Kf ht hf
      simp only [↓wSeq_e, ↓wNext_e, ↓wBreak_e, ↓wCont_e, ↓wRet_e, ↓wRetN_e, ↓wDrop_e, ↓wIf_e, ↓wAnd_e, ↓wOr_e, ↓wNot_e, ↓wTst_e, ↓wAndV_e, ↓wOrV_e, ↓wNotV_e, ↓wIfE_e, ↓wChain_e, ↓wVar_e, ↓wPk_e, ↓wC_e, ↓wOp_e, ↓wUn_e, ↓wM1_e, ↓wTup_e, ↓wfLst_e, ↓wFz_e, ↓waNil_e, ↓waCons_e, ↓asNil_e, ↓asCons_e, ↓asBox_e, ↓wCall_e, ↓wAsg_e, ↓wSt_e, ↓wAsgO_e, ↓wTp_e, ↓wStL_nil, ↓wStL_cons, ↓wFor_e, ↓wRg1_e, ↓wRg2_e, ↓wItL_e, ↓wItT_e, ↓wItS_e, ↓wApp_e, ↓woNone_e, ↓woSome_e, ↓wCut_e, ↓wBx1_e, ↓wBx0_e, ↓wBxPut_e, ↓wDraw_e, ↓wTru_e, ↓wLc_e, ↓wYes_e, ↓wAug_e, dLt, dLe, dGt, dGe, dSub, dMul, dMod, dFdiv, dPow, dI2, dI2C, dAdd, dEq, dNe, dLen, dInt, dIx_l, dIx_t, dIx_s, dList, dSum, dCut, atI_zero, atI_one, Option.some.injEq, dTru, dMax2, dMin2, dIs, dNotIs, obD, id_eq, List.getElem?_cons_zero, List.getElem?_cons_succ, List.set_cons_zero, List.set_cons_succ, List.length_cons, List.length_nil, D.bl.injEq, exists_eq_left', decide_eq_true_eq, decide_eq_false_iff_not, Bool.not_eq_true', Bool.not_eq_false', Nat.zero_add, Nat.reduceAdd, true_and, and_true, forall_const, reduceCtorEq, not_true_eq_false, not_false_eq_true, false_implies, true_implies, implies_true, sz_line, Nat.reduceLeDiff, Int.reduceLE, Int.reduceLT, Int.reduceNeg, Int.reducePow, Int.reduceAdd, Int.reduceSub, Int.reduceMul, wipeD, List.reverse_cons, List.reverse_nil, List.nil_append, noOwnB, List.all_cons, List.all_nil, Bool.and_true, Bool.true_and, wf__law_draw]
      intro z z0 z1
      exact ht _ ⟨_, rfl, _, rfl, by omega, by omega⟩
    · intro ys hy
      obtain ⟨y1, y2⟩ := hy.all
      obtain ⟨cs, rfl, c2, c3⟩ := ints_of y2
      rw [rangeD_length] at y1
      rw [List.nil_append]
      simp only [↓wSeq_e, ↓wNext_e, ↓wBreak_e, ↓wCont_e, ↓wRet_e, ↓wRetN_e, ↓wDrop_e, ↓wIf_e, ↓wAnd_e, ↓wOr_e, ↓wNot_e, ↓wTst_e, ↓wAndV_e, ↓wOrV_e, ↓wNotV_e, ↓wIfE_e, ↓wChain_e, ↓wVar_e, ↓wPk_e, ↓wC_e, ↓wOp_e, ↓wUn_e, ↓wM1_e, ↓wTup_e, ↓wfLst_e, ↓wFz_e, ↓waNil_e, ↓waCons_e, ↓asNil_e, ↓asCons_e, ↓asBox_e, ↓wCall_e, ↓wAsg_e, ↓wSt_e, ↓wAsgO_e, ↓wTp_e, ↓wStL_nil, ↓wStL_cons, ↓wFor_e, ↓wRg1_e, ↓wRg2_e, ↓wItL_e, ↓wItT_e, ↓wItS_e, ↓wApp_e, ↓woNone_e, ↓woSome_e, ↓wCut_e, ↓wBx1_e, ↓wBx0_e, ↓wBxPut_e, ↓wDraw_e, ↓wTru_e, ↓wLc_e, ↓wYes_e, ↓wAug_e, dLt, dLe, dGt, dGe, dSub, dMul, dMod, dFdiv, dPow, dI2, dI2C, dAdd, dEq, dNe, dLen, dInt, dIx_l, dIx_t, dIx_s, dList, dSum, dCut, atI_zero, atI_one, Option.some.injEq, dTru, dMax2, dMin2, dIs, dNotIs, obD, id_eq, List.getElem?_cons_zero, List.getElem?_cons_succ, List.set_cons_zero, List.set_cons_succ, List.length_cons, List.length_nil, D.bl.injEq, exists_eq_left', decide_eq_true_eq, decide_eq_false_iff_not, Bool.not_eq_true', Bool.not_eq_false', Nat.zero_add, Nat.reduceAdd, true_and, and_true, forall_const, reduceCtorEq, not_true_eq_false, not_false_eq_true, false_implies, true_implies, implies_true, sz_line, Nat.reduceLeDiff, Int.reduceLE, Int.reduceLT, Int.reduceNeg, Int.reducePow, Int.reduceAdd, Int.reduceSub, Int.reduceMul, wipeD, List.reverse_cons, List.reverse_nil, List.nil_append, noOwnB, List.all_cons, List.all_nil, Bool.and_true, Bool.true_and, List.length_map]
      refine ⟨by omega, ?_⟩
      have one : Oct [1] := .cons (by decide) .nil
      obtain ⟨d, hd, e⟩ := atI_mem (l := [D.lst ([].map D.int), .lst ([1].map D.int), .lst ([1, 96].map D.int), .lst ((1 :: cs).map D.int), .lst ([2].map D.int), .lst ([3, 3].map D.int)]) k0 k1
      refine ⟨d, e, ?_⟩
      simp only [List.mem_cons, List.not_mem_nil, or_false] at hd
      rcases hd with rfl | rfl | rfl | rfl | rfl | rfl
      · exact mid [] k .nil (by decide)
      · exact mid [1] k one (by decide)
      · exact mid [1, 96] k (.cons (by decide) (.cons (by decide) .nil)) (by decide)
      · exact mid (1 :: cs) k (.cons (by decide) c2) (by rw [List.length_cons]; omega)
      · exact mid [2] k (.cons (by decide) .nil) (by decide)
      · exact mid [3, 3] k (.cons (by decide) (.cons (by decide) .nil)) (by decide)
  · exact h.elim
/-! ### _law_spoilt -/def wf__law_spoilt : WFn
  | [.bx, .sh (.lst ds)], Q => ∃ ns : List Int, ds = ns.map D.int ∧ Oct ns ∧ ns.length ≤ 10000 ∧ ∀ ms : List Int, Oct ms → ms.length ≤ ns.length + 13 → Q (.lst (ms.map D.int))
  | _, _ => False
theorem len__law_spoilt : ∀ as Qd, wf__law_spoilt as Qd → as.length = 2 := fun as Qd h => by
  unfold wf__law_spoilt at h
  split at h
  · rfl
  · exact h.elim

def w__law_spoilt_t1 : WS := (wRet (wOp dAdd (wPk 1) (wCall wf__law_by_hand (asBox 0 asNil))))
def w__law_spoilt_t2 : WS := (wSeq (wIf (wAnd (wTst (wOp dEq (wPk 3) (wC (.int 3)))) (wTst (wOp dLt (wPk 2) (wUn dLen (wPk 1)))))
 (wRet (wOp dAdd (wOp dAdd (wCut (wPk 1) woNone (woSome (wVar 2))) (wFz (wfLst (waCons (wVar 4) waNil)))) (wCut (wPk 1) (woSome (wOp dAdd (wPk 2) (wC (.int 1)))) woNone)))
 wNext)
 w__law_spoilt_t1)
def w__law_spoilt_t3 : WS := (wSeq (wIf (wTst (wOp dEq (wPk 3) (wC (.int 2))))
 (wRet (wCut (wPk 1) woNone (woSome (wVar 2))))
 wNext)
 w__law_spoilt_t2)
def w__law_spoilt_t4 : WS := (wSeq (wIf (wTst (wOp dEq (wPk 3) (wC (.int 1))))
 (wRet (wOp dAdd (wCut (wPk 1) woNone (woSome (wVar 2))) (wCut (wPk 1) (woSome (wOp dAdd (wPk 2) (wC (.int 1)))) woNone)))
 wNext)
 w__law_spoilt_t3)
def w__law_spoilt_t5 : WS := (wSeq (wIf (wTst (wOp dEq (wPk 3) (wC (.int 0))))
 (wRet (wOp dAdd (wOp dAdd (wCut (wPk 1) woNone (woSome (wVar 2))) (wFz (wfLst (waCons (wVar 4) waNil)))) (wCut (wPk 1) (woSome (wVar 2)) woNone)))
 wNext)
 w__law_spoilt_t4)
def w__law_spoilt_t6 : WS := (wSeq (wAsg (wOp dIx (wFz (wfLst (waCons (wCall wf__law_draw (asBox 0 (asCons (wC (.int 256)) asNil))) (waCons (wC (.int 0)) (waCons (wC (.int 1)) (waCons (wC (.int 2)) (waCons (wC (.int 3)) (waCons (wC (.int 170)) (waCons (wC (.int 97)) (waCons (wC (.int 255)) waNil)))))))))) (wCall wf__law_draw (asBox 0 (asCons (wC (.int 8)) asNil)))) (wSt 4))
 w__law_spoilt_t5)
def w__law_spoilt_t7 : WS := (wSeq (wAsg (wCall wf__law_draw (asBox 0 (asCons (wC (.int 5)) asNil))) (wSt 3))
 w__law_spoilt_t6)
def w__law_spoilt : WS := (wSeq (wAsg (wOp dMod (wUn dInt (wCall wf__law_draw (asBox 0 (asCons (wC (.int 900)) asNil)))) (wOp dAdd (wUn dLen (wPk 1)) (wC (.int 1)))) (wSt 2))
 w__law_spoilt_t7)

theorem p__law_spoilt : ∀ as Qd, wf__law_spoilt as Qd → w__law_spoilt (startD ["_law_box_here", "_law_octets", "_law_at", "_law_kind", "_law_octet"] as) { nx := fun _ => Qd .non, rt := Qd } := fun as Qd h => by
  unfold wf__law_spoilt at h
  split at h
  · obtain ⟨ns, rfl, ho, hl, q⟩ := h
    show w__law_spoilt [.bx, .sh (.lst (ns.map D.int)), .no, .no, .no] _
    simp only [w__law_spoilt, ↓wSeq_e, ↓wNext_e, ↓wBreak_e, ↓wCont_e, ↓wRet_e, ↓wRetN_e, ↓wDrop_e, ↓wIf_e, ↓wAnd_e, ↓wOr_e, ↓wNot_e, ↓wTst_e, ↓wAndV_e, ↓wOrV_e, ↓wNotV_e, ↓wIfE_e, ↓wChain_e, ↓wVar_e, ↓wPk_e, ↓wC_e, ↓wOp_e, ↓wUn_e, ↓wM1_e, ↓wTup_e, ↓wfLst_e, ↓wFz_e, ↓waNil_e, ↓waCons_e, ↓asNil_e, ↓asCons_e, ↓asBox_e, ↓wCall_e, ↓wAsg_e, ↓wSt_e, ↓wAsgO_e, ↓wTp_e, ↓wStL_nil, ↓wStL_cons, ↓wFor_e, ↓wRg1_e, ↓wRg2_e, ↓wItL_e, ↓wItT_e, ↓wItS_e, ↓wApp_e, ↓woNone_e, ↓woSome_e, ↓wCut_e, ↓wBx1_e, ↓wBx0_e, ↓wBxPut_e, ↓wDraw_e, ↓wTru_e, ↓wLc_e, ↓wYes_e, ↓wAug_e, dLt, dLe, dGt, dGe, dSub, dMul, dMod, dFdiv, dPow, dI2, dI2C, dAdd, dEq, dNe, dLen, dInt, dIx_l, dIx_t, dIx_s, dList, dSum, dCut, atI_zero, atI_one, Option.some.injEq, dTru, dMax2, dMin2, dIs, dNotIs, obD, id_eq, List.getElem?_cons_zero, List.getElem?_cons_succ, List.set_cons_zero, List.set_cons_succ, List.length_cons, List.length_nil, D.bl.injEq, exists_eq_left', decide_eq_true_eq, decide_eq_false_iff_not, Bool.not_eq_true', Bool.not_eq_false', Nat.zero_add, Nat.reduceAdd, true_and, and_true, forall_const, reduceCtorEq, not_true_eq_false, not_false_eq_true, false_implies, true_implies, implies_true, sz_line, Nat.reduceLeDiff, Int.reduceLE, Int.reduceLT, Int.reduceNeg, Int.reducePow, Int.reduceAdd, Int.reduceSub, Int.reduceMul, wf__law_draw, List.length_map]
    intro r r0 r1
    refine ⟨by omega, ?_⟩
    have a0 : 0 ≤ r % ((ns.length : Int) + 1) := Int.emod_nonneg _ (by omega)
    have a1 : r % ((ns.length : Int) + 1) < (ns.length : Int) + 1 := Int.emod_lt_of_pos _ (by omega)
    generalize r % ((ns.length : Int) + 1) = a at *
    simp only [w__law_spoilt_t7, ↓wSeq_e, ↓wNext_e, ↓wBreak_e, ↓wCont_e, ↓wRet_e, ↓wRetN_e, ↓wDrop_e, ↓wIf_e, ↓wAnd_e, ↓wOr_e, ↓wNot_e, ↓wTst_e, ↓wAndV_e, ↓wOrV_e, ↓wNotV_e, ↓wIfE_e, ↓wChain_e, ↓wVar_e, ↓wPk_e, ↓wC_e, ↓wOp_e, ↓wUn_e, ↓wM1_e, ↓wTup_e, ↓wfLst_e, ↓wFz_e, ↓waNil_e, ↓waCons_e, ↓asNil_e, ↓asCons_e, ↓asBox_e, ↓wCall_e, ↓wAsg_e, ↓wSt_e, ↓wAsgO_e, ↓wTp_e, ↓wStL_nil, ↓wStL_cons, ↓wFor_e, ↓wRg1_e, ↓wRg2_e, ↓wItL_e, ↓wItT_e, ↓wItS_e, ↓wApp_e, ↓woNone_e, ↓woSome_e, ↓wCut_e, ↓wBx1_e, ↓wBx0_e, ↓wBxPut_e, ↓wDraw_e, ↓wTru_e, ↓wLc_e, ↓wYes_e, ↓wAug_e, dLt, dLe, dGt, dGe, dSub, dMul, dMod, dFdiv, dPow, dI2, dI2C, dAdd, dEq, dNe, dLen, dInt, dIx_l, dIx_t, dIx_s, dList, dSum, dCut, atI_zero, atI_one, Option.some.injEq, dTru, dMax2, dMin2, dIs, dNotIs, obD, id_eq, List.getElem?_cons_zero, List.getElem?_cons_succ, List.set_cons_zero, List.set_cons_succ, List.length_cons, List.length_nil, D.bl.injEq, exists_eq_left', decide_eq_true_eq, decide_eq_false_iff_not, Bool.not_eq_true', Bool.not_eq_false', Nat.zero_add, Nat.reduceAdd, true_and, and_true, forall_const, reduceCtorEq, not_true_eq_false, not_false_eq_true, false_implies, true_implies, implies_true, sz_line, Nat.reduceLeDiff, Int.reduceLE, Int.reduceLT, Int.reduceNeg, Int.reducePow, Int.reduceAdd, Int.reduceSub, Int.reduceMul, wf__law_draw]
    intro k k0 k1
    simp only [w__law_spoilt_t6, ↓wSeq_e, ↓wNext_e, ↓wBreak_e, ↓wCont_e, ↓wRet_e, ↓wRetN_e, ↓wDrop_e, ↓wIf_e, ↓wAnd_e, ↓wOr_e, ↓wNot_e, ↓wTst_e, ↓wAndV_e, ↓wOrV_e, ↓wNotV_e, ↓wIfE_e, ↓wChain_e, ↓wVar_e, ↓wPk_e, ↓wC_e, ↓wOp_e, ↓wUn_e, ↓wM1_e, ↓wTup_e, ↓wfLst_e, ↓wFz_e, ↓waNil_e, ↓waCons_e, ↓asNil_e, ↓asCons_e, ↓asBox_e, ↓wCall_e, ↓wAsg_e, ↓wSt_e, ↓wAsgO_e, ↓wTp_e, ↓wStL_nil, ↓wStL_cons, ↓wFor_e, ↓wRg1_e, ↓wRg2_e, ↓wItL_e, ↓wItT_e, ↓wItS_e, ↓wApp_e, ↓woNone_e, ↓woSome_e, ↓wCut_e, ↓wBx1_e, ↓wBx0_e, ↓wBxPut_e, ↓wDraw_e, ↓wTru_e, ↓wLc_e, ↓wYes_e, ↓wAug_e, dLt, dLe, dGt, dGe, dSub, dMul, dMod, dFdiv, dPow, dI2, dI2C, dAdd, dEq, dNe, dLen, dInt, dIx_l, dIx_t, dIx_s, dList, dSum, dCut, atI_zero, atI_one, Option.some.injEq, dTru, dMax2, dMin2, dIs, dNotIs, obD, id_eq, List.getElem?_cons_zero, List.getElem?_cons_succ, List.set_cons_zero, List.set_cons_succ, List.length_cons, List.length_nil, D.bl.injEq, exists_eq_left', decide_eq_true_eq, decide_eq_false_iff_not, Bool.not_eq_true', Bool.not_eq_false', Nat.zero_add, Nat.reduceAdd, true_and, and_true, forall_const, reduceCtorEq, not_true_eq_false, not_false_eq_true, false_implies, true_implies, implies_true, sz_line, Nat.reduceLeDiff, Int.reduceLE, Int.reduceLT, Int.reduceNeg, Int.reducePow, Int.reduceAdd, Int.reduceSub, Int.reduceMul, wf__law_draw]
    intro z z0 z1 i i0 i1
    obtain ⟨d, hd, e⟩ := atI_mem (l := [D.int z, .int 0, .int 1, .int 2, .int 3, .int 170, .int 97, .int 255]) i0 i1
    refine ⟨d, e, ?_⟩
    have hh : ∃ n : Int, d = .int n ∧ 0 ≤ n ∧ n < 256 := by
      simp only [List.mem_cons, List.not_mem_nil, or_false] at hd
      rcases hd with rfl | rfl | rfl | rfl | rfl | rfl | rfl | rfl
      · exact ⟨_, rfl, z0, z1⟩
      all_goals exact ⟨_, rfl, by decide⟩
    obtain ⟨n, rfl, hn⟩ := hh
    have l1 : (ns.take a.toNat).length ≤ ns.length := by rw [List.length_take]; omega
    have l2 : ∀ j, (ns.drop j).length ≤ ns.length := fun j => by rw [List.length_drop]; omega
    have lt : ∀ j, a.toNat ≤ j → (ns.take a.toNat).length + (ns.drop j).length ≤ ns.length := fun j hj => by rw [List.length_take, List.length_drop]; omega
    have o1 := ho.take a.toNat
    have e1 : ∀ j, (ns.take a.toNat).map D.int ++ [D.int n] ++ (ns.drop j).map D.int = (ns.take a.toNat ++ [n] ++ ns.drop j).map D.int := fun j => by simp
    have e2 : ∀ j, (ns.take a.toNat).map D.int ++ (ns.drop j).map D.int = (ns.take a.toNat ++ ns.drop j).map D.int := fun j => by simp
    have o2 : ∀ j, Oct (ns.take a.toNat ++ [n] ++ ns.drop j) := fun j => (o1.append (.cons hn .nil)).append (ho.drop j)
    have m1 := lt a.toNat (Nat.le_refl _)
    have m2 := lt (a + 1).toNat (by omega)
    simp only [w__law_spoilt_t5, ↓wSeq_e, ↓wNext_e, ↓wBreak_e, ↓wCont_e, ↓wRet_e, ↓wRetN_e, ↓wDrop_e, ↓wIf_e, ↓wAnd_e, ↓wOr_e, ↓wNot_e, ↓wTst_e, ↓wAndV_e, ↓wOrV_e, ↓wNotV_e, ↓wIfE_e, ↓wChain_e, ↓wVar_e, ↓wPk_e, ↓wC_e, ↓wOp_e, ↓wUn_e, ↓wM1_e, ↓wTup_e, ↓wfLst_e, ↓wFz_e, ↓waNil_e, ↓waCons_e, ↓asNil_e, ↓asCons_e, ↓asBox_e, ↓wCall_e, ↓wAsg_e, ↓wSt_e, ↓wAsgO_e, ↓wTp_e, ↓wStL_nil, ↓wStL_cons, ↓wFor_e, ↓wRg1_e, ↓wRg2_e, ↓wItL_e, ↓wItT_e, ↓wItS_e, ↓wApp_e, ↓woNone_e, ↓woSome_e, ↓wCut_e, ↓wBx1_e, ↓wBx0_e, ↓wBxPut_e, ↓wDraw_e, ↓wTru_e, ↓wLc_e, ↓wYes_e, ↓wAug_e, dLt, dLe, dGt, dGe, dSub, dMul, dMod, dFdiv, dPow, dI2, dI2C, dAdd, dEq, dNe, dLen, dInt, dIx_l, dIx_t, dIx_s, dList, dSum, dCut, atI_zero, atI_one, Option.some.injEq, dTru, dMax2, dMin2, dIs, dNotIs, obD, id_eq, List.getElem?_cons_zero, List.getElem?_cons_succ, List.set_cons_zero, List.set_cons_succ, List.length_cons, List.length_nil, D.bl.injEq, exists_eq_left', decide_eq_true_eq, decide_eq_false_iff_not, Bool.not_eq_true', Bool.not_eq_false', Nat.zero_add, Nat.reduceAdd, true_and, and_true, forall_const, reduceCtorEq, not_true_eq_false, not_false_eq_true, false_implies, true_implies, implies_true, sz_line, Nat.reduceLeDiff, Int.reduceLE, Int.reduceLT, Int.reduceNeg, Int.reducePow, Int.reduceAdd, Int.reduceSub, Int.reduceMul, dEqB, cut_to a0, cut_from a0, List.length_map, List.length_append, e1]
    refine ⟨fun _ => ⟨by omega, by omega, q _ (o2 _) (by simp only [List.length_append, List.length_cons, List.length_nil]; omega)⟩, fun _ => ?_⟩
    simp only [w__law_spoilt_t4, ↓wSeq_e, ↓wNext_e, ↓wBreak_e, ↓wCont_e, ↓wRet_e, ↓wRetN_e, ↓wDrop_e, ↓wIf_e, ↓wAnd_e, ↓wOr_e, ↓wNot_e, ↓wTst_e, ↓wAndV_e, ↓wOrV_e, ↓wNotV_e, ↓wIfE_e, ↓wChain_e, ↓wVar_e, ↓wPk_e, ↓wC_e, ↓wOp_e, ↓wUn_e, ↓wM1_e, ↓wTup_e, ↓wfLst_e, ↓wFz_e, ↓waNil_e, ↓waCons_e, ↓asNil_e, ↓asCons_e, ↓asBox_e, ↓wCall_e, ↓wAsg_e, ↓wSt_e, ↓wAsgO_e, ↓wTp_e, ↓wStL_nil, ↓wStL_cons, ↓wFor_e, ↓wRg1_e, ↓wRg2_e, ↓wItL_e, ↓wItT_e, ↓wItS_e, ↓wApp_e, ↓woNone_e, ↓woSome_e, ↓wCut_e, ↓wBx1_e, ↓wBx0_e, ↓wBxPut_e, ↓wDraw_e, ↓wTru_e, ↓wLc_e, ↓wYes_e, ↓wAug_e, dLt, dLe, dGt, dGe, dSub, dMul, dMod, dFdiv, dPow, dI2, dI2C, dAdd, dEq, dNe, dLen, dInt, dIx_l, dIx_t, dIx_s, dList, dSum, dCut, atI_zero, atI_one, Option.some.injEq, dTru, dMax2, dMin2, dIs, dNotIs, obD, id_eq, List.getElem?_cons_zero, List.getElem?_cons_succ, List.set_cons_zero, List.set_cons_succ, List.length_cons, List.length_nil, D.bl.injEq, exists_eq_left', decide_eq_true_eq, decide_eq_false_iff_not, Bool.not_eq_true', Bool.not_eq_false', Nat.zero_add, Nat.reduceAdd, true_and, and_true, forall_const, reduceCtorEq, not_true_eq_false, not_false_eq_true, false_implies, true_implies, implies_true, sz_line, Nat.reduceLeDiff, Int.reduceLE, Int.reduceLT, Int.reduceNeg, Int.reducePow, Int.reduceAdd, Int.reduceSub, Int.reduceMul, dEqB, cut_to a0, cut_from (show 0 ≤ a + 1 by omega), List.length_map, List.length_append, e2]
    refine ⟨fun _ => ⟨by omega, q _ (o1.append (ho.drop _)) (by simp only [List.length_append]; omega)⟩, fun _ => ?_⟩
    simp only [w__law_spoilt_t3, ↓wSeq_e, ↓wNext_e, ↓wBreak_e, ↓wCont_e, ↓wRet_e, ↓wRetN_e, ↓wDrop_e, ↓wIf_e, ↓wAnd_e, ↓wOr_e, ↓wNot_e, ↓wTst_e, ↓wAndV_e, ↓wOrV_e, ↓wNotV_e, ↓wIfE_e, ↓wChain_e, ↓wVar_e, ↓wPk_e, ↓wC_e, ↓wOp_e, ↓wUn_e, ↓wM1_e, ↓wTup_e, ↓wfLst_e, ↓wFz_e, ↓waNil_e, ↓waCons_e, ↓asNil_e, ↓asCons_e, ↓asBox_e, ↓wCall_e, ↓wAsg_e, ↓wSt_e, ↓wAsgO_e, ↓wTp_e, ↓wStL_nil, ↓wStL_cons, ↓wFor_e, ↓wRg1_e, ↓wRg2_e, ↓wItL_e, ↓wItT_e, ↓wItS_e, ↓wApp_e, ↓woNone_e, ↓woSome_e, ↓wCut_e, ↓wBx1_e, ↓wBx0_e, ↓wBxPut_e, ↓wDraw_e, ↓wTru_e, ↓wLc_e, ↓wYes_e, ↓wAug_e, dLt, dLe, dGt, dGe, dSub, dMul, dMod, dFdiv, dPow, dI2, dI2C, dAdd, dEq, dNe, dLen, dInt, dIx_l, dIx_t, dIx_s, dList, dSum, dCut, atI_zero, atI_one, Option.some.injEq, dTru, dMax2, dMin2, dIs, dNotIs, obD, id_eq, List.getElem?_cons_zero, List.getElem?_cons_succ, List.set_cons_zero, List.set_cons_succ, List.length_cons, List.length_nil, D.bl.injEq, exists_eq_left', decide_eq_true_eq, decide_eq_false_iff_not, Bool.not_eq_true', Bool.not_eq_false', Nat.zero_add, Nat.reduceAdd, true_and, and_true, forall_const, reduceCtorEq, not_true_eq_false, not_false_eq_true, false_implies, true_implies, implies_true, sz_line, Nat.reduceLeDiff, Int.reduceLE, Int.reduceLT, Int.reduceNeg, Int.reducePow, Int.reduceAdd, Int.reduceSub, Int.reduceMul, dEqB, cut_to a0]
    refine ⟨fun _ => q _ o1 (by omega), fun _ => ?_⟩
    simp only [w__law_spoilt_t2, ↓wSeq_e, ↓wNext_e, ↓wBreak_e, ↓wCont_e, ↓wRet_e, ↓wRetN_e, ↓wDrop_e, ↓wIf_e, ↓wAnd_e, ↓wOr_e, ↓wNot_e, ↓wTst_e, ↓wAndV_e, ↓wOrV_e, ↓wNotV_e, ↓wIfE_e, ↓wChain_e, ↓wVar_e, ↓wPk_e, ↓wC_e, ↓wOp_e, ↓wUn_e, ↓wM1_e, ↓wTup_e, ↓wfLst_e, ↓wFz_e, ↓waNil_e, ↓waCons_e, ↓asNil_e, ↓asCons_e, ↓asBox_e, ↓wCall_e, ↓wAsg_e, ↓wSt_e, ↓wAsgO_e, ↓wTp_e, ↓wStL_nil, ↓wStL_cons, ↓wFor_e, ↓wRg1_e, ↓wRg2_e, ↓wItL_e, ↓wItT_e, ↓wItS_e, ↓wApp_e, ↓woNone_e, ↓woSome_e, ↓wCut_e, ↓wBx1_e, ↓wBx0_e, ↓wBxPut_e, ↓wDraw_e, ↓wTru_e, ↓wLc_e, ↓wYes_e, ↓wAug_e, dLt, dLe, dGt, dGe, dSub, dMul, dMod, dFdiv, dPow, dI2, dI2C, dAdd, dEq, dNe, dLen, dInt, dIx_l, dIx_t, dIx_s, dList, dSum, dCut, atI_zero, atI_one, Option.some.injEq, dTru, dMax2, dMin2, dIs, dNotIs, obD, id_eq, List.getElem?_cons_zero, List.getElem?_cons_succ, List.set_cons_zero, List.set_cons_succ, List.length_cons, List.length_nil, D.bl.injEq, exists_eq_left', decide_eq_true_eq, decide_eq_false_iff_not, Bool.not_eq_true', Bool.not_eq_false', Nat.zero_add, Nat.reduceAdd, true_and, and_true, forall_const, reduceCtorEq, not_true_eq_false, not_false_eq_true, false_implies, true_implies, implies_true, sz_line, Nat.reduceLeDiff, Int.reduceLE, Int.reduceLT, Int.reduceNeg, Int.reducePow, Int.reduceAdd, Int.reduceSub, Int.reduceMul, dEqB, cut_to a0, cut_from (show 0 ≤ a + 1 by omega), List.length_map, List.length_append, e1]
    have end1 : w__law_spoilt_t1 [.bx, .sh (.lst (ns.map D.int)), .sh (.int a), .sh (.int k), .sh (.int n)] { nx := fun _ => Qd .non, rt := Qd } := by
      simp only [w__law_spoilt_t1, ↓wSeq_e, ↓wNext_e, ↓wBreak_e, ↓wCont_e, ↓wRet_e, ↓wRetN_e, ↓wDrop_e, ↓wIf_e, ↓wAnd_e, ↓wOr_e, ↓wNot_e, ↓wTst_e, ↓wAndV_e, ↓wOrV_e, ↓wNotV_e, ↓wIfE_e, ↓wChain_e, ↓wVar_e, ↓wPk_e, ↓wC_e, ↓wOp_e, ↓wUn_e, ↓wM1_e, ↓wTup_e, ↓wfLst_e, ↓wFz_e, ↓waNil_e, ↓waCons_e, ↓asNil_e, ↓asCons_e, ↓asBox_e, ↓wCall_e, ↓wAsg_e, ↓wSt_e, ↓wAsgO_e, ↓wTp_e, ↓wStL_nil, ↓wStL_cons, ↓wFor_e, ↓wRg1_e, ↓wRg2_e, ↓wItL_e, ↓wItT_e, ↓wItS_e, ↓wApp_e, ↓woNone_e, ↓woSome_e, ↓wCut_e, ↓wBx1_e, ↓wBx0_e, ↓wBxPut_e, ↓wDraw_e, ↓wTru_e, ↓wLc_e, ↓wYes_e, ↓wAug_e, dLt, dLe, dGt, dGe, dSub, dMul, dMod, dFdiv, dPow, dI2, dI2C, dAdd, dEq, dNe, dLen, dInt, dIx_l, dIx_t, dIx_s, dList, dSum, dCut, atI_zero, atI_one, Option.some.injEq, dTru, dMax2, dMin2, dIs, dNotIs, obD, id_eq, List.getElem?_cons_zero, List.getElem?_cons_succ, List.set_cons_zero, List.set_cons_succ, List.length_cons, List.length_nil, D.bl.injEq, exists_eq_left', decide_eq_true_eq, decide_eq_false_iff_not, Bool.not_eq_true', Bool.not_eq_false', Nat.zero_add, Nat.reduceAdd, true_and, and_true, forall_const, reduceCtorEq, not_true_eq_false, not_false_eq_true, false_implies, true_implies, implies_true, sz_line, Nat.reduceLeDiff, Int.reduceLE, Int.reduceLT, Int.reduceNeg, Int.reducePow, Int.reduceAdd, Int.reduceSub, Int.reduceMul, wf__law_by_hand]
      intro ms om lm
      refine ⟨by simp only [List.length_map]; omega, ?_⟩
      rw [← List.map_append]
      exact q _ (ho.append om) (by rw [List.length_append]; omega)
    refine ⟨fun _ => ⟨fun _ => ⟨by omega, by omega, q _ (o2 _) (by simp only [List.length_append, List.length_cons, List.length_nil]; omega)⟩, fun _ => end1⟩, fun _ => end1⟩
  · exact h.elim
/-! ### law -/
def w_law_t1 : WS := (wAsg (wOp dAdd (wPk 3) (wCall wf__law_record (asCons (wCall wf__law_some_deed (asBox 1 asNil)) asNil))) (wSt 3))
def w_law_t2 : WS := (wSeq (wIf (wOr (wNot (wTst (wCall wf__law_same (asCons (wCall wf_recovered (asCons (wVar 5) asNil)) (asCons (wCall wf__law_read (asCons (wVar 3) asNil)) asNil))))) (wTst (wOp dNe (wPk 5) (wPk 3))))
 (wRet (wC (.bl false)))
 wNext)
 w_law_t1)
def w_law_t3 : WS := (wSeq (wAsg (wUn dList (wPk 3)) (wSt 5))
 w_law_t2)
def w_law_t4 : WS := (wFor (wRg1 (waCons (wC (.int 4)) waNil)) (wSt 6)
 (wSeq (wAsg (wCall wf__law_spoilt (asBox 1 (asCons (wVar 3) asNil))) (wSt 3))
 w_law_t3))
def w_law_t5 : WS := (wAsg (wOp dAdd (wPk 3) (wCall wf__law_record (asCons (wVar 4) asNil))) (wSt 3))
def w_law_t6 : WS := (wSeq (wIf (wNot (wTst (wCall wf__law_same (asCons (wCall wf_recovered (asCons (wUn dList (wPk 3)) asNil)) (asCons (wTup (waCons (wVar 2) (waCons (wUn dLen (wPk 3)) waNil))) asNil)))))
 (wRet (wC (.bl false)))
 wNext)
 w_law_t4)
def w_law_t7 : WS := (wSeq (wFor (wItL (wVar 2)) (wSt 4)
 (wSeq (wIf (wNot (wTst (wCall wf__law_same (asCons (wCall wf_record_of (asCons (wVar 4) asNil)) (asCons (wCall wf__law_record (asCons (wVar 4) asNil)) asNil)))))
 (wRet (wC (.bl false)))
 wNext)
 w_law_t5))
 w_law_t6)
def w_law_t8 : WS := (wSeq (wAsg (wFz (wfLst waNil)) (wSt 3))
 w_law_t7)
def w_law_t9 : WS := (wRet (wCall wf__law_same (asCons (wCall wf_recovered (asCons (wFz (wfLst waNil)) asNil)) (asCons (wTup (waCons (wFz (wfLst waNil)) (waCons (wC (.int 0)) waNil))) asNil))))
def w_law0 : WE := (wCall wf__law_box (asCons (wVar 0) (asCons (wC (.int 0)) (asCons (wC (.int 40)) asNil))))
def w_law1 : WS := (wSeq (wFor (wRg1 (waCons (wC (.int 4)) waNil)) (wSt 7)
 (wSeq (wAsg (wFz (wLc [8] (wRg1 (waCons (wCall wf__law_draw (asBox 1 (asCons (wC (.int 9)) asNil))) waNil)) (wSt 8) wYes (wCall wf__law_some_deed (asBox 1 asNil)))) (wSt 2))
 w_law_t8))
 w_law_t9)
theorem told_ok {b : List Int} {e : Deed} (ho : Oct b) (h : told b = some e) : e.ok := by
  cases b with
  | nil => cases h
  | cons a r =>
    rw [told_cons] at h
    split at h
    · cases h; trivial
    · split at h
      · rename_i z
        cases h
        obtain ⟨x, rfl⟩ := List.length_eq_one_iff.mp z.1
        exact ho x (by simp)
      · split at h
        · rename_i z
          cases h
          obtain ⟨_, z1, z2, z3⟩ := z
          refine ⟨by rw [List.length_map]; exact z1, by rw [List.length_map]; exact z2, fun c hc => ?_⟩
          obtain ⟨n, hn, rfl⟩ := List.mem_map.mp hc
          have := z3 n hn
          omega
        · cases h
theorem told_body {e : Deed} (h : e.ok) : told e.body = some e := by
  cases e with
  | undo => rfl
  | move n => rfl
  | year cs =>
    show told (1 :: cs.map fun c : Nat => (c : Int)) = _
    obtain ⟨h1, h2, h3⟩ := h
    rw [told_cons, if_neg (by intro z; omega), if_neg (by intro z; omega), if_pos]
    · rw [List.map_map]
      congr 2
      have : ((fun n : Int => n.toNat) ∘ fun c : Nat => (c : Int)) = id := by funext c; simp
      rw [this, List.map_id]
    · refine ⟨rfl, by rw [List.length_map]; exact h1, by rw [List.length_map]; exact h2, fun n hn => ?_⟩
      obtain ⟨c, hc, rfl⟩ := List.mem_map.mp hn
      have := h3 c hc
      omega
theorem Runs.inv {ns : List Int} (ho : Oct ns) {p P : Nat} {es DS : List Deed} (r : Runs ns p es P DS) : p ≤ ns.length → (∀ e ∈ es, e.ok) → (∀ e ∈ DS, e.ok) ∧ DS.length + p ≤ es.length + P ∧ P ≤ ns.length := by
  induction r with
  | stop _ => exact fun hp h => ⟨h, Nat.le_refl _, hp⟩
  | go hs _ ih =>
    intro hp h
    have q := stepF_some hs
    have := ih (by omega) fun e he => by
      rcases List.mem_append.mp he with he | he
      · exact h e he
      · rw [List.mem_singleton.mp he]
        exact told_ok ((ho.drop _).take _) q.2.2.2.2.1
    refine ⟨this.1, ?_, this.2.2⟩
    have h2 := this.2.1
    rw [List.length_append, List.length_singleton] at h2
    omega
def flat (es : List Deed) : List Int := (es.map fun e => recI e.body).flatten
theorem flat_cons (e : Deed) (es : List Deed) : flat (e :: es) = recI e.body ++ flat es := rfl
theorem flat_snoc (e : Deed) (es : List Deed) : flat (es ++ [e]) = flat es ++ recI e.body := by simp [flat]
theorem flat_oct : ∀ {es : List Deed}, (∀ e ∈ es, e.ok) → Oct (flat es) ∧ (flat es).length ≤ 12 * es.length
  | [], _ => ⟨.nil, by simp [flat]⟩
  | e :: es, h => by
    obtain ⟨h1, h2⟩ := flat_oct (es := es) fun x hx => h x (List.mem_cons_of_mem _ hx)
    have hk := h e List.mem_cons_self
    have hl := Deed.body_len hk
    rw [flat_cons]
    refine ⟨Oct.append (Oct.recI (Deed.body_oct hk) (by omega)) h1, ?_⟩
    rw [List.length_append, recI_len, List.length_cons]
    omega
theorem getD_app {a b : List Int} {i : Nat} : (a ++ b).getD (a.length + i) 0 = b.getD i 0 := by
  rw [List.getD_eq_getElem?_getD, List.getElem?_append_right (by omega), List.getD_eq_getElem?_getD, show a.length + i - a.length = i by omega]
theorem stepF_rec {a r : List Int} {e : Deed} (h : e.ok) : stepF (a ++ (recI e.body ++ r)) a.length = some (e, a.length + e.body.length + 3) := by
  have g0 : (a ++ (recI e.body ++ r)).getD a.length 0 = (e.body.length : Int) := by
    have := getD_app (a := a) (b := recI e.body ++ r) (i := 0)
    rw [Nat.add_zero] at this
    rw [this]; rfl
  have gb : ((a ++ (recI e.body ++ r)).drop (a.length + 1)).take e.body.length = e.body := by
    have e1 : a ++ (recI e.body ++ r) = (a ++ [(e.body.length : Int)]) ++ (e.body ++ ([e.body.sum % 256, 170] ++ r)) := by simp [recI]
    rw [e1, List.drop_left' (by simp), List.take_left' rfl]
  have g1 : (a ++ (recI e.body ++ r)).getD (a.length + e.body.length + 1) 0 = e.body.sum % 256 := by
    have e1 : a ++ (recI e.body ++ r) = (a ++ ((e.body.length : Int) :: e.body)) ++ ([e.body.sum % 256, 170] ++ r) := by simp [recI]
    have := getD_app (a := a ++ ((e.body.length : Int) :: e.body)) (b := [e.body.sum % 256, 170] ++ r) (i := 0)
    rw [← e1] at this
    rw [List.length_append, List.length_cons] at this
    rw [show a.length + e.body.length + 1 = a.length + (e.body.length + 1) + 0 by omega, this]; rfl
  have g2 : (a ++ (recI e.body ++ r)).getD (a.length + e.body.length + 2) 0 = 170 := by
    have e1 : a ++ (recI e.body ++ r) = (a ++ ((e.body.length : Int) :: e.body)) ++ ([e.body.sum % 256, 170] ++ r) := by simp [recI]
    have := getD_app (a := a ++ ((e.body.length : Int) :: e.body)) (b := [e.body.sum % 256, 170] ++ r) (i := 1)
    rw [← e1] at this
    rw [List.length_append, List.length_cons] at this
    rw [show a.length + e.body.length + 2 = a.length + (e.body.length + 1) + 1 by omega, this]; rfl
  have ll : (a ++ (recI e.body ++ r)).length = a.length + (e.body.length + 3) + r.length := by rw [List.length_append, List.length_append, recI_len]; omega
  unfold stepF
  rw [g0, Int.toNat_natCast, if_pos ⟨by omega, by omega, g2, by rw [g1, gb]⟩, gb, told_body h]
  rfl
theorem runs_flat : ∀ (es : List Deed) (a : List Int) (ds : List Deed), (∀ e ∈ es, e.ok) → Runs (a ++ flat es) a.length ds (a ++ flat es).length (ds ++ es)
  | [], a, ds, _ => by
    simp only [flat, List.map_nil, List.flatten_nil, List.append_nil]
    exact .stop (by unfold stepF; rw [if_neg (by omega)])
  | e :: es, a, ds, h => by
    have ih := runs_flat es (a ++ recI e.body) (ds ++ [e]) fun x hx => h x (List.mem_cons_of_mem _ hx)
    rw [List.append_assoc, List.append_assoc ds, ← flat_cons] at ih
    refine .go (e := e) (q := (a ++ recI e.body).length) ?_ ih
    rw [flat_cons, stepF_rec (h e List.mem_cons_self), List.length_append, recI_len, Nat.add_assoc]
theorem Oct.sm {ns : List Int} (h : Oct ns) : Shw (.lst (ns.map D.int)) ∨ 10000 < ns.length := by
  rcases Nat.lt_or_ge 10000 ns.length with z | z
  · exact .inr z
  · refine .inl (.of ?_ ?_ ?_)
    · simp only [smD]
      refine smDL_of fun d hd => ?_
      obtain ⟨n, hn, rfl⟩ := List.mem_map.mp hd
      have := h n hn
      simp only [smD, Bool.and_eq_true, decide_eq_true_eq]; omega
    · simp only [depD]
      have := depDL_of (ds := ns.map D.int) (B := 0) fun d hd => by
        obtain ⟨n, _, rfl⟩ := List.mem_map.mp hd
        simp only [depD]; omega
      omega
    · simp only [szD]
      have := szDL_of (ds := ns.map D.int) (B := 41) fun d hd => by
        obtain ⟨n, _, rfl⟩ := List.mem_map.mp hd
        simp only [szD]; omega
      rw [List.length_map] at this
      omega
theorem Oct.shw {ns : List Int} (h : Oct ns) (hl : ns.length ≤ 10000) : Shw (.lst (ns.map D.int)) := by
  rcases h.sm with z | z
  · exact z
  · omega
theorem dd_sm {e : Deed} (h : e.ok) : smD e.dd = true ∧ depD e.dd ≤ 1 ∧ szD e.dd ≤ 100 := by
  cases e with
  | undo => exact ⟨by decide +kernel, by decide +kernel, by decide +kernel⟩
  | move n =>
    have h : 0 ≤ n ∧ n < 256 := h
    have s : PyData.strOk "move" = true := by decide +kernel
    refine ⟨?_, by simp only [Deed.dd, depD, depDL]; omega, ?_⟩
    · simp only [Deed.dd, smD, smDL, s, Bool.and_true, Bool.true_and, Bool.and_eq_true, decide_eq_true_eq]; omega
    · have s2 : (Str.cps "move").size = 4 := by decide +kernel
      simp only [Deed.dd, szD, szDL, s2]; omega
  | year cs =>
    obtain ⟨h1, h2, h3⟩ := h
    have s : PyData.strOk "year" = true := by decide +kernel
    refine ⟨?_, by simp only [Deed.dd, depD, depDL]; omega, ?_⟩
    · simp only [Deed.dd, smD, smDL, s, Bool.and_true, Bool.true_and]
      exact strOk_small fun c hc => by have := h3 c hc; omega
    · have s2 : (Str.cps "year").size = 4 := by decide +kernel
      simp only [Deed.dd, szD, szDL, s2, List.size_toArray]; omega
theorem shw_read {P : Nat} {DS : List Deed} (h : ∀ e ∈ DS, e.ok) (hl : DS.length ≤ 1000) (hP : P ≤ 10000) : Shw (readD P DS) := by
  refine .of ?_ ?_ ?_
  · have : smDL (DS.map Deed.dd) = true := smDL_of fun d hd => by
      obtain ⟨e, he, rfl⟩ := List.mem_map.mp hd
      exact (dd_sm (h e he)).1
    simp only [readD, smD, smDL, this, Bool.and_true, Bool.true_and, Bool.and_eq_true, decide_eq_true_eq]; omega
  · have := depDL_of (ds := DS.map Deed.dd) (B := 1) fun d hd => by
      obtain ⟨e, he, rfl⟩ := List.mem_map.mp hd
      exact (dd_sm (h e he)).2.1
    simp only [readD, depD, depDL]; omega
  · have := szDL_of (ds := DS.map Deed.dd) (B := 100) fun d hd => by
      obtain ⟨e, he, rfl⟩ := List.mem_map.mp hd
      exact (dd_sm (h e he)).2.2
    rw [List.length_map] at this
    simp only [readD, szD, szDL]; omega
theorem p_law0 : ∀ ns : List Int, w_law0 (scrD ns :: List.replicate 8 .no) fun d ρ => ρ = scrD ns :: List.replicate 8 .no ∧ ∃ ms : List Int, d = .lst [.lst (ms.map D.int), .int 0] :=
  fun ns => ⟨⟨ns, rfl⟩, by decide, by decide, by decide, fun ms => ⟨rfl, ms, rfl⟩⟩
theorem deeds_of : ∀ {ds : List D}, (∀ d ∈ ds, ∃ e : Deed, d = e.dd ∧ e.ok) → ∃ es : List Deed, ds = es.map Deed.dd ∧ (∀ e ∈ es, e.ok) ∧ es.length = ds.length
  | [], _ => ⟨[], rfl, (fun n hn => by cases hn), rfl⟩
  | d :: ds, h => by
    obtain ⟨i, rfl, hi⟩ := h d List.mem_cons_self
    obtain ⟨ns, rfl, h2, h3⟩ := deeds_of (ds := ds) fun x hx => h x (List.mem_cons_of_mem _ hx)
    refine ⟨i :: ns, rfl, fun n hn => ?_, by simp⟩
    rcases List.mem_cons.mp hn with rfl | hn
    · exact hi
    · exact h2 n hn
theorem p_law1 : ∀ ns : List Int, w_law1 ((scrD ns :: List.replicate 8 .no).set 1 .bx) { nx := fun _ => False, rt := fun d => d = .bl true } := fun ns => by
  show w_law1 [scrD ns, .bx, .no, .no, .no, .no, .no, .no, .no] _
  generalize scrD ns = s0
  simp only [w_law1, ↓wSeq_e, ↓wNext_e, ↓wBreak_e, ↓wCont_e, ↓wRet_e, ↓wRetN_e, ↓wDrop_e, ↓wIf_e, ↓wAnd_e, ↓wOr_e, ↓wNot_e, ↓wTst_e, ↓wAndV_e, ↓wOrV_e, ↓wNotV_e, ↓wIfE_e, ↓wChain_e, ↓wVar_e, ↓wPk_e, ↓wC_e, ↓wOp_e, ↓wUn_e, ↓wM1_e, ↓wTup_e, ↓wfLst_e, ↓wFz_e, ↓waNil_e, ↓waCons_e, ↓asNil_e, ↓asCons_e, ↓asBox_e, ↓wCall_e, ↓wAsg_e, ↓wSt_e, ↓wAsgO_e, ↓wTp_e, ↓wStL_nil, ↓wStL_cons, ↓wFor_e, ↓wRg1_e, ↓wRg2_e, ↓wItL_e, ↓wItT_e, ↓wItS_e, ↓wApp_e, ↓woNone_e, ↓woSome_e, ↓wCut_e, ↓wBx1_e, ↓wBx0_e, ↓wBxPut_e, ↓wDraw_e, ↓wTru_e, ↓wLc_e, ↓wYes_e, ↓wAug_e, dLt, dLe, dGt, dGe, dSub, dMul, dMod, dFdiv, dPow, dI2, dI2C, dAdd, dEq, dNe, dLen, dInt, dIx_l, dIx_t, dIx_s, dList, dSum, dCut, atI_zero, atI_one, Option.some.injEq, dTru, dMax2, dMin2, dIs, dNotIs, obD, id_eq, List.getElem?_cons_zero, List.getElem?_cons_succ, List.set_cons_zero, List.set_cons_succ, List.length_cons, List.length_nil, D.bl.injEq, exists_eq_left', decide_eq_true_eq, decide_eq_false_iff_not, Bool.not_eq_true', Bool.not_eq_false', Nat.zero_add, Nat.reduceAdd, true_and, and_true, forall_const, reduceCtorEq, not_true_eq_false, not_false_eq_true, false_implies, true_implies, implies_true, sz_line, Nat.reduceLeDiff, Int.reduceLE, Int.reduceLT, Int.reduceNeg, Int.reducePow, Int.reduceAdd, Int.reduceSub, Int.reduceMul]
  refine wForL_rule (fun _ ρ => ∃ s2 s3 s4 s5 s6 s7, ρ = [s0, .bx, s2, s3, s4, s5, s6, s7, .no]) ?_ ?_ _ _ ⟨_, _, _, _, _, _, rfl⟩
  · rintro d r ρ ⟨s2, s3, s4, s5, s6, s7, rfl⟩ C hC
    simp only [↓wSeq_e, ↓wNext_e, ↓wBreak_e, ↓wCont_e, ↓wRet_e, ↓wRetN_e, ↓wDrop_e, ↓wIf_e, ↓wAnd_e, ↓wOr_e, ↓wNot_e, ↓wTst_e, ↓wAndV_e, ↓wOrV_e, ↓wNotV_e, ↓wIfE_e, ↓wChain_e, ↓wVar_e, ↓wPk_e, ↓wC_e, ↓wOp_e, ↓wUn_e, ↓wM1_e, ↓wTup_e, ↓wfLst_e, ↓wFz_e, ↓waNil_e, ↓waCons_e, ↓asNil_e, ↓asCons_e, ↓asBox_e, ↓wCall_e, ↓wAsg_e, ↓wSt_e, ↓wAsgO_e, ↓wTp_e, ↓wStL_nil, ↓wStL_cons, ↓wFor_e, ↓wRg1_e, ↓wRg2_e, ↓wItL_e, ↓wItT_e, ↓wItS_e, ↓wApp_e, ↓woNone_e, ↓woSome_e, ↓wCut_e, ↓wBx1_e, ↓wBx0_e, ↓wBxPut_e, ↓wDraw_e, ↓wTru_e, ↓wLc_e, ↓wYes_e, ↓wAug_e, dLt, dLe, dGt, dGe, dSub, dMul, dMod, dFdiv, dPow, dI2, dI2C, dAdd, dEq, dNe, dLen, dInt, dIx_l, dIx_t, dIx_s, dList, dSum, dCut, atI_zero, atI_one, Option.some.injEq, dTru, dMax2, dMin2, dIs, dNotIs, obD, id_eq, List.getElem?_cons_zero, List.getElem?_cons_succ, List.set_cons_zero, List.set_cons_succ, List.length_cons, List.length_nil, D.bl.injEq, exists_eq_left', decide_eq_true_eq, decide_eq_false_iff_not, Bool.not_eq_true', Bool.not_eq_false', Nat.zero_add, Nat.reduceAdd, true_and, and_true, forall_const, reduceCtorEq, not_true_eq_false, not_false_eq_true, false_implies, true_implies, implies_true, sz_line, Nat.reduceLeDiff, Int.reduceLE, Int.reduceLT, Int.reduceNeg, Int.reducePow, Int.reduceAdd, Int.reduceSub, Int.reduceMul, wf__law_draw]
    intro k k0 k1
    refine ⟨by omega, by rw [rangeD_length]; omega, rfl, ?_⟩
    refine wLcL_rule (ρ := [s0, .bx, s2, s3, s4, s5, s6, .sh d, .no]) (fun d => True) (fun _ o => ∃ y, o = some y ∧ ∃ e : Deed, y = e.dd ∧ e.ok) ?_ _ _ _ (fun _ _ => trivial) ?_
    · rintro x _ Kt Kf ht hf
      simp only [↓wSeq_e, ↓wNext_e, ↓wBreak_e, ↓wCont_e, ↓wRet_e, ↓wRetN_e, ↓wDrop_e, ↓wIf_e, ↓wAnd_e, ↓wOr_e, ↓wNot_e, ↓wTst_e, ↓wAndV_e, ↓wOrV_e, ↓wNotV_e, ↓wIfE_e, ↓wChain_e, ↓wVar_e, ↓wPk_e, ↓wC_e, ↓wOp_e, ↓wUn_e, ↓wM1_e, ↓wTup_e, ↓wfLst_e, ↓wFz_e, ↓waNil_e, ↓waCons_e, ↓asNil_e, ↓asCons_e, ↓asBox_e, ↓wCall_e, ↓wAsg_e, ↓wSt_e, ↓wAsgO_e, ↓wTp_e, ↓wStL_nil, ↓wStL_cons, ↓wFor_e, ↓wRg1_e, ↓wRg2_e, ↓wItL_e, ↓wItT_e, ↓wItS_e, ↓wApp_e, ↓woNone_e, ↓woSome_e, ↓wCut_e, ↓wBx1_e, ↓wBx0_e, ↓wBxPut_e, ↓wDraw_e, ↓wTru_e, ↓wLc_e, ↓wYes_e, ↓wAug_e, dLt, dLe, dGt, dGe, dSub, dMul, dMod, dFdiv, dPow, dI2, dI2C, dAdd, dEq, dNe, dLen, dInt, dIx_l, dIx_t, dIx_s, dList, dSum, dCut, atI_zero, atI_one, Option.some.injEq, dTru, dMax2, dMin2, dIs, dNotIs, obD, id_eq, List.getElem?_cons_zero, List.getElem?_cons_succ, List.set_cons_zero, List.set_cons_succ, List.length_cons, List.length_nil, D.bl.injEq, exists_eq_left', decide_eq_true_eq, decide_eq_false_iff_not, Bool.not_eq_true', Bool.not_eq_false', Nat.zero_add, Nat.reduceAdd, true_and, and_true, forall_const, reduceCtorEq, not_true_eq_false, not_false_eq_true, false_implies, true_implies, implies_true, sz_line, Nat.reduceLeDiff, Int.reduceLE, Int.reduceLT, Int.reduceNeg, Int.reducePow, Int.reduceAdd, Int.reduceSub, Int.reduceMul, wipeD, List.reverse_cons, List.reverse_nil, List.nil_append, noOwnB, List.all_cons, List.all_nil, Bool.and_true, Bool.true_and, wf__law_some_deed]
      intro e he
      exact ht _ ⟨_, rfl, e, rfl, he⟩
    · intro ys hy
      obtain ⟨y1, y2⟩ := hy.all
      obtain ⟨es, rfl, ok, y3⟩ := deeds_of y2
      have hlen : es.length ≤ 8 := by rw [y3, y1, rangeD_length]; omega
      obtain ⟨fo, fl⟩ := flat_oct ok
      rw [List.nil_append]
      simp only [↓wSeq_e, ↓wNext_e, ↓wBreak_e, ↓wCont_e, ↓wRet_e, ↓wRetN_e, ↓wDrop_e, ↓wIf_e, ↓wAnd_e, ↓wOr_e, ↓wNot_e, ↓wTst_e, ↓wAndV_e, ↓wOrV_e, ↓wNotV_e, ↓wIfE_e, ↓wChain_e, ↓wVar_e, ↓wPk_e, ↓wC_e, ↓wOp_e, ↓wUn_e, ↓wM1_e, ↓wTup_e, ↓wfLst_e, ↓wFz_e, ↓waNil_e, ↓waCons_e, ↓asNil_e, ↓asCons_e, ↓asBox_e, ↓wCall_e, ↓wAsg_e, ↓wSt_e, ↓wAsgO_e, ↓wTp_e, ↓wStL_nil, ↓wStL_cons, ↓wFor_e, ↓wRg1_e, ↓wRg2_e, ↓wItL_e, ↓wItT_e, ↓wItS_e, ↓wApp_e, ↓woNone_e, ↓woSome_e, ↓wCut_e, ↓wBx1_e, ↓wBx0_e, ↓wBxPut_e, ↓wDraw_e, ↓wTru_e, ↓wLc_e, ↓wYes_e, ↓wAug_e, dLt, dLe, dGt, dGe, dSub, dMul, dMod, dFdiv, dPow, dI2, dI2C, dAdd, dEq, dNe, dLen, dInt, dIx_l, dIx_t, dIx_s, dList, dSum, dCut, atI_zero, atI_one, Option.some.injEq, dTru, dMax2, dMin2, dIs, dNotIs, obD, id_eq, List.getElem?_cons_zero, List.getElem?_cons_succ, List.set_cons_zero, List.set_cons_succ, List.length_cons, List.length_nil, D.bl.injEq, exists_eq_left', decide_eq_true_eq, decide_eq_false_iff_not, Bool.not_eq_true', Bool.not_eq_false', Nat.zero_add, Nat.reduceAdd, true_and, and_true, forall_const, reduceCtorEq, not_true_eq_false, not_false_eq_true, false_implies, true_implies, implies_true, sz_line, Nat.reduceLeDiff, Int.reduceLE, Int.reduceLT, Int.reduceNeg, Int.reducePow, Int.reduceAdd, Int.reduceSub, Int.reduceMul, wipeD, List.reverse_cons, List.reverse_nil, List.nil_append, noOwnB, List.all_cons, List.all_nil, Bool.and_true, Bool.true_and, w_law_t8, w_law_t7]
      refine wForL_rule (fun r ρ => ∃ (dn rs : List Deed) (s4 : Sl), r = rs.map Deed.dd ∧ dn ++ rs = es ∧ ρ = [s0, .bx, .sh (.lst (es.map Deed.dd)), .sh (.lst ((flat dn).map D.int)), s4, s5, s6, .sh d, .no]) ?_ ?_ _ _ ⟨[], es, _, rfl, rfl, rfl⟩
      · rintro x r ρ ⟨dn, rs, s4, hr, he, rfl⟩ C2 hC2
        cases rs with
        | nil => cases hr
        | cons e rs =>
          cases hr
          have oke : e.ok := ok e (by rw [← he]; simp)
          have dnl : (flat dn).length ≤ 96 := by
            have := (flat_oct (es := dn) fun y hy => ok y (by rw [← he]; simp [hy])).2
            have hd : dn.length ≤ es.length := by rw [← he, List.length_append]; omega
            omega
          have bl := Deed.body_len oke
          simp only [↓wSeq_e, ↓wNext_e, ↓wBreak_e, ↓wCont_e, ↓wRet_e, ↓wRetN_e, ↓wDrop_e, ↓wIf_e, ↓wAnd_e, ↓wOr_e, ↓wNot_e, ↓wTst_e, ↓wAndV_e, ↓wOrV_e, ↓wNotV_e, ↓wIfE_e, ↓wChain_e, ↓wVar_e, ↓wPk_e, ↓wC_e, ↓wOp_e, ↓wUn_e, ↓wM1_e, ↓wTup_e, ↓wfLst_e, ↓wFz_e, ↓waNil_e, ↓waCons_e, ↓asNil_e, ↓asCons_e, ↓asBox_e, ↓wCall_e, ↓wAsg_e, ↓wSt_e, ↓wAsgO_e, ↓wTp_e, ↓wStL_nil, ↓wStL_cons, ↓wFor_e, ↓wRg1_e, ↓wRg2_e, ↓wItL_e, ↓wItT_e, ↓wItS_e, ↓wApp_e, ↓woNone_e, ↓woSome_e, ↓wCut_e, ↓wBx1_e, ↓wBx0_e, ↓wBxPut_e, ↓wDraw_e, ↓wTru_e, ↓wLc_e, ↓wYes_e, ↓wAug_e, dLt, dLe, dGt, dGe, dSub, dMul, dMod, dFdiv, dPow, dI2, dI2C, dAdd, dEq, dNe, dLen, dInt, dIx_l, dIx_t, dIx_s, dList, dSum, dCut, atI_zero, atI_one, Option.some.injEq, dTru, dMax2, dMin2, dIs, dNotIs, obD, id_eq, List.getElem?_cons_zero, List.getElem?_cons_succ, List.set_cons_zero, List.set_cons_succ, List.length_cons, List.length_nil, D.bl.injEq, exists_eq_left', decide_eq_true_eq, decide_eq_false_iff_not, Bool.not_eq_true', Bool.not_eq_false', Nat.zero_add, Nat.reduceAdd, true_and, and_true, forall_const, reduceCtorEq, not_true_eq_false, not_false_eq_true, false_implies, true_implies, implies_true, sz_line, Nat.reduceLeDiff, Int.reduceLE, Int.reduceLT, Int.reduceNeg, Int.reducePow, Int.reduceAdd, Int.reduceSub, Int.reduceMul, wf_record_of, wf__law_record, wf__law_same]
          refine ⟨e, oke, rfl, e, oke, rfl, rfl, Oct.shw (Oct.recI (Deed.body_oct oke) (by omega)) (by rw [recI_len]; omega), ?_⟩
          simp only [w_law_t5, ↓wSeq_e, ↓wNext_e, ↓wBreak_e, ↓wCont_e, ↓wRet_e, ↓wRetN_e, ↓wDrop_e, ↓wIf_e, ↓wAnd_e, ↓wOr_e, ↓wNot_e, ↓wTst_e, ↓wAndV_e, ↓wOrV_e, ↓wNotV_e, ↓wIfE_e, ↓wChain_e, ↓wVar_e, ↓wPk_e, ↓wC_e, ↓wOp_e, ↓wUn_e, ↓wM1_e, ↓wTup_e, ↓wfLst_e, ↓wFz_e, ↓waNil_e, ↓waCons_e, ↓asNil_e, ↓asCons_e, ↓asBox_e, ↓wCall_e, ↓wAsg_e, ↓wSt_e, ↓wAsgO_e, ↓wTp_e, ↓wStL_nil, ↓wStL_cons, ↓wFor_e, ↓wRg1_e, ↓wRg2_e, ↓wItL_e, ↓wItT_e, ↓wItS_e, ↓wApp_e, ↓woNone_e, ↓woSome_e, ↓wCut_e, ↓wBx1_e, ↓wBx0_e, ↓wBxPut_e, ↓wDraw_e, ↓wTru_e, ↓wLc_e, ↓wYes_e, ↓wAug_e, dLt, dLe, dGt, dGe, dSub, dMul, dMod, dFdiv, dPow, dI2, dI2C, dAdd, dEq, dNe, dLen, dInt, dIx_l, dIx_t, dIx_s, dList, dSum, dCut, atI_zero, atI_one, Option.some.injEq, dTru, dMax2, dMin2, dIs, dNotIs, obD, id_eq, List.getElem?_cons_zero, List.getElem?_cons_succ, List.set_cons_zero, List.set_cons_succ, List.length_cons, List.length_nil, D.bl.injEq, exists_eq_left', decide_eq_true_eq, decide_eq_false_iff_not, Bool.not_eq_true', Bool.not_eq_false', Nat.zero_add, Nat.reduceAdd, true_and, and_true, forall_const, reduceCtorEq, not_true_eq_false, not_false_eq_true, false_implies, true_implies, implies_true, sz_line, Nat.reduceLeDiff, Int.reduceLE, Int.reduceLT, Int.reduceNeg, Int.reducePow, Int.reduceAdd, Int.reduceSub, Int.reduceMul, wf__law_record]
          refine ⟨e, oke, rfl, by rw [List.length_map, List.length_map, recI_len]; omega, ?_⟩
          rw [← List.map_append, ← flat_snoc]
          exact hC2 _ ⟨dn ++ [e], rs, _, rfl, by rw [← he]; simp, rfl⟩
      · rintro ρ ⟨dn, rs, s4, hr, he, rfl⟩
        have hrs : rs = [] := List.map_eq_nil_iff.mp hr.symm
        subst hrs
        rw [List.append_nil] at he
        subst he
        simp only [w_law_t6, ↓wSeq_e, ↓wNext_e, ↓wBreak_e, ↓wCont_e, ↓wRet_e, ↓wRetN_e, ↓wDrop_e, ↓wIf_e, ↓wAnd_e, ↓wOr_e, ↓wNot_e, ↓wTst_e, ↓wAndV_e, ↓wOrV_e, ↓wNotV_e, ↓wIfE_e, ↓wChain_e, ↓wVar_e, ↓wPk_e, ↓wC_e, ↓wOp_e, ↓wUn_e, ↓wM1_e, ↓wTup_e, ↓wfLst_e, ↓wFz_e, ↓waNil_e, ↓waCons_e, ↓asNil_e, ↓asCons_e, ↓asBox_e, ↓wCall_e, ↓wAsg_e, ↓wSt_e, ↓wAsgO_e, ↓wTp_e, ↓wStL_nil, ↓wStL_cons, ↓wFor_e, ↓wRg1_e, ↓wRg2_e, ↓wItL_e, ↓wItT_e, ↓wItS_e, ↓wApp_e, ↓woNone_e, ↓woSome_e, ↓wCut_e, ↓wBx1_e, ↓wBx0_e, ↓wBxPut_e, ↓wDraw_e, ↓wTru_e, ↓wLc_e, ↓wYes_e, ↓wAug_e, dLt, dLe, dGt, dGe, dSub, dMul, dMod, dFdiv, dPow, dI2, dI2C, dAdd, dEq, dNe, dLen, dInt, dIx_l, dIx_t, dIx_s, dList, dSum, dCut, atI_zero, atI_one, Option.some.injEq, dTru, dMax2, dMin2, dIs, dNotIs, obD, id_eq, List.getElem?_cons_zero, List.getElem?_cons_succ, List.set_cons_zero, List.set_cons_succ, List.length_cons, List.length_nil, D.bl.injEq, exists_eq_left', decide_eq_true_eq, decide_eq_false_iff_not, Bool.not_eq_true', Bool.not_eq_false', Nat.zero_add, Nat.reduceAdd, true_and, and_true, forall_const, reduceCtorEq, not_true_eq_false, not_false_eq_true, false_implies, true_implies, implies_true, sz_line, Nat.reduceLeDiff, Int.reduceLE, Int.reduceLT, Int.reduceNeg, Int.reducePow, Int.reduceAdd, Int.reduceSub, Int.reduceMul, wf_recovered, wf__law_same, List.length_map]
        have rf := runs_flat dn [] [] ok
        simp only [List.nil_append, List.length_nil] at rf
        refine ⟨flat dn, _, _, rfl, fo, by omega, rf, rfl, shw_read ok (by omega) (by omega), ?_⟩
        simp only [w_law_t4, ↓wSeq_e, ↓wNext_e, ↓wBreak_e, ↓wCont_e, ↓wRet_e, ↓wRetN_e, ↓wDrop_e, ↓wIf_e, ↓wAnd_e, ↓wOr_e, ↓wNot_e, ↓wTst_e, ↓wAndV_e, ↓wOrV_e, ↓wNotV_e, ↓wIfE_e, ↓wChain_e, ↓wVar_e, ↓wPk_e, ↓wC_e, ↓wOp_e, ↓wUn_e, ↓wM1_e, ↓wTup_e, ↓wfLst_e, ↓wFz_e, ↓waNil_e, ↓waCons_e, ↓asNil_e, ↓asCons_e, ↓asBox_e, ↓wCall_e, ↓wAsg_e, ↓wSt_e, ↓wAsgO_e, ↓wTp_e, ↓wStL_nil, ↓wStL_cons, ↓wFor_e, ↓wRg1_e, ↓wRg2_e, ↓wItL_e, ↓wItT_e, ↓wItS_e, ↓wApp_e, ↓woNone_e, ↓woSome_e, ↓wCut_e, ↓wBx1_e, ↓wBx0_e, ↓wBxPut_e, ↓wDraw_e, ↓wTru_e, ↓wLc_e, ↓wYes_e, ↓wAug_e, dLt, dLe, dGt, dGe, dSub, dMul, dMod, dFdiv, dPow, dI2, dI2C, dAdd, dEq, dNe, dLen, dInt, dIx_l, dIx_t, dIx_s, dList, dSum, dCut, atI_zero, atI_one, Option.some.injEq, dTru, dMax2, dMin2, dIs, dNotIs, obD, id_eq, List.getElem?_cons_zero, List.getElem?_cons_succ, List.set_cons_zero, List.set_cons_succ, List.length_cons, List.length_nil, D.bl.injEq, exists_eq_left', decide_eq_true_eq, decide_eq_false_iff_not, Bool.not_eq_true', Bool.not_eq_false', Nat.zero_add, Nat.reduceAdd, true_and, and_true, forall_const, reduceCtorEq, not_true_eq_false, not_false_eq_true, false_implies, true_implies, implies_true, sz_line, Nat.reduceLeDiff, Int.reduceLE, Int.reduceLT, Int.reduceNeg, Int.reducePow, Int.reduceAdd, Int.reduceSub, Int.reduceMul]
        refine wForL_rule (fun r ρ => ∃ (oc : List Int) (s5 s6 : Sl), ρ = [s0, .bx, .sh (.lst (dn.map Deed.dd)), .sh (.lst (oc.map D.int)), s4, s5, s6, .sh d, .no] ∧ Oct oc ∧ oc.length + 30 * r.length ≤ 300) ?_ ?_ _ _ ⟨flat dn, _, _, rfl, fo, by rw [rangeD_length]; omega⟩
        · rintro x r ρ ⟨oc, s5, s6, rfl, oo, ol⟩ C2 hC2
          rw [List.length_cons] at ol
          simp only [↓wSeq_e, ↓wNext_e, ↓wBreak_e, ↓wCont_e, ↓wRet_e, ↓wRetN_e, ↓wDrop_e, ↓wIf_e, ↓wAnd_e, ↓wOr_e, ↓wNot_e, ↓wTst_e, ↓wAndV_e, ↓wOrV_e, ↓wNotV_e, ↓wIfE_e, ↓wChain_e, ↓wVar_e, ↓wPk_e, ↓wC_e, ↓wOp_e, ↓wUn_e, ↓wM1_e, ↓wTup_e, ↓wfLst_e, ↓wFz_e, ↓waNil_e, ↓waCons_e, ↓asNil_e, ↓asCons_e, ↓asBox_e, ↓wCall_e, ↓wAsg_e, ↓wSt_e, ↓wAsgO_e, ↓wTp_e, ↓wStL_nil, ↓wStL_cons, ↓wFor_e, ↓wRg1_e, ↓wRg2_e, ↓wItL_e, ↓wItT_e, ↓wItS_e, ↓wApp_e, ↓woNone_e, ↓woSome_e, ↓wCut_e, ↓wBx1_e, ↓wBx0_e, ↓wBxPut_e, ↓wDraw_e, ↓wTru_e, ↓wLc_e, ↓wYes_e, ↓wAug_e, dLt, dLe, dGt, dGe, dSub, dMul, dMod, dFdiv, dPow, dI2, dI2C, dAdd, dEq, dNe, dLen, dInt, dIx_l, dIx_t, dIx_s, dList, dSum, dCut, atI_zero, atI_one, Option.some.injEq, dTru, dMax2, dMin2, dIs, dNotIs, obD, id_eq, List.getElem?_cons_zero, List.getElem?_cons_succ, List.set_cons_zero, List.set_cons_succ, List.length_cons, List.length_nil, D.bl.injEq, exists_eq_left', decide_eq_true_eq, decide_eq_false_iff_not, Bool.not_eq_true', Bool.not_eq_false', Nat.zero_add, Nat.reduceAdd, true_and, and_true, forall_const, reduceCtorEq, not_true_eq_false, not_false_eq_true, false_implies, true_implies, implies_true, sz_line, Nat.reduceLeDiff, Int.reduceLE, Int.reduceLT, Int.reduceNeg, Int.reducePow, Int.reduceAdd, Int.reduceSub, Int.reduceMul, wf__law_spoilt]
          refine ⟨oc, rfl, oo, by omega, fun ms mo ml => ?_⟩
          simp only [w_law_t3, ↓wSeq_e, ↓wNext_e, ↓wBreak_e, ↓wCont_e, ↓wRet_e, ↓wRetN_e, ↓wDrop_e, ↓wIf_e, ↓wAnd_e, ↓wOr_e, ↓wNot_e, ↓wTst_e, ↓wAndV_e, ↓wOrV_e, ↓wNotV_e, ↓wIfE_e, ↓wChain_e, ↓wVar_e, ↓wPk_e, ↓wC_e, ↓wOp_e, ↓wUn_e, ↓wM1_e, ↓wTup_e, ↓wfLst_e, ↓wFz_e, ↓waNil_e, ↓waCons_e, ↓asNil_e, ↓asCons_e, ↓asBox_e, ↓wCall_e, ↓wAsg_e, ↓wSt_e, ↓wAsgO_e, ↓wTp_e, ↓wStL_nil, ↓wStL_cons, ↓wFor_e, ↓wRg1_e, ↓wRg2_e, ↓wItL_e, ↓wItT_e, ↓wItS_e, ↓wApp_e, ↓woNone_e, ↓woSome_e, ↓wCut_e, ↓wBx1_e, ↓wBx0_e, ↓wBxPut_e, ↓wDraw_e, ↓wTru_e, ↓wLc_e, ↓wYes_e, ↓wAug_e, dLt, dLe, dGt, dGe, dSub, dMul, dMod, dFdiv, dPow, dI2, dI2C, dAdd, dEq, dNe, dLen, dInt, dIx_l, dIx_t, dIx_s, dList, dSum, dCut, atI_zero, atI_one, Option.some.injEq, dTru, dMax2, dMin2, dIs, dNotIs, obD, id_eq, List.getElem?_cons_zero, List.getElem?_cons_succ, List.set_cons_zero, List.set_cons_succ, List.length_cons, List.length_nil, D.bl.injEq, exists_eq_left', decide_eq_true_eq, decide_eq_false_iff_not, Bool.not_eq_true', Bool.not_eq_false', Nat.zero_add, Nat.reduceAdd, true_and, and_true, forall_const, reduceCtorEq, not_true_eq_false, not_false_eq_true, false_implies, true_implies, implies_true, sz_line, Nat.reduceLeDiff, Int.reduceLE, Int.reduceLT, Int.reduceNeg, Int.reducePow, Int.reduceAdd, Int.reduceSub, Int.reduceMul]
          simp only [w_law_t2, ↓wSeq_e, ↓wNext_e, ↓wBreak_e, ↓wCont_e, ↓wRet_e, ↓wRetN_e, ↓wDrop_e, ↓wIf_e, ↓wAnd_e, ↓wOr_e, ↓wNot_e, ↓wTst_e, ↓wAndV_e, ↓wOrV_e, ↓wNotV_e, ↓wIfE_e, ↓wChain_e, ↓wVar_e, ↓wPk_e, ↓wC_e, ↓wOp_e, ↓wUn_e, ↓wM1_e, ↓wTup_e, ↓wfLst_e, ↓wFz_e, ↓waNil_e, ↓waCons_e, ↓asNil_e, ↓asCons_e, ↓asBox_e, ↓wCall_e, ↓wAsg_e, ↓wSt_e, ↓wAsgO_e, ↓wTp_e, ↓wStL_nil, ↓wStL_cons, ↓wFor_e, ↓wRg1_e, ↓wRg2_e, ↓wItL_e, ↓wItT_e, ↓wItS_e, ↓wApp_e, ↓woNone_e, ↓woSome_e, ↓wCut_e, ↓wBx1_e, ↓wBx0_e, ↓wBxPut_e, ↓wDraw_e, ↓wTru_e, ↓wLc_e, ↓wYes_e, ↓wAug_e, dLt, dLe, dGt, dGe, dSub, dMul, dMod, dFdiv, dPow, dI2, dI2C, dAdd, dEq, dNe, dLen, dInt, dIx_l, dIx_t, dIx_s, dList, dSum, dCut, atI_zero, atI_one, Option.some.injEq, dTru, dMax2, dMin2, dIs, dNotIs, obD, id_eq, List.getElem?_cons_zero, List.getElem?_cons_succ, List.set_cons_zero, List.set_cons_succ, List.length_cons, List.length_nil, D.bl.injEq, exists_eq_left', decide_eq_true_eq, decide_eq_false_iff_not, Bool.not_eq_true', Bool.not_eq_false', Nat.zero_add, Nat.reduceAdd, true_and, and_true, forall_const, reduceCtorEq, not_true_eq_false, not_false_eq_true, false_implies, true_implies, implies_true, sz_line, Nat.reduceLeDiff, Int.reduceLE, Int.reduceLT, Int.reduceNeg, Int.reducePow, Int.reduceAdd, Int.reduceSub, Int.reduceMul, wf_recovered, wf__law_read, wf__law_same]
          obtain ⟨P, DS, rr⟩ := Runs.total ms ms.length 0 [] (by omega)
          obtain ⟨i1, i2, i3⟩ := rr.inv mo (Nat.zero_le _) (fun e he => by cases he)
          rw [List.length_nil] at i2
          refine ⟨ms, P, DS, rfl, mo, by omega, rr, ms, P, DS, rfl, mo, by omega, rr, rfl, shw_read i1 (by omega) (by omega), ?_⟩
          refine dEqB_ints ?_
          simp only [↓wSeq_e, ↓wNext_e, ↓wBreak_e, ↓wCont_e, ↓wRet_e, ↓wRetN_e, ↓wDrop_e, ↓wIf_e, ↓wAnd_e, ↓wOr_e, ↓wNot_e, ↓wTst_e, ↓wAndV_e, ↓wOrV_e, ↓wNotV_e, ↓wIfE_e, ↓wChain_e, ↓wVar_e, ↓wPk_e, ↓wC_e, ↓wOp_e, ↓wUn_e, ↓wM1_e, ↓wTup_e, ↓wfLst_e, ↓wFz_e, ↓waNil_e, ↓waCons_e, ↓asNil_e, ↓asCons_e, ↓asBox_e, ↓wCall_e, ↓wAsg_e, ↓wSt_e, ↓wAsgO_e, ↓wTp_e, ↓wStL_nil, ↓wStL_cons, ↓wFor_e, ↓wRg1_e, ↓wRg2_e, ↓wItL_e, ↓wItT_e, ↓wItS_e, ↓wApp_e, ↓woNone_e, ↓woSome_e, ↓wCut_e, ↓wBx1_e, ↓wBx0_e, ↓wBxPut_e, ↓wDraw_e, ↓wTru_e, ↓wLc_e, ↓wYes_e, ↓wAug_e, dLt, dLe, dGt, dGe, dSub, dMul, dMod, dFdiv, dPow, dI2, dI2C, dAdd, dEq, dNe, dLen, dInt, dIx_l, dIx_t, dIx_s, dList, dSum, dCut, atI_zero, atI_one, Option.some.injEq, dTru, dMax2, dMin2, dIs, dNotIs, obD, id_eq, List.getElem?_cons_zero, List.getElem?_cons_succ, List.set_cons_zero, List.set_cons_succ, List.length_cons, List.length_nil, D.bl.injEq, exists_eq_left', decide_eq_true_eq, decide_eq_false_iff_not, Bool.not_eq_true', Bool.not_eq_false', Nat.zero_add, Nat.reduceAdd, true_and, and_true, forall_const, reduceCtorEq, not_true_eq_false, not_false_eq_true, false_implies, true_implies, implies_true, sz_line, Nat.reduceLeDiff, Int.reduceLE, Int.reduceLT, Int.reduceNeg, Int.reducePow, Int.reduceAdd, Int.reduceSub, Int.reduceMul, w_law_t1, wf__law_some_deed, wf__law_record, decide_true, Bool.not_true]
          intro e he
          have bl := Deed.body_len he
          refine ⟨e, he, rfl, by rw [List.length_map, List.length_map, recI_len]; omega, ?_⟩
          rw [← List.map_append]
          exact hC2 _ ⟨ms ++ recI e.body, _, _, rfl, Oct.append mo (Oct.recI (Deed.body_oct he) (by omega)), by rw [List.length_append, recI_len]; omega⟩
        · rintro ρ ⟨oc, s5, s6, rfl, _⟩
          exact hC _ ⟨_, _, _, _, _, _, rfl⟩
  · rintro ρ ⟨s2, s3, s4, s5, s6, s7, rfl⟩
    simp only [w_law_t9, ↓wSeq_e, ↓wNext_e, ↓wBreak_e, ↓wCont_e, ↓wRet_e, ↓wRetN_e, ↓wDrop_e, ↓wIf_e, ↓wAnd_e, ↓wOr_e, ↓wNot_e, ↓wTst_e, ↓wAndV_e, ↓wOrV_e, ↓wNotV_e, ↓wIfE_e, ↓wChain_e, ↓wVar_e, ↓wPk_e, ↓wC_e, ↓wOp_e, ↓wUn_e, ↓wM1_e, ↓wTup_e, ↓wfLst_e, ↓wFz_e, ↓waNil_e, ↓waCons_e, ↓asNil_e, ↓asCons_e, ↓asBox_e, ↓wCall_e, ↓wAsg_e, ↓wSt_e, ↓wAsgO_e, ↓wTp_e, ↓wStL_nil, ↓wStL_cons, ↓wFor_e, ↓wRg1_e, ↓wRg2_e, ↓wItL_e, ↓wItT_e, ↓wItS_e, ↓wApp_e, ↓woNone_e, ↓woSome_e, ↓wCut_e, ↓wBx1_e, ↓wBx0_e, ↓wBxPut_e, ↓wDraw_e, ↓wTru_e, ↓wLc_e, ↓wYes_e, ↓wAug_e, dLt, dLe, dGt, dGe, dSub, dMul, dMod, dFdiv, dPow, dI2, dI2C, dAdd, dEq, dNe, dLen, dInt, dIx_l, dIx_t, dIx_s, dList, dSum, dCut, atI_zero, atI_one, Option.some.injEq, dTru, dMax2, dMin2, dIs, dNotIs, obD, id_eq, List.getElem?_cons_zero, List.getElem?_cons_succ, List.set_cons_zero, List.set_cons_succ, List.length_cons, List.length_nil, D.bl.injEq, exists_eq_left', decide_eq_true_eq, decide_eq_false_iff_not, Bool.not_eq_true', Bool.not_eq_false', Nat.zero_add, Nat.reduceAdd, true_and, and_true, forall_const, reduceCtorEq, not_true_eq_false, not_false_eq_true, false_implies, true_implies, implies_true, sz_line, Nat.reduceLeDiff, Int.reduceLE, Int.reduceLT, Int.reduceNeg, Int.reducePow, Int.reduceAdd, Int.reduceSub, Int.reduceMul, wf_recovered, wf__law_same]
    exact ⟨[], 0, [], rfl, Oct.nil, by decide, .stop rfl, rfl, shw_read (fun e he => by cases he) (by decide) (by decide)⟩

end DL

namespace DL
open PySem PySem.Spec PyProof.Rows L2
def top (i : Nat) : Stmt := PySem.Challenge.pw_movedyears_k55_records.main.body.getD i (.Pass ⟨0, 0, 0, 0⟩)
abbrev s_body_of : Stmt := top 7
abbrev N_body_of : List Str := ["deed", "sign"]
theorem sc_body_of : FnScope N_body_of ["deed"] (defScope s_body_of) := ⟨rfl, rfl, rfl, by decide +kernel, rfl, by decide +kernel, by decide +kernel⟩
abbrev s_record_of : Stmt := top 8
abbrev N_record_of : List Str := ["deed", "body"]
theorem sc_record_of : FnScope N_record_of ["deed"] (defScope s_record_of) := ⟨rfl, rfl, rfl, by decide +kernel, rfl, by decide +kernel, by decide +kernel⟩
abbrev s_fact_of : Stmt := top 9
abbrev N_fact_of : List Str := ["octets", "octet"]
theorem sc_fact_of : FnScope N_fact_of ["octets"] (defScope s_fact_of) := ⟨rfl, rfl, rfl, by decide +kernel, rfl, by decide +kernel, by decide +kernel⟩
abbrev s_deed_of : Stmt := top 10
abbrev N_deed_of : List Str := ["body"]
theorem sc_deed_of : FnScope N_deed_of ["body"] (defScope s_deed_of) := ⟨rfl, rfl, rfl, by decide +kernel, rfl, by decide +kernel, by decide +kernel⟩
abbrev s_recovered : Stmt := top 11
abbrev N_recovered : List Str := ["octets", "deeds", "place", "end", "body", "deed"]
theorem sc_recovered : FnScope N_recovered ["octets"] (defScope s_recovered) := ⟨rfl, rfl, rfl, by decide +kernel, rfl, by decide +kernel, by decide +kernel⟩
abbrev s__law_cell : Stmt := top 13
abbrev N__law_cell : List Str := ["_law_script", "_law_k"]
theorem sc__law_cell : FnScope N__law_cell ["_law_script", "_law_k"] (defScope s__law_cell) := ⟨rfl, rfl, rfl, by decide +kernel, rfl, by decide +kernel, by decide +kernel⟩
abbrev s__law_row : Stmt := top 14
abbrev N__law_row : List Str := ["_law_cell_here", "_law_k", "_law_many", "_law_row_here", "_law_turn", "_law_seed"]
theorem sc__law_row : FnScope N__law_row ["_law_cell_here", "_law_k", "_law_many"] (defScope s__law_row) := ⟨rfl, rfl, rfl, by decide +kernel, rfl, by decide +kernel, by decide +kernel⟩
abbrev s__law_box : Stmt := top 15
abbrev N__law_box : List Str := ["_law_script", "_law_first", "_law_last", "_law_row_here", "_law_k"]
theorem sc__law_box : FnScope N__law_box ["_law_script", "_law_first", "_law_last"] (defScope s__law_box) := ⟨rfl, rfl, rfl, by decide +kernel, rfl, by decide +kernel, by decide +kernel⟩
abbrev s__law_draw : Stmt := top 16
abbrev N__law_draw : List Str := ["_law_box_here", "_law_many", "_law_at"]
theorem sc__law_draw : FnScope N__law_draw ["_law_box_here", "_law_many"] (defScope s__law_draw) := ⟨rfl, rfl, rfl, by decide +kernel, rfl, by decide +kernel, by decide +kernel⟩
abbrev s__law_same : Stmt := top 17
abbrev N__law_same : List Str := ["_law_one", "_law_other"]
theorem sc__law_same : FnScope N__law_same ["_law_one", "_law_other"] (defScope s__law_same) := ⟨rfl, rfl, rfl, by decide +kernel, rfl, by decide +kernel, by decide +kernel⟩
abbrev s__law_some_deed : Stmt := top 18
abbrev N__law_some_deed : List Str := ["_law_box_here", "_law_kind", "_law_k"]
theorem sc__law_some_deed : FnScope N__law_some_deed ["_law_box_here"] (defScope s__law_some_deed) := ⟨rfl, rfl, rfl, by decide +kernel, rfl, by decide +kernel, by decide +kernel⟩
abbrev s__law_record : Stmt := top 19
abbrev N__law_record : List Str := ["_law_deed", "_law_body", "_law_sign"]
theorem sc__law_record : FnScope N__law_record ["_law_deed"] (defScope s__law_record) := ⟨rfl, rfl, rfl, by decide +kernel, rfl, by decide +kernel, by decide +kernel⟩
abbrev s__law_body_told : Stmt := top 20
abbrev N__law_body_told : List Str := ["_law_body", "_law_octet"]
theorem sc__law_body_told : FnScope N__law_body_told ["_law_body"] (defScope s__law_body_told) := ⟨rfl, rfl, rfl, by decide +kernel, rfl, by decide +kernel, by decide +kernel⟩
abbrev s__law_read : Stmt := top 21
abbrev N__law_read : List Str := ["_law_octets", "_law_deeds", "_law_place", "_law_rest", "_law_many", "_law_deed"]
theorem sc__law_read : FnScope N__law_read ["_law_octets"] (defScope s__law_read) := ⟨rfl, rfl, rfl, by decide +kernel, rfl, by decide +kernel, by decide +kernel⟩
abbrev s__law_by_hand : Stmt := top 22
abbrev N__law_by_hand : List Str := ["_law_box_here", "_law_kind", "_law_body", "_law_k"]
theorem sc__law_by_hand : FnScope N__law_by_hand ["_law_box_here"] (defScope s__law_by_hand) := ⟨rfl, rfl, rfl, by decide +kernel, rfl, by decide +kernel, by decide +kernel⟩
abbrev s__law_spoilt : Stmt := top 23
abbrev N__law_spoilt : List Str := ["_law_box_here", "_law_octets", "_law_at", "_law_kind", "_law_octet"]
theorem sc__law_spoilt : FnScope N__law_spoilt ["_law_box_here", "_law_octets"] (defScope s__law_spoilt) := ⟨rfl, rfl, rfl, by decide +kernel, rfl, by decide +kernel, by decide +kernel⟩
abbrev s_law : Stmt := top 24
abbrev N_law : List Str := ["_law_script", "_law_box_here", "_law_deeds", "_law_octets", "_law_deed", "_law_handed", "_law_step", "_law_turn", "_law_k"]
theorem sc_law : FnScope N_law ["_law_script"] (defScope s_law) := ⟨rfl, rfl, rfl, by decide +kernel, rfl, by decide +kernel, by decide +kernel⟩
structure Txt (K : PySem.W.Frag) (mg : Str → Option Value) where
  f_body_of : Addr
  d_body_of : FuncData
  F_body_of : Fun K "body_of" "body_of" s_body_of f_body_of d_body_of
  m_body_of : mg "body_of" = some (.ref f_body_of)
  k_body_of : PySem.W.keepIn K (.ref f_body_of) = true
  b_body_of : L2.Binds K d_body_of ["deed"] []
  f_record_of : Addr
  d_record_of : FuncData
  F_record_of : Fun K "record_of" "record_of" s_record_of f_record_of d_record_of
  m_record_of : mg "record_of" = some (.ref f_record_of)
  k_record_of : PySem.W.keepIn K (.ref f_record_of) = true
  b_record_of : L2.Binds K d_record_of ["deed"] []
  f_fact_of : Addr
  d_fact_of : FuncData
  F_fact_of : Fun K "fact_of" "fact_of" s_fact_of f_fact_of d_fact_of
  m_fact_of : mg "fact_of" = some (.ref f_fact_of)
  k_fact_of : PySem.W.keepIn K (.ref f_fact_of) = true
  b_fact_of : L2.Binds K d_fact_of ["octets"] []
  f_deed_of : Addr
  d_deed_of : FuncData
  F_deed_of : Fun K "deed_of" "deed_of" s_deed_of f_deed_of d_deed_of
  m_deed_of : mg "deed_of" = some (.ref f_deed_of)
  k_deed_of : PySem.W.keepIn K (.ref f_deed_of) = true
  b_deed_of : L2.Binds K d_deed_of ["body"] []
  f_recovered : Addr
  d_recovered : FuncData
  F_recovered : Fun K "recovered" "recovered" s_recovered f_recovered d_recovered
  m_recovered : mg "recovered" = some (.ref f_recovered)
  k_recovered : PySem.W.keepIn K (.ref f_recovered) = true
  b_recovered : L2.Binds K d_recovered ["octets"] []
  f__law_cell : Addr
  d__law_cell : FuncData
  F__law_cell : Fun K "_law_cell" "_law_cell" s__law_cell f__law_cell d__law_cell
  m__law_cell : mg "_law_cell" = some (.ref f__law_cell)
  k__law_cell : PySem.W.keepIn K (.ref f__law_cell) = true
  b__law_cell : L2.Binds K d__law_cell ["_law_script", "_law_k"] []
  f__law_row : Addr
  d__law_row : FuncData
  F__law_row : Fun K "_law_row" "_law_row" s__law_row f__law_row d__law_row
  m__law_row : mg "_law_row" = some (.ref f__law_row)
  k__law_row : PySem.W.keepIn K (.ref f__law_row) = true
  b__law_row : L2.Binds K d__law_row ["_law_cell_here", "_law_k", "_law_many"] []
  f__law_box : Addr
  d__law_box : FuncData
  F__law_box : Fun K "_law_box" "_law_box" s__law_box f__law_box d__law_box
  m__law_box : mg "_law_box" = some (.ref f__law_box)
  k__law_box : PySem.W.keepIn K (.ref f__law_box) = true
  b__law_box : L2.Binds K d__law_box ["_law_script", "_law_first", "_law_last"] []
  f__law_draw : Addr
  d__law_draw : FuncData
  F__law_draw : Fun K "_law_draw" "_law_draw" s__law_draw f__law_draw d__law_draw
  m__law_draw : mg "_law_draw" = some (.ref f__law_draw)
  k__law_draw : PySem.W.keepIn K (.ref f__law_draw) = true
  b__law_draw : L2.Binds K d__law_draw ["_law_box_here", "_law_many"] []
  f__law_same : Addr
  d__law_same : FuncData
  F__law_same : Fun K "_law_same" "_law_same" s__law_same f__law_same d__law_same
  m__law_same : mg "_law_same" = some (.ref f__law_same)
  k__law_same : PySem.W.keepIn K (.ref f__law_same) = true
  b__law_same : L2.Binds K d__law_same ["_law_one", "_law_other"] []
  f__law_some_deed : Addr
  d__law_some_deed : FuncData
  F__law_some_deed : Fun K "_law_some_deed" "_law_some_deed" s__law_some_deed f__law_some_deed d__law_some_deed
  m__law_some_deed : mg "_law_some_deed" = some (.ref f__law_some_deed)
  k__law_some_deed : PySem.W.keepIn K (.ref f__law_some_deed) = true
  b__law_some_deed : L2.Binds K d__law_some_deed ["_law_box_here"] []
  f__law_record : Addr
  d__law_record : FuncData
  F__law_record : Fun K "_law_record" "_law_record" s__law_record f__law_record d__law_record
  m__law_record : mg "_law_record" = some (.ref f__law_record)
  k__law_record : PySem.W.keepIn K (.ref f__law_record) = true
  b__law_record : L2.Binds K d__law_record ["_law_deed"] []
  f__law_body_told : Addr
  d__law_body_told : FuncData
  F__law_body_told : Fun K "_law_body_told" "_law_body_told" s__law_body_told f__law_body_told d__law_body_told
  m__law_body_told : mg "_law_body_told" = some (.ref f__law_body_told)
  k__law_body_told : PySem.W.keepIn K (.ref f__law_body_told) = true
  b__law_body_told : L2.Binds K d__law_body_told ["_law_body"] []
  f__law_read : Addr
  d__law_read : FuncData
  F__law_read : Fun K "_law_read" "_law_read" s__law_read f__law_read d__law_read
  m__law_read : mg "_law_read" = some (.ref f__law_read)
  k__law_read : PySem.W.keepIn K (.ref f__law_read) = true
  b__law_read : L2.Binds K d__law_read ["_law_octets"] []
  f__law_by_hand : Addr
  d__law_by_hand : FuncData
  F__law_by_hand : Fun K "_law_by_hand" "_law_by_hand" s__law_by_hand f__law_by_hand d__law_by_hand
  m__law_by_hand : mg "_law_by_hand" = some (.ref f__law_by_hand)
  k__law_by_hand : PySem.W.keepIn K (.ref f__law_by_hand) = true
  b__law_by_hand : L2.Binds K d__law_by_hand ["_law_box_here"] []
  f__law_spoilt : Addr
  d__law_spoilt : FuncData
  F__law_spoilt : Fun K "_law_spoilt" "_law_spoilt" s__law_spoilt f__law_spoilt d__law_spoilt
  m__law_spoilt : mg "_law_spoilt" = some (.ref f__law_spoilt)
  k__law_spoilt : PySem.W.keepIn K (.ref f__law_spoilt) = true
  b__law_spoilt : L2.Binds K d__law_spoilt ["_law_box_here", "_law_octets"] []
  f_law : Addr
  d_law : FuncData
  F_law : Fun K "law" "law" s_law f_law d_law
  m_law : mg "law" = some (.ref f_law)
  k_law : PySem.W.keepIn K (.ref f_law) = true
  b_law : L2.Binds K d_law ["_law_script"] []
  z_int : mg "int" = none
  z_len : mg "len" = none
  z_list : mg "list" = none
  z_ord : mg "ord" = none
  z_range : mg "range" = none
  z_repr : mg "repr" = none
  z_sum : mg "sum" = none
  t_LETTERS : Tok
  c_LETTERS : mg "LETTERS" = some (.str "abcdefghijklmnopqrstuvwxyz" t_LETTERS)
  t_MARK : Tok
  c_MARK : mg "MARK" = some (.int (170) t_MARK)
  t_MOST : Tok
  c_MOST : mg "MOST" = some (.int (8) t_MOST)
  t_MOVE : Tok
  c_MOVE : mg "MOVE" = some (.int (2) t_MOVE)
  t_UNDO : Tok
  c_UNDO : mg "UNDO" = some (.int (3) t_UNDO)
  t_YEAR : Tok
  c_YEAR : mg "YEAR" = some (.int (1) t_YEAR)
section
variable {P : Program} {w : World} {K : PySem.W.Frag} {mg : Str → Option Value} {base : Heap}
theorem ok_body_of (T : Txt K mg) : FnOk P w K mg base CX0 1 T.f_body_of T.d_body_of ["deed"] (spF ⟨K, mg⟩ wf_body_of) :=
  fun_okD T.F_body_of sc_body_of len_body_of fun cdv A outer s H E hr => ⟨_, w_body_of, (dss_cons (ds_if (dt_cmp (op_eqU hr.units) rop_eq (DE.dp (de_ix (hu_of hr) (dp_var 0) (DE.dp de_int) (fun _ _ => rfl))) (DE.dp de_str) (nomark _)) (dss_one (ds_ret (DF.de (df_lst (da_cons (de_globI (by rfl) T.c_UNDO ⟨_, rfl⟩) da_nil))))) dss_nil)
 (dss_cons (ds_if (dt_cmp (op_eqU hr.units) rop_eq (DE.dp (de_ix (hu_of hr) (dp_var 0) (DE.dp de_int) (fun _ _ => rfl))) (DE.dp de_str) (nomark _)) (dss_one (ds_ret (DF.de (df_lst (da_cons (de_globI (by rfl) T.c_MOVE ⟨_, rfl⟩) (da_cons (de_ix (hu_of hr) (dp_var 0) (DE.dp de_int) (fun _ _ => rfl)) da_nil)))))) dss_nil)
 (dss_one (ds_ret (de_op op_addU rop_add (DE.dp (DF.de (df_lst (da_cons (de_globI (by rfl) T.c_YEAR ⟨_, rfl⟩) da_nil)))) (DE.dp (DF.de (df_lc (own := [("sign", 1)]) rfl sc_body_of.nd (di_str (de_ix (hu_of hr) (dp_var 0) (DE.dp de_int) (fun _ _ => rfl))) (blkOk_by (own := [("sign", 1)]) (N := N_body_of) (sc := defScope s_body_of) (by decide +kernel)) (dg_name (i := 1) sc_body_of.nd rfl (by first | exact Or.inl rfl | exact Or.inr rfl)) dts_nil (de_op op_addU rop_add (DE.dp de_int) (DE.dp (de_sindex (DE.dp (de_globS (by rfl) T.c_LETTERS ⟨_, rfl⟩)) (dp_var 1)))) (fun _ _ _ _ _ => (dg_name (i := 1) sc_body_of.nd rfl (by first | exact Or.inl rfl | exact Or.inr rfl))) (fun _ _ _ _ _ => dts_nil) (fun _ _ _ _ _ => (de_op op_addU rop_add (DE.dp de_int) (DE.dp (de_sindex (DE.dp (de_globS (by rfl) T.c_LETTERS ⟨_, rfl⟩)) (dp_var 1))))))))))))), p_body_of⟩
theorem ok_record_of (T : Txt K mg) : FnOk P w K mg base CX0 2 T.f_record_of T.d_record_of ["deed"] (spF ⟨K, mg⟩ wf_record_of) :=
  fun_okD T.F_record_of sc_record_of len_record_of fun cdv A outer s H E hr => ⟨_, w_record_of, (dss_cons (ds_set (i := 1) sc_record_of.nd rfl (by first | exact Or.inl rfl | exact Or.inr rfl) (de_call (ok_body_of T) (hr.mono (by decide)) (by rfl) T.m_body_of T.k_body_of T.b_body_of (das_cons (de_var 0) das_nil)))
 (dss_one (ds_ret (de_op op_addU rop_add (DE.dp (de_op op_addU rop_add (DE.dp (DF.de (df_lst (da_cons (de_b1 call_lenU ro1_len (by rfl) T.z_len (by decide +kernel) (dp_var 1)) da_nil)))) (dp_var 1))) (DE.dp (DF.de (df_lst (da_cons (de_op op_mod rop_mod (DE.dp (de_b1 (cr_sum rfl) ro1_sum (by rfl) T.z_sum (by decide +kernel) (dp_var 1))) (DE.dp de_int)) (da_cons (de_globI (by rfl) T.c_MARK ⟨_, rfl⟩) da_nil))))))))), p_record_of⟩
theorem ok_fact_of (T : Txt K mg) : FnOk P w K mg base CX0 1 T.f_fact_of T.d_fact_of ["octets"] (spF ⟨K, mg⟩ wf_fact_of) :=
  fun_okD T.F_fact_of sc_fact_of len_fact_of fun cdv A outer s H E hr => ⟨_, w_fact_of, (dss_cons (ds_if (DWt.dt (dw_or (dt_not (dt_chain op_le op_le rop_le rop_le (DE.dp de_int) (DE.dp (de_b1 call_lenU ro1_len (by rfl) T.z_len (by decide +kernel) (dp_var 0))) (DE.dp (de_globI (by rfl) T.c_MOST ⟨_, rfl⟩)) (fun p q r => pt_chain op_le op_le p q r))) (dw_or1 (dt_truth (DE.dp (DF.de (df_lc (own := [("octet", 1)]) rfl sc_fact_of.nd (di_list (de_var 0)) (blkOk_by (own := [("octet", 1)]) (N := N_fact_of) (sc := defScope s_fact_of) (by decide +kernel)) (dg_name (i := 1) sc_fact_of.nd rfl (by first | exact Or.inl rfl | exact Or.inr rfl)) (dts_one (dt_not (dt_chain op_le op_le rop_le rop_le (DE.dp de_int) (dp_var 1) (DE.dp de_int) (fun p q r => pt_chain op_le op_le p q r)))) (de_var 1) (fun _ _ _ _ _ => (dg_name (i := 1) sc_fact_of.nd rfl (by first | exact Or.inl rfl | exact Or.inr rfl))) (fun _ _ _ _ _ => (dts_one (dt_not (dt_chain op_le op_le rop_le rop_le (DE.dp de_int) (dp_var 1) (DE.dp de_int) (fun p q r => pt_chain op_le op_le p q r))))) (fun _ _ _ _ _ => (de_var 1))))) (fun _ => rfl))))) (dss_one (ds_ret de_non)) dss_nil)
 (dss_one (ds_ret (de_join (DE.dp de_str) (DE.dp (DF.de (df_lc (own := [("octet", 1)]) rfl sc_fact_of.nd (di_list (de_var 0)) (blkOk_by (own := [("octet", 1)]) (N := N_fact_of) (sc := defScope s_fact_of) (by decide +kernel)) (dg_name (i := 1) sc_fact_of.nd rfl (by first | exact Or.inl rfl | exact Or.inr rfl)) dts_nil (de_ix (hu_of hr) (DE.dp (de_globS (by rfl) T.c_LETTERS ⟨_, rfl⟩)) (DE.dp (de_op op_sub rop_sub (dp_var 1) (DE.dp de_int))) (fun _ _ => rfl)) (fun _ _ _ _ _ => (dg_name (i := 1) sc_fact_of.nd rfl (by first | exact Or.inl rfl | exact Or.inr rfl))) (fun _ _ _ _ _ => dts_nil) (fun _ _ _ _ _ => (de_ix (hu_of hr) (DE.dp (de_globS (by rfl) T.c_LETTERS ⟨_, rfl⟩)) (DE.dp (de_op op_sub rop_sub (dp_var 1) (DE.dp de_int))) (fun _ _ => rfl)))))))))), p_fact_of⟩
theorem ok_deed_of (T : Txt K mg) : FnOk P w K mg base CX0 2 T.f_deed_of T.d_deed_of ["body"] (spF ⟨K, mg⟩ wf_deed_of) :=
  fun_okD T.F_deed_of sc_deed_of len_deed_of fun cdv A outer s H E hr => ⟨_, w_deed_of, (dss_cons (ds_if (dt_cmp (op_eqU hr.units) rop_eq (dp_var 0) (DE.dp (DF.de (df_lst (da_cons (de_globI (by rfl) T.c_UNDO ⟨_, rfl⟩) da_nil)))) (nomark _)) (dss_one (ds_ret (de_tup (da_cons de_str da_nil)))) dss_nil)
 (dss_cons (ds_if (DWt.dt (dw_and (dt_cmp (op_eqU hr.units) rop_eq (DE.dp (de_b1 call_lenU ro1_len (by rfl) T.z_len (by decide +kernel) (dp_var 0))) (DE.dp de_int) (nomark _)) (dw_and1 (dt_cmp (op_eqU hr.units) rop_eq (DE.dp (de_ix (hu_of hr) (dp_var 0) (DE.dp de_int) (fun _ _ => rfl))) (DE.dp (de_globI (by rfl) T.c_MOVE ⟨_, rfl⟩)) (nomark _))))) (dss_one (ds_ret (de_tup (da_cons de_str (da_cons (de_ix (hu_of hr) (dp_var 0) (DE.dp de_int) (fun _ _ => rfl)) da_nil))))) dss_nil)
 (dss_cons (ds_if (DWt.dt (dw_and (dt_cmp (op_eqU hr.units) rop_eq (DE.dp (de_cut (dp_var 0) do_none (do_some de_int))) (DE.dp (DF.de (df_lst (da_cons (de_globI (by rfl) T.c_YEAR ⟨_, rfl⟩) da_nil)))) (nomark _)) (dw_and1 (dt_cmp op_notU rop_notIs (DE.dp (de_call (ok_fact_of T) (hr.mono (by decide)) (by rfl) T.m_fact_of T.k_fact_of T.b_fact_of (das_cons (de_cut (dp_var 0) (do_some de_int) do_none) das_nil))) (DE.dp de_non) (nomark _))))) (dss_one (ds_ret (de_tup (da_cons de_str (da_cons (de_call (ok_fact_of T) (hr.mono (by decide)) (by rfl) T.m_fact_of T.k_fact_of T.b_fact_of (das_cons (de_cut (dp_var 0) (do_some de_int) do_none) das_nil)) da_nil))))) dss_nil)
 (dss_one (ds_ret de_non))))), p_deed_of⟩
theorem ok_recovered (T : Txt K mg) : FnOk P w K mg base CX0 3 T.f_recovered T.d_recovered ["octets"] (spF ⟨K, mg⟩ wf_recovered) :=
  fun_okD T.F_recovered sc_recovered len_recovered fun cdv A outer s H E hr => ⟨_, w_recovered, (dss_cons (ds_setO (i := 1) sc_recovered.nd rfl (Or.inl rfl) (df_lst da_nil))
 (dss_cons (ds_set (i := 2) sc_recovered.nd rfl (by first | exact Or.inl rfl | exact Or.inr rfl) de_int)
 (dss_cons (ds_while PassesOwn.never (dt_cmp op_lt rop_lt (dp_var 2) (DE.dp (de_b1 call_lenU ro1_len (by rfl) T.z_len (by decide +kernel) (dp_var 0))) (nomark _)) (dss_cons (ds_set (i := 3) sc_recovered.nd rfl (by first | exact Or.inl rfl | exact Or.inr rfl) (de_op op_addU rop_add (DE.dp (de_op op_addU rop_add (dp_var 2) (DE.dp (de_ix (hu_of hr) (dp_var 0) (dp_var 2) (fun _ _ => rfl))))) (DE.dp de_int)))
 (dss_cons (ds_if (dt_cmp op_gt rop_gt (dp_var 3) (DE.dp (de_b1 call_lenU ro1_len (by rfl) T.z_len (by decide +kernel) (dp_var 0))) (nomark _)) (dss_one ds_break) dss_nil)
 (dss_cons (ds_set (i := 4) sc_recovered.nd rfl (by first | exact Or.inl rfl | exact Or.inr rfl) (de_cut (dp_var 0) (do_some (de_op op_addU rop_add (dp_var 2) (DE.dp de_int))) (do_some (de_op op_sub rop_sub (dp_var 3) (DE.dp de_int)))))
 (dss_cons (ds_set (i := 5) sc_recovered.nd rfl (by first | exact Or.inl rfl | exact Or.inr rfl) (de_call (ok_deed_of T) (hr.mono (by decide)) (by rfl) T.m_deed_of T.k_deed_of T.b_deed_of (das_cons (de_var 4) das_nil)))
 (dss_cons (ds_if (DWt.dt (dw_or (dt_cmp (op_neU hr.units) rop_ne (DE.dp (de_ix (hu_of hr) (dp_var 0) (DE.dp (de_op op_sub rop_sub (dp_var 3) (DE.dp de_int))) (fun _ _ => rfl))) (DE.dp (de_globI (by rfl) T.c_MARK ⟨_, rfl⟩)) (nomark _)) (dw_or (dt_cmp (op_neU hr.units) rop_ne (DE.dp (de_ix (hu_of hr) (dp_var 0) (DE.dp (de_op op_sub rop_sub (dp_var 3) (DE.dp de_int))) (fun _ _ => rfl))) (DE.dp (de_op op_mod rop_mod (DE.dp (de_b1 (cr_sum rfl) ro1_sum (by rfl) T.z_sum (by decide +kernel) (dp_var 4))) (DE.dp de_int))) (nomark _)) (dw_or1 (dt_cmp op_isU rop_is (dp_var 5) (DE.dp de_non) (nomark _)))))) (dss_one ds_break) dss_nil)
 (dss_cons (ds_append (i := 1) (de_var 5))
 (dss_one (ds_set (i := 2) sc_recovered.nd rfl (by first | exact Or.inl rfl | exact Or.inr rfl) (de_var 3))))))))))
 (dss_one (ds_ret (de_tup (da_cons (de_var 1) (da_cons (de_var 2) da_nil)))))))), p_recovered⟩
theorem ok__law_cell (T : Txt K mg) : FnOk P w K mg base CX0 1 T.f__law_cell T.d__law_cell ["_law_script", "_law_k"] (spF ⟨K, mg⟩ wf__law_cell) :=
  fun_okD T.F__law_cell sc__law_cell len__law_cell fun cdv A outer s H E hr => ⟨_, w__law_cell, (dss_cons (ds_if (dt_cmp op_lt rop_lt (dp_var 1) (DE.dp (de_b1 call_lenU ro1_len (by rfl) T.z_len (by decide +kernel) (dp_var 0))) (nomark _)) (dss_one (ds_ret (de_ix (hu_of hr) (dp_var 0) (dp_var 1) (fun _ _ => rfl)))) dss_nil)
 (dss_one (ds_ret de_int))), p__law_cell⟩
theorem ok__law_row (T : Txt K mg) : FnOk P w K mg base CX0 1 T.f__law_row T.d__law_row ["_law_cell_here", "_law_k", "_law_many"] (spF ⟨K, mg⟩ wf__law_row) :=
  fun_okD T.F__law_row sc__law_row len__law_row fun cdv A outer s H E hr => ⟨_, w__law_row, (dss_cons (ds_setO (i := 3) sc__law_row.nd rfl (Or.inl rfl) (df_lst da_nil))
 (dss_cons (ds_if (dt_cmp op_lt rop_lt (dp_var 0) (DE.dp de_int) (nomark _)) (dss_one (ds_set (i := 0) sc__law_row.nd rfl (by first | exact Or.inl rfl | exact Or.inr rfl) (de_op op_sub rop_sub (DE.dp de_int) (DE.dp (de_op op_mul rop_mul (DE.dp de_int) (dp_var 0)))))) dss_nil)
 (dss_cons (ds_if (dt_cmp op_ge rop_ge (dp_var 0) (DE.dp (de_op op_pow rop_pow (DE.dp de_int) (DE.dp de_int))) (nomark _)) (dss_cons (ds_for PassesOwn.never rfl (di_range1 (by rfl) T.z_range (da_cons de_int da_nil)) (dg_name (i := 4) sc__law_row.nd rfl (by first | exact Or.inl rfl | exact Or.inr rfl)) (dss_one (ds_if (DWt.dt (dw_and (dt_cmp op_gt rop_gt (dp_var 0) (DE.dp de_int) (nomark _)) (dw_and1 (dt_cmp op_lt rop_lt (DE.dp (de_b1 call_lenU ro1_len (by rfl) T.z_len (by decide +kernel) (dp_var 3))) (dp_var 2) (nomark _))))) (dss_cons (ds_append (i := 3) (de_op op_mod rop_mod (DE.dp (de_t1 call_int1 ro1_int (by rfl) T.z_int (by decide +kernel) (dp_var 0))) (DE.dp de_int)))
 (dss_one (ds_set (i := 0) sc__law_row.nd rfl (by first | exact Or.inl rfl | exact Or.inr rfl) (de_op op_fdiv rop_fdiv (dp_var 0) (DE.dp de_int))))) dss_nil)))
 (dss_one (ds_ret (de_var 3)))) dss_nil)
 (dss_cons (ds_set (i := 5) sc__law_row.nd rfl (by first | exact Or.inl rfl | exact Or.inr rfl) (de_op op_mod rop_mod (DE.dp (de_t1 call_int1 ro1_int (by rfl) T.z_int (by decide +kernel) (DE.dp (de_op op_addU rop_add (DE.dp (de_op op_addU rop_add (DE.dp (de_op op_mul rop_mul (dp_var 0) (DE.dp de_int))) (DE.dp (de_op op_mul rop_mul (dp_var 1) (DE.dp de_int))))) (DE.dp de_int))))) (DE.dp de_int)))
 (dss_cons (ds_for PassesOwn.never rfl (di_range1 (by rfl) T.z_range (da_cons (de_var 2) da_nil)) (dg_name (i := 4) sc__law_row.nd rfl (by first | exact Or.inl rfl | exact Or.inr rfl)) (dss_cons (ds_set (i := 5) sc__law_row.nd rfl (by first | exact Or.inl rfl | exact Or.inr rfl) (de_op op_mod rop_mod (DE.dp (de_t1 call_int1 ro1_int (by rfl) T.z_int (by decide +kernel) (DE.dp (de_op op_addU rop_add (DE.dp (de_op op_addU rop_add (DE.dp (de_op op_mul rop_mul (dp_var 5) (DE.dp de_int))) (DE.dp (de_op op_mul rop_mul (DE.dp de_int) (dp_var 4))))) (DE.dp de_int))))) (DE.dp de_int)))
 (dss_one (ds_append (i := 3) (de_op op_mod rop_mod (DE.dp (de_t1 call_int1 ro1_int (by rfl) T.z_int (by decide +kernel) (DE.dp (de_op op_fdiv rop_fdiv (dp_var 5) (DE.dp de_int))))) (DE.dp de_int))))))
 (dss_one (ds_ret (de_var 3)))))))), p__law_row⟩
theorem ok__law_box (T : Txt K mg) : FnOk P w K mg base CX0 2 T.f__law_box T.d__law_box ["_law_script", "_law_first", "_law_last"] (spF ⟨K, mg⟩ wf__law_box) :=
  fun_okD T.F__law_box sc__law_box len__law_box fun cdv A outer s H E hr => ⟨_, w__law_box, (dss_cons (ds_set (i := 3) sc__law_box.nd rfl (by first | exact Or.inl rfl | exact Or.inr rfl) (DF.de (df_lst da_nil)))
 (dss_cons (ds_for PassesOwn.never rfl (di_range2 (by rfl) T.z_range (da_cons (de_var 1) (da_cons (de_var 2) da_nil))) (dg_name (i := 4) sc__law_box.nd rfl (by first | exact Or.inl rfl | exact Or.inr rfl)) (dss_one (ds_set (i := 3) sc__law_box.nd rfl (by first | exact Or.inl rfl | exact Or.inr rfl) (de_op op_addU rop_add (dp_var 3) (DE.dp (de_call (ok__law_row T) (hr.mono (by decide)) (by rfl) T.m__law_row T.k__law_row T.b__law_row (das_cons (de_call (ok__law_cell T) (hr.mono (by decide)) (by rfl) T.m__law_cell T.k__law_cell T.b__law_cell (das_cons (de_var 0) (das_cons (de_var 4) das_nil))) (das_cons (de_var 4) (das_cons de_int das_nil)))))))))
 (dss_one (ds_ret (DF.de (df_lst (da_cons (de_var 3) (da_cons de_int da_nil)))))))), p__law_box⟩
theorem ok__law_draw (T : Txt K mg) : FnOk P w K mg base CX0 1 T.f__law_draw T.d__law_draw ["_law_box_here", "_law_many"] (spF ⟨K, mg⟩ wf__law_draw) :=
  fun_okD T.F__law_draw sc__law_draw len__law_draw fun cdv A outer s H E hr => ⟨_, w__law_draw, (dss_cons (ds_set (i := 2) sc__law_draw.nd rfl (by first | exact Or.inl rfl | exact Or.inr rfl) (de_bx1 0 (hu_of hr)))
 (dss_cons (ds_bxPut 0 (de_op op_addU rop_add (dp_var 2) (DE.dp de_int)))
 (dss_cons (ds_drawIf 0 2 1 (ds_if (dt_cmp op_lt rop_lt (dp_var 2) (DE.dp (de_b1 call_lenU ro1_len (by rfl) T.z_len (by decide +kernel) (DE.dp (de_bx0 0 (hu_of hr))))) (nomark _)) (dss_one (ds_ret (de_op op_mod rop_mod (DE.dp (de_t1 call_int1 ro1_int (by rfl) T.z_int (by decide +kernel) (DE.dp (de_ix (hu_of hr) (DE.dp (de_bx0 0 (hu_of hr))) (dp_var 2) (fun _ _ => rfl))))) (dp_var 1)))) dss_nil))
 (dss_one (ds_ret (de_op op_mod rop_mod (DE.dp (de_t1 call_int1 ro1_int (by rfl) T.z_int (by decide +kernel) (DE.dp (de_op op_addU rop_add (DE.dp (de_op op_mul rop_mul (dp_var 2) (DE.dp de_int))) (DE.dp de_int))))) (dp_var 1))))))), p__law_draw⟩
theorem ok__law_same (T : Txt K mg) : FnG P w K mg base 1 T.f__law_same T.d__law_same ["_law_one", "_law_other"] (spF ⟨K, mg⟩ wf__law_same) :=
  fun_okG T.F__law_same sc__law_same len__law_same fun cdv A outer s H hr hgd => ⟨_, w__law_same, (dss_one (ds_ret (de_cmp (op_eqU hr.units) rop_eq (DE.dp (de_b1 (call_repr hgd hr.units) ro1_repr (by rfl) T.z_repr (by decide +kernel) (dp_var 0))) (DE.dp (de_b1 (call_repr hgd hr.units) ro1_repr (by rfl) T.z_repr (by decide +kernel) (dp_var 1))) (nomark _)))), p__law_same⟩
theorem ok__law_some_deed (T : Txt K mg) : FnOk P w K mg base CX0 2 T.f__law_some_deed T.d__law_some_deed ["_law_box_here"] (spF ⟨K, mg⟩ wf__law_some_deed) :=
  fun_okD T.F__law_some_deed sc__law_some_deed len__law_some_deed fun cdv A outer s H E hr => ⟨_, w__law_some_deed, (dss_cons (ds_set (i := 1) sc__law_some_deed.nd rfl (by first | exact Or.inl rfl | exact Or.inr rfl) (de_call (ok__law_draw T) (hr.mono (by decide)) (by rfl) T.m__law_draw T.k__law_draw T.b__law_draw (das_box 0 (das_cons de_int das_nil))))
 (dss_cons (ds_if (dt_cmp (op_eqU hr.units) rop_eq (dp_var 1) (DE.dp de_int) (nomark _)) (dss_one (ds_ret (de_tup (da_cons de_str da_nil)))) dss_nil)
 (dss_cons (ds_if (dt_cmp op_lt rop_lt (dp_var 1) (DE.dp de_int) (nomark _)) (dss_one (ds_ret (de_tup (da_cons de_str (da_cons (de_ix (hu_of hr) (DE.dp (DF.de (df_lst (da_cons (de_call (ok__law_draw T) (hr.mono (by decide)) (by rfl) T.m__law_draw T.k__law_draw T.b__law_draw (das_box 0 (das_cons de_int das_nil))) (da_cons (de_call (ok__law_draw T) (hr.mono (by decide)) (by rfl) T.m__law_draw T.k__law_draw T.b__law_draw (das_box 0 (das_cons de_int das_nil))) (da_cons de_int (da_cons de_int da_nil))))))) (DE.dp (de_call (ok__law_draw T) (hr.mono (by decide)) (by rfl) T.m__law_draw T.k__law_draw T.b__law_draw (das_box 0 (das_cons de_int das_nil)))) (fun _ _ => rfl)) da_nil))))) dss_nil)
 (dss_one (ds_ret (de_tup (da_cons de_str (da_cons (de_join (DE.dp de_str) (DE.dp (DF.de (df_lc (own := [("_law_k", 2)]) rfl sc__law_some_deed.nd (di_range1 (by rfl) T.z_range (da_cons (de_op op_addU rop_add (DE.dp de_int) (DE.dp (de_call (ok__law_draw T) (hr.mono (by decide)) (by rfl) T.m__law_draw T.k__law_draw T.b__law_draw (das_box 0 (das_cons de_int das_nil))))) da_nil)) (blkOk_by (own := [("_law_k", 2)]) (N := N__law_some_deed) (sc := defScope s__law_some_deed) (by decide +kernel)) (dg_name (i := 2) sc__law_some_deed.nd rfl (by first | exact Or.inl rfl | exact Or.inr rfl)) dts_nil (de_ix (hu_of hr) (DE.dp de_str) (DE.dp (de_call (ok__law_draw T) (hr.mono (by decide)) (by rfl) T.m__law_draw T.k__law_draw T.b__law_draw (das_box 0 (das_cons de_int das_nil)))) (fun _ _ => rfl)) (fun _ _ _ _ _ => (dg_name (i := 2) sc__law_some_deed.nd rfl (by first | exact Or.inl rfl | exact Or.inr rfl))) (fun _ _ _ _ _ => dts_nil) (fun _ _ _ _ _ => (de_ix (hu_of hr) (DE.dp de_str) (DE.dp (de_call (ok__law_draw T) (hr.mono (by decide)) (by rfl) T.m__law_draw T.k__law_draw T.b__law_draw (das_box 0 (das_cons de_int das_nil)))) (fun _ _ => rfl))))))) da_nil)))))))), p__law_some_deed⟩
theorem ok__law_record (T : Txt K mg) : FnOk P w K mg base CX0 1 T.f__law_record T.d__law_record ["_law_deed"] (spF ⟨K, mg⟩ wf__law_record) :=
  fun_okD T.F__law_record sc__law_record len__law_record fun cdv A outer s H E hr => ⟨_, w__law_record, (dss_cons (ds_if (dt_cmp (op_eqU hr.units) rop_eq (DE.dp (de_ix (hu_of hr) (dp_var 0) (DE.dp de_int) (fun _ _ => rfl))) (DE.dp de_str) (nomark _)) (dss_one (ds_set (i := 1) sc__law_record.nd rfl (by first | exact Or.inl rfl | exact Or.inr rfl) (DF.de (df_lst (da_cons de_int da_nil))))) (dss_one (ds_if (dt_cmp (op_eqU hr.units) rop_eq (DE.dp (de_ix (hu_of hr) (dp_var 0) (DE.dp de_int) (fun _ _ => rfl))) (DE.dp de_str) (nomark _)) (dss_one (ds_set (i := 1) sc__law_record.nd rfl (by first | exact Or.inl rfl | exact Or.inr rfl) (DF.de (df_lst (da_cons de_int (da_cons (de_ix (hu_of hr) (dp_var 0) (DE.dp de_int) (fun _ _ => rfl)) da_nil)))))) (dss_one (ds_set (i := 1) sc__law_record.nd rfl (by first | exact Or.inl rfl | exact Or.inr rfl) (de_op op_addU rop_add (DE.dp (DF.de (df_lst (da_cons de_int da_nil)))) (DE.dp (DF.de (df_lc (own := [("_law_sign", 2)]) rfl sc__law_record.nd (di_str (de_ix (hu_of hr) (dp_var 0) (DE.dp de_int) (fun _ _ => rfl))) (blkOk_by (own := [("_law_sign", 2)]) (N := N__law_record) (sc := defScope s__law_record) (by decide +kernel)) (dg_name (i := 2) sc__law_record.nd rfl (by first | exact Or.inl rfl | exact Or.inr rfl)) dts_nil (de_b1 call_ord ro1_ord (by rfl) T.z_ord (by decide +kernel) (dp_var 2)) (fun _ _ _ _ _ => (dg_name (i := 2) sc__law_record.nd rfl (by first | exact Or.inl rfl | exact Or.inr rfl))) (fun _ _ _ _ _ => dts_nil) (fun _ _ _ _ _ => (de_b1 call_ord ro1_ord (by rfl) T.z_ord (by decide +kernel) (dp_var 2))))))))))))
 (dss_one (ds_ret (de_op op_addU rop_add (DE.dp (de_op op_addU rop_add (DE.dp (DF.de (df_lst (da_cons (de_b1 call_lenU ro1_len (by rfl) T.z_len (by decide +kernel) (dp_var 1)) da_nil)))) (dp_var 1))) (DE.dp (DF.de (df_lst (da_cons (de_op op_mod rop_mod (DE.dp (de_b1 (cr_sum rfl) ro1_sum (by rfl) T.z_sum (by decide +kernel) (dp_var 1))) (DE.dp de_int)) (da_cons de_int da_nil))))))))), p__law_record⟩
theorem ok__law_body_told (T : Txt K mg) : FnOk P w K mg base CX0 1 T.f__law_body_told T.d__law_body_told ["_law_body"] (spF ⟨K, mg⟩ wf__law_body_told) :=
  fun_okD T.F__law_body_told sc__law_body_told len__law_body_told fun cdv A outer s H E hr => ⟨_, w__law_body_told, (dss_cons (ds_if (dt_cmp (op_eqU hr.units) rop_eq (dp_var 0) (DE.dp (DF.de (df_lst (da_cons de_int da_nil)))) (nomark _)) (dss_one (ds_ret (de_tup (da_cons de_str da_nil)))) dss_nil)
 (dss_cons (ds_if (DWt.dt (dw_and (dt_cmp (op_eqU hr.units) rop_eq (DE.dp (de_b1 call_lenU ro1_len (by rfl) T.z_len (by decide +kernel) (dp_var 0))) (DE.dp de_int) (nomark _)) (dw_and1 (dt_cmp (op_eqU hr.units) rop_eq (DE.dp (de_ix (hu_of hr) (dp_var 0) (DE.dp de_int) (fun _ _ => rfl))) (DE.dp de_int) (nomark _))))) (dss_one (ds_ret (de_tup (da_cons de_str (da_cons (de_ix (hu_of hr) (dp_var 0) (DE.dp de_int) (fun _ _ => rfl)) da_nil))))) dss_nil)
 (dss_cons (ds_if (DWt.dt (dw_and (dt_chain op_le op_le rop_le rop_le (DE.dp de_int) (DE.dp (de_b1 call_lenU ro1_len (by rfl) T.z_len (by decide +kernel) (dp_var 0))) (DE.dp de_int) (fun p q r => pt_chain op_le op_le p q r)) (dw_and (dt_cmp (op_eqU hr.units) rop_eq (DE.dp (de_ix (hu_of hr) (dp_var 0) (DE.dp de_int) (fun _ _ => rfl))) (DE.dp de_int) (nomark _)) (dw_and1 (dt_cmp (op_eqU hr.units) rop_eq (DE.dp (de_b1 call_lenU ro1_len (by rfl) T.z_len (by decide +kernel) (DE.dp (DF.de (df_lc (own := [("_law_octet", 1)]) rfl sc__law_body_told.nd (di_list (de_cut (dp_var 0) (do_some de_int) do_none)) (blkOk_by (own := [("_law_octet", 1)]) (N := N__law_body_told) (sc := defScope s__law_body_told) (by decide +kernel)) (dg_name (i := 1) sc__law_body_told.nd rfl (by first | exact Or.inl rfl | exact Or.inr rfl)) (dts_one (dt_chain op_le op_le rop_le rop_le (DE.dp de_int) (dp_var 1) (DE.dp de_int) (fun p q r => pt_chain op_le op_le p q r))) (de_var 1) (fun _ _ _ _ _ => (dg_name (i := 1) sc__law_body_told.nd rfl (by first | exact Or.inl rfl | exact Or.inr rfl))) (fun _ _ _ _ _ => (dts_one (dt_chain op_le op_le rop_le rop_le (DE.dp de_int) (dp_var 1) (DE.dp de_int) (fun p q r => pt_chain op_le op_le p q r)))) (fun _ _ _ _ _ => (de_var 1))))))) (DE.dp (de_op op_sub rop_sub (DE.dp (de_b1 call_lenU ro1_len (by rfl) T.z_len (by decide +kernel) (dp_var 0))) (DE.dp de_int))) (nomark _)))))) (dss_one (ds_ret (de_tup (da_cons de_str (da_cons (de_join (DE.dp de_str) (DE.dp (DF.de (df_lc (own := [("_law_octet", 1)]) rfl sc__law_body_told.nd (di_list (de_cut (dp_var 0) (do_some de_int) do_none)) (blkOk_by (own := [("_law_octet", 1)]) (N := N__law_body_told) (sc := defScope s__law_body_told) (by decide +kernel)) (dg_name (i := 1) sc__law_body_told.nd rfl (by first | exact Or.inl rfl | exact Or.inr rfl)) dts_nil (de_ix (hu_of hr) (DE.dp de_str) (DE.dp (de_op op_sub rop_sub (dp_var 1) (DE.dp de_int))) (fun _ _ => rfl)) (fun _ _ _ _ _ => (dg_name (i := 1) sc__law_body_told.nd rfl (by first | exact Or.inl rfl | exact Or.inr rfl))) (fun _ _ _ _ _ => dts_nil) (fun _ _ _ _ _ => (de_ix (hu_of hr) (DE.dp de_str) (DE.dp (de_op op_sub rop_sub (dp_var 1) (DE.dp de_int))) (fun _ _ => rfl))))))) da_nil))))) dss_nil)
 (dss_one (ds_ret de_non))))), p__law_body_told⟩
theorem ok__law_read (T : Txt K mg) : FnOk P w K mg base CX0 2 T.f__law_read T.d__law_read ["_law_octets"] (spF ⟨K, mg⟩ wf__law_read) :=
  fun_okD T.F__law_read sc__law_read len__law_read fun cdv A outer s H E hr => ⟨_, w__law_read, (dss_cons (ds_setO (i := 1) sc__law_read.nd rfl (Or.inl rfl) (df_lst da_nil))
 (dss_cons (ds_set (i := 2) sc__law_read.nd rfl (by first | exact Or.inl rfl | exact Or.inr rfl) de_int)
 (dss_cons (ds_while PassesOwn.never (dt_cmp op_lt rop_lt (dp_var 2) (DE.dp (de_b1 call_lenU ro1_len (by rfl) T.z_len (by decide +kernel) (dp_var 0))) (nomark _)) (dss_cons (ds_set (i := 3) sc__law_read.nd rfl (by first | exact Or.inl rfl | exact Or.inr rfl) (de_cut (dp_var 0) (do_some (de_op op_addU rop_add (dp_var 2) (DE.dp de_int))) do_none))
 (dss_cons (ds_set (i := 4) sc__law_read.nd rfl (by first | exact Or.inl rfl | exact Or.inr rfl) (de_ix (hu_of hr) (dp_var 0) (dp_var 2) (fun _ _ => rfl)))
 (dss_cons (ds_if (DWt.dt (dw_or (dt_cmp op_lt rop_lt (DE.dp (de_b1 call_lenU ro1_len (by rfl) T.z_len (by decide +kernel) (dp_var 3))) (DE.dp (de_op op_addU rop_add (dp_var 4) (DE.dp de_int))) (nomark _)) (dw_or (dt_cmp (op_neU hr.units) rop_ne (DE.dp (de_ix (hu_of hr) (dp_var 3) (DE.dp (de_op op_addU rop_add (dp_var 4) (DE.dp de_int))) (fun _ _ => rfl))) (DE.dp de_int) (nomark _)) (dw_or1 (dt_cmp (op_neU hr.units) rop_ne (DE.dp (de_ix (hu_of hr) (dp_var 3) (dp_var 4) (fun _ _ => rfl))) (DE.dp (de_op op_mod rop_mod (DE.dp (de_b1 (cr_sum rfl) ro1_sum (by rfl) T.z_sum (by decide +kernel) (DE.dp (de_cut (dp_var 3) do_none (do_some (de_var 4)))))) (DE.dp de_int))) (nomark _)))))) (dss_one (ds_ret (de_tup (da_cons (de_var 1) (da_cons (de_var 2) da_nil))))) dss_nil)
 (dss_cons (ds_set (i := 5) sc__law_read.nd rfl (by first | exact Or.inl rfl | exact Or.inr rfl) (de_call (ok__law_body_told T) (hr.mono (by decide)) (by rfl) T.m__law_body_told T.k__law_body_told T.b__law_body_told (das_cons (de_cut (dp_var 3) do_none (do_some (de_var 4))) das_nil)))
 (dss_cons (ds_if (dt_cmp op_isU rop_is (dp_var 5) (DE.dp de_non) (nomark _)) (dss_one (ds_ret (de_tup (da_cons (de_var 1) (da_cons (de_var 2) da_nil))))) dss_nil)
 (dss_cons (ds_append (i := 1) (de_var 5))
 (dss_one (ds_set (i := 2) sc__law_read.nd rfl (by first | exact Or.inl rfl | exact Or.inr rfl) (de_op op_addU rop_add (DE.dp (de_op op_addU rop_add (dp_var 2) (dp_var 4))) (DE.dp de_int)))))))))))
 (dss_one (ds_ret (de_tup (da_cons (de_var 1) (da_cons (de_var 2) da_nil)))))))), p__law_read⟩
theorem ok__law_by_hand (T : Txt K mg) : FnOk P w K mg base CX0 2 T.f__law_by_hand T.d__law_by_hand ["_law_box_here"] (spF ⟨K, mg⟩ wf__law_by_hand) :=
  fun_okD T.F__law_by_hand sc__law_by_hand len__law_by_hand fun cdv A outer s H E hr => ⟨_, w__law_by_hand, (dss_cons (ds_set (i := 1) sc__law_by_hand.nd rfl (by first | exact Or.inl rfl | exact Or.inr rfl) (de_call (ok__law_draw T) (hr.mono (by decide)) (by rfl) T.m__law_draw T.k__law_draw T.b__law_draw (das_box 0 (das_cons de_int das_nil))))
 (dss_cons (ds_set (i := 2) sc__law_by_hand.nd rfl (by first | exact Or.inl rfl | exact Or.inr rfl) (de_ix (hu_of hr) (DE.dp (DF.de (df_lst (da_cons (DF.de (df_lst da_nil)) (da_cons (DF.de (df_lst (da_cons de_int da_nil))) (da_cons (DF.de (df_lst (da_cons de_int (da_cons de_int da_nil)))) (da_cons (de_op op_addU rop_add (DE.dp (DF.de (df_lst (da_cons de_int da_nil)))) (DE.dp (DF.de (df_lc (own := [("_law_k", 3)]) rfl sc__law_by_hand.nd (di_range1 (by rfl) T.z_range (da_cons de_int da_nil)) (blkOk_by (own := [("_law_k", 3)]) (N := N__law_by_hand) (sc := defScope s__law_by_hand) (by decide +kernel)) (dg_name (i := 3) sc__law_by_hand.nd rfl (by first | exact Or.inl rfl | exact Or.inr rfl)) dts_nil (de_op op_addU rop_add (DE.dp de_int) (DE.dp (de_call (ok__law_draw T) (hr.mono (by decide)) (by rfl) T.m__law_draw T.k__law_draw T.b__law_draw (das_box 0 (das_cons de_int das_nil))))) (fun _ _ _ _ _ => (dg_name (i := 3) sc__law_by_hand.nd rfl (by first | exact Or.inl rfl | exact Or.inr rfl))) (fun _ _ _ _ _ => dts_nil) (fun _ _ _ _ _ => (de_op op_addU rop_add (DE.dp de_int) (DE.dp (de_call (ok__law_draw T) (hr.mono (by decide)) (by rfl) T.m__law_draw T.k__law_draw T.b__law_draw (das_box 0 (das_cons de_int das_nil)))))))))) (da_cons (DF.de (df_lst (da_cons de_int da_nil))) (da_cons (DF.de (df_lst (da_cons de_int (da_cons de_int da_nil)))) da_nil))))))))) (dp_var 1) (fun _ _ => rfl)))
 (dss_cons (ds_if (dt_cmp (op_eqU hr.units) rop_eq (DE.dp (de_call (ok__law_draw T) (hr.mono (by decide)) (by rfl) T.m__law_draw T.k__law_draw T.b__law_draw (das_box 0 (das_cons de_int das_nil)))) (DE.dp de_int) (nomark _)) (dss_one (ds_set (i := 2) sc__law_by_hand.nd rfl (by first | exact Or.inl rfl | exact Or.inr rfl) (de_op op_addU rop_add (DE.dp (DF.de (df_lst (da_cons (de_call (ok__law_draw T) (hr.mono (by decide)) (by rfl) T.m__law_draw T.k__law_draw T.b__law_draw (das_box 0 (das_cons de_int das_nil))) da_nil)))) (DE.dp (DF.de (df_lc (own := [("_law_k", 3)]) rfl sc__law_by_hand.nd (di_range1 (by rfl) T.z_range (da_cons (de_call (ok__law_draw T) (hr.mono (by decide)) (by rfl) T.m__law_draw T.k__law_draw T.b__law_draw (das_box 0 (das_cons de_int das_nil))) da_nil)) (blkOk_by (own := [("_law_k", 3)]) (N := N__law_by_hand) (sc := defScope s__law_by_hand) (by decide +kernel)) (dg_name (i := 3) sc__law_by_hand.nd rfl (by first | exact Or.inl rfl | exact Or.inr rfl)) dts_nil (de_ix (hu_of hr) (DE.dp (DF.de (df_lst (da_cons de_int (da_cons de_int (da_cons de_int (da_cons de_int da_nil))))))) (DE.dp (de_call (ok__law_draw T) (hr.mono (by decide)) (by rfl) T.m__law_draw T.k__law_draw T.b__law_draw (das_box 0 (das_cons de_int das_nil)))) (fun _ _ => rfl)) (fun _ _ _ _ _ => (dg_name (i := 3) sc__law_by_hand.nd rfl (by first | exact Or.inl rfl | exact Or.inr rfl))) (fun _ _ _ _ _ => dts_nil) (fun _ _ _ _ _ => (de_ix (hu_of hr) (DE.dp (DF.de (df_lst (da_cons de_int (da_cons de_int (da_cons de_int (da_cons de_int da_nil))))))) (DE.dp (de_call (ok__law_draw T) (hr.mono (by decide)) (by rfl) T.m__law_draw T.k__law_draw T.b__law_draw (das_box 0 (das_cons de_int das_nil)))) (fun _ _ => rfl))))))))) dss_nil)
 (dss_one (ds_ret (de_op op_addU rop_add (DE.dp (de_op op_addU rop_add (DE.dp (DF.de (df_lst (da_cons (de_b1 call_lenU ro1_len (by rfl) T.z_len (by decide +kernel) (dp_var 2)) da_nil)))) (dp_var 2))) (DE.dp (DF.de (df_lst (da_cons (de_op op_mod rop_mod (DE.dp (de_b1 (cr_sum rfl) ro1_sum (by rfl) T.z_sum (by decide +kernel) (dp_var 2))) (DE.dp de_int)) (da_cons de_int da_nil))))))))))), p__law_by_hand⟩
theorem ok__law_spoilt (T : Txt K mg) : FnOk P w K mg base CX0 3 T.f__law_spoilt T.d__law_spoilt ["_law_box_here", "_law_octets"] (spF ⟨K, mg⟩ wf__law_spoilt) :=
  fun_okD T.F__law_spoilt sc__law_spoilt len__law_spoilt fun cdv A outer s H E hr => ⟨_, w__law_spoilt, (dss_cons (ds_set (i := 2) sc__law_spoilt.nd rfl (by first | exact Or.inl rfl | exact Or.inr rfl) (de_op op_mod rop_mod (DE.dp (de_t1 call_int1 ro1_int (by rfl) T.z_int (by decide +kernel) (DE.dp (de_call (ok__law_draw T) (hr.mono (by decide)) (by rfl) T.m__law_draw T.k__law_draw T.b__law_draw (das_box 0 (das_cons de_int das_nil)))))) (DE.dp (de_op op_addU rop_add (DE.dp (de_b1 call_lenU ro1_len (by rfl) T.z_len (by decide +kernel) (dp_var 1))) (DE.dp de_int)))))
 (dss_cons (ds_set (i := 3) sc__law_spoilt.nd rfl (by first | exact Or.inl rfl | exact Or.inr rfl) (de_call (ok__law_draw T) (hr.mono (by decide)) (by rfl) T.m__law_draw T.k__law_draw T.b__law_draw (das_box 0 (das_cons de_int das_nil))))
 (dss_cons (ds_set (i := 4) sc__law_spoilt.nd rfl (by first | exact Or.inl rfl | exact Or.inr rfl) (de_ix (hu_of hr) (DE.dp (DF.de (df_lst (da_cons (de_call (ok__law_draw T) (hr.mono (by decide)) (by rfl) T.m__law_draw T.k__law_draw T.b__law_draw (das_box 0 (das_cons de_int das_nil))) (da_cons de_int (da_cons de_int (da_cons de_int (da_cons de_int (da_cons de_int (da_cons de_int (da_cons de_int da_nil))))))))))) (DE.dp (de_call (ok__law_draw T) (hr.mono (by decide)) (by rfl) T.m__law_draw T.k__law_draw T.b__law_draw (das_box 0 (das_cons de_int das_nil)))) (fun _ _ => rfl)))
 (dss_cons (ds_if (dt_cmp (op_eqU hr.units) rop_eq (dp_var 3) (DE.dp de_int) (nomark _)) (dss_one (ds_ret (de_op op_addU rop_add (DE.dp (de_op op_addU rop_add (DE.dp (de_cut (dp_var 1) do_none (do_some (de_var 2)))) (DE.dp (DF.de (df_lst (da_cons (de_var 4) da_nil)))))) (DE.dp (de_cut (dp_var 1) (do_some (de_var 2)) do_none))))) dss_nil)
 (dss_cons (ds_if (dt_cmp (op_eqU hr.units) rop_eq (dp_var 3) (DE.dp de_int) (nomark _)) (dss_one (ds_ret (de_op op_addU rop_add (DE.dp (de_cut (dp_var 1) do_none (do_some (de_var 2)))) (DE.dp (de_cut (dp_var 1) (do_some (de_op op_addU rop_add (dp_var 2) (DE.dp de_int))) do_none))))) dss_nil)
 (dss_cons (ds_if (dt_cmp (op_eqU hr.units) rop_eq (dp_var 3) (DE.dp de_int) (nomark _)) (dss_one (ds_ret (de_cut (dp_var 1) do_none (do_some (de_var 2))))) dss_nil)
 (dss_cons (ds_if (DWt.dt (dw_and (dt_cmp (op_eqU hr.units) rop_eq (dp_var 3) (DE.dp de_int) (nomark _)) (dw_and1 (dt_cmp op_lt rop_lt (dp_var 2) (DE.dp (de_b1 call_lenU ro1_len (by rfl) T.z_len (by decide +kernel) (dp_var 1))) (nomark _))))) (dss_one (ds_ret (de_op op_addU rop_add (DE.dp (de_op op_addU rop_add (DE.dp (de_cut (dp_var 1) do_none (do_some (de_var 2)))) (DE.dp (DF.de (df_lst (da_cons (de_var 4) da_nil)))))) (DE.dp (de_cut (dp_var 1) (do_some (de_op op_addU rop_add (dp_var 2) (DE.dp de_int))) do_none))))) dss_nil)
 (dss_one (ds_ret (de_op op_addU rop_add (dp_var 1) (DE.dp (de_call (ok__law_by_hand T) (hr.mono (by decide)) (by rfl) T.m__law_by_hand T.k__law_by_hand T.b__law_by_hand (das_box 0 das_nil))))))))))))), p__law_spoilt⟩
theorem ok_law (T : Txt K mg) : FnG P w K mg base 4 T.f_law T.d_law ["_law_script"] (spLaw K) :=
  law_boxE T.F_law sc_law (i := 1) (n := 8) rfl (by decide) rfl fun cdv A outer s H hr hgd => ⟨_, w_law0, _, w_law1, (de_call (ok__law_box T) (hr.mono (by decide)) (by rfl) T.m__law_box T.k__law_box T.b__law_box (das_cons (de_var 0) (das_cons de_int (das_cons de_int das_nil)))), (dss_cons (ds_for PassesOwn.never rfl (di_range1 (by rfl) T.z_range (da_cons de_int da_nil)) (dg_name (i := 7) sc_law.nd rfl (by first | exact Or.inl rfl | exact Or.inr rfl)) (dss_cons (ds_setLc (i := 2) (own := [("_law_k", 8)]) rfl sc_law.nd rfl rfl (sw_true rfl rfl rfl (by decide +kernel)) (di_range1 (by rfl) T.z_range (da_cons (de_call (ok__law_draw T) (hr.mono (by decide)) (by rfl) T.m__law_draw T.k__law_draw T.b__law_draw (das_box 1 (das_cons de_int das_nil))) da_nil)) (blkOk_by (own := [("_law_k", 8)]) (N := N_law) (sc := defScope s_law) (by decide +kernel)) (dg_name (i := 8) sc_law.nd rfl (by first | exact Or.inl rfl | exact Or.inr rfl)) dts_nil (de_call (ok__law_some_deed T) (hr.mono (by decide)) (by rfl) T.m__law_some_deed T.k__law_some_deed T.b__law_some_deed (das_box 1 das_nil)) (fun _ _ _ _ _ => (dg_name (i := 8) sc_law.nd rfl (by first | exact Or.inl rfl | exact Or.inr rfl))) (fun _ _ _ _ _ => dts_nil) (fun _ _ _ _ _ => (de_call (ok__law_some_deed T) (hr.mono (by decide)) (by rfl) T.m__law_some_deed T.k__law_some_deed T.b__law_some_deed (das_box 1 das_nil))))
 (dss_cons (ds_set (i := 3) sc_law.nd rfl (by first | exact Or.inl rfl | exact Or.inr rfl) (DF.de (df_lst da_nil)))
 (dss_cons (ds_for PassesOwn.never rfl (di_list (de_var 2)) (dg_name (i := 4) sc_law.nd rfl (by first | exact Or.inl rfl | exact Or.inr rfl)) (dss_cons (ds_if (dt_not (dt_val (de_callG (ok__law_same T) (hr.mono (by decide)) hgd (by rfl) T.m__law_same T.k__law_same T.b__law_same (das_cons (de_call (ok_record_of T) (hr.mono (by decide)) (by rfl) T.m_record_of T.k_record_of T.b_record_of (das_cons (de_var 4) das_nil)) (das_cons (de_call (ok__law_record T) (hr.mono (by decide)) (by rfl) T.m__law_record T.k__law_record T.b__law_record (das_cons (de_var 4) das_nil)) das_nil))) (fun _ => rfl))) (dss_one (ds_ret de_bl)) dss_nil)
 (dss_one (ds_set (i := 3) sc_law.nd rfl (by first | exact Or.inl rfl | exact Or.inr rfl) (de_op op_addU rop_add (dp_var 3) (DE.dp (de_call (ok__law_record T) (hr.mono (by decide)) (by rfl) T.m__law_record T.k__law_record T.b__law_record (das_cons (de_var 4) das_nil))))))))
 (dss_cons (ds_if (dt_not (dt_val (de_callG (ok__law_same T) (hr.mono (by decide)) hgd (by rfl) T.m__law_same T.k__law_same T.b__law_same (das_cons (de_call (ok_recovered T) (hr.mono (by decide)) (by rfl) T.m_recovered T.k_recovered T.b_recovered (das_cons (de_t1 call_list_of ro1_list (by rfl) T.z_list (by decide +kernel) (dp_var 3)) das_nil)) (das_cons (de_tup (da_cons (de_var 2) (da_cons (de_b1 call_lenU ro1_len (by rfl) T.z_len (by decide +kernel) (dp_var 3)) da_nil))) das_nil))) (fun _ => rfl))) (dss_one (ds_ret de_bl)) dss_nil)
 (dss_one (ds_for PassesOwn.never rfl (di_range1 (by rfl) T.z_range (da_cons de_int da_nil)) (dg_name (i := 6) sc_law.nd rfl (by first | exact Or.inl rfl | exact Or.inr rfl)) (dss_cons (ds_set (i := 3) sc_law.nd rfl (by first | exact Or.inl rfl | exact Or.inr rfl) (de_call (ok__law_spoilt T) (hr.mono (by decide)) (by rfl) T.m__law_spoilt T.k__law_spoilt T.b__law_spoilt (das_box 1 (das_cons (de_var 3) das_nil))))
 (dss_cons (ds_set (i := 5) sc_law.nd rfl (by first | exact Or.inl rfl | exact Or.inr rfl) (de_t1 call_list_of ro1_list (by rfl) T.z_list (by decide +kernel) (dp_var 3)))
 (dss_cons (ds_if (DWt.dt (dw_or (dt_not (dt_val (de_callG (ok__law_same T) (hr.mono (by decide)) hgd (by rfl) T.m__law_same T.k__law_same T.b__law_same (das_cons (de_call (ok_recovered T) (hr.mono (by decide)) (by rfl) T.m_recovered T.k_recovered T.b_recovered (das_cons (de_var 5) das_nil)) (das_cons (de_call (ok__law_read T) (hr.mono (by decide)) (by rfl) T.m__law_read T.k__law_read T.b__law_read (das_cons (de_var 3) das_nil)) das_nil))) (fun _ => rfl))) (dw_or1 (dt_cmp (op_neU hr.units) rop_ne (dp_var 5) (dp_var 3) (nomark _))))) (dss_one (ds_ret de_bl)) dss_nil)
 (dss_one (ds_set (i := 3) sc_law.nd rfl (by first | exact Or.inl rfl | exact Or.inr rfl) (de_op op_addU rop_add (dp_var 3) (DE.dp (de_call (ok__law_record T) (hr.mono (by decide)) (by rfl) T.m__law_record T.k__law_record T.b__law_record (das_cons (de_call (ok__law_some_deed T) (hr.mono (by decide)) (by rfl) T.m__law_some_deed T.k__law_some_deed T.b__law_some_deed (das_box 1 das_nil)) das_nil))))))))))))))))
 (dss_one (ds_ret (de_callG (ok__law_same T) (hr.mono (by decide)) hgd (by rfl) T.m__law_same T.k__law_same T.b__law_same (das_cons (de_call (ok_recovered T) (hr.mono (by decide)) (by rfl) T.m_recovered T.k_recovered T.b_recovered (das_cons (DF.de (df_lst da_nil)) das_nil)) (das_cons (de_tup (da_cons (DF.de (df_lst da_nil)) (da_cons de_int da_nil))) das_nil)))))), fun p q => pss_cons (ps_set (i := 1) sc_law.nd rfl (by first | exact Or.inl rfl | exact Or.inr rfl) p) q, p_law0, p_law1⟩
end
theorem all_mk {l : PySem.W.OpenLaw} {w : World} {K : PySem.W.Frag} {h : Heap} {mg : Str → Option Value} {fa : Addr} (X : K.In h) (G : h.Ns mainGlobals mg) (hfa : mg "law" = some (.ref fa))
    {od0 an0 : Option Addr} {sl0 : Array (Option Value)} {oc0 kV0 dc0 pm0 cd0 ct0 : Value} {f0 : Addr}
    {od1 an1 : Option Addr} {sl1 : Array (Option Value)} {oc1 kV1 dc1 pm1 cd1 ct1 : Value} {f1 : Addr}
    {od2 an2 : Option Addr} {sl2 : Array (Option Value)} {oc2 kV2 dc2 pm2 cd2 ct2 : Value} {f2 : Addr}
    {od3 an3 : Option Addr} {sl3 : Array (Option Value)} {oc3 kV3 dc3 pm3 cd3 ct3 : Value} {f3 : Addr}
    {od4 an4 : Option Addr} {sl4 : Array (Option Value)} {oc4 kV4 dc4 pm4 cd4 ct4 : Value} {f4 : Addr}
    {od5 an5 : Option Addr} {sl5 : Array (Option Value)} {oc5 kV5 dc5 pm5 cd5 ct5 : Value} {f5 : Addr}
    {od6 an6 : Option Addr} {sl6 : Array (Option Value)} {oc6 kV6 dc6 pm6 cd6 ct6 : Value} {f6 : Addr}
    {od7 an7 : Option Addr} {sl7 : Array (Option Value)} {oc7 kV7 dc7 pm7 cd7 ct7 : Value} {f7 : Addr}
    {od8 an8 : Option Addr} {sl8 : Array (Option Value)} {oc8 kV8 dc8 pm8 cd8 ct8 : Value} {f8 : Addr}
    {od9 an9 : Option Addr} {sl9 : Array (Option Value)} {oc9 kV9 dc9 pm9 cd9 ct9 : Value} {f9 : Addr}
    {od10 an10 : Option Addr} {sl10 : Array (Option Value)} {oc10 kV10 dc10 pm10 cd10 ct10 : Value} {f10 : Addr}
    {od11 an11 : Option Addr} {sl11 : Array (Option Value)} {oc11 kV11 dc11 pm11 cd11 ct11 : Value} {f11 : Addr}
    {od12 an12 : Option Addr} {sl12 : Array (Option Value)} {oc12 kV12 dc12 pm12 cd12 ct12 : Value} {f12 : Addr}
    {od13 an13 : Option Addr} {sl13 : Array (Option Value)} {oc13 kV13 dc13 pm13 cd13 ct13 : Value} {f13 : Addr}
    {od14 an14 : Option Addr} {sl14 : Array (Option Value)} {oc14 kV14 dc14 pm14 cd14 ct14 : Value} {f14 : Addr}
    {od15 an15 : Option Addr} {sl15 : Array (Option Value)} {oc15 kV15 dc15 pm15 cd15 ct15 : Value} {f15 : Addr}
    {od16 an16 : Option Addr} {sl16 : Array (Option Value)} {oc16 kV16 dc16 pm16 cd16 ct16 : Value} {f16 : Addr}
    {t_LETTERS : Tok}
    {t_MARK : Tok}
    {t_MOST : Tok}
    {t_MOVE : Tok}
    {t_UNDO : Tok}
    {t_YEAR : Tok}
    (a0 : PySem.W.nsIn K mainGlobals "body_of" = some (some (.ref f0))) (l0 : K.lookup f0 = some ⟨oc0, od0, .func (PySem.W.fnOf "body_of" "body_of" (defArgs s_body_of) (defBody s_body_of) (defScope s_body_of) .none kV0 dc0 pm0 an0 cd0 ct0), sl0⟩) (c0 : PySem.W.codeIn K cd0 "body_of" = true) (k0 : PySem.W.keepIn K (.ref f0) = true)
    (a1 : PySem.W.nsIn K mainGlobals "record_of" = some (some (.ref f1))) (l1 : K.lookup f1 = some ⟨oc1, od1, .func (PySem.W.fnOf "record_of" "record_of" (defArgs s_record_of) (defBody s_record_of) (defScope s_record_of) .none kV1 dc1 pm1 an1 cd1 ct1), sl1⟩) (c1 : PySem.W.codeIn K cd1 "record_of" = true) (k1 : PySem.W.keepIn K (.ref f1) = true)
    (a2 : PySem.W.nsIn K mainGlobals "fact_of" = some (some (.ref f2))) (l2 : K.lookup f2 = some ⟨oc2, od2, .func (PySem.W.fnOf "fact_of" "fact_of" (defArgs s_fact_of) (defBody s_fact_of) (defScope s_fact_of) .none kV2 dc2 pm2 an2 cd2 ct2), sl2⟩) (c2 : PySem.W.codeIn K cd2 "fact_of" = true) (k2 : PySem.W.keepIn K (.ref f2) = true)
    (a3 : PySem.W.nsIn K mainGlobals "deed_of" = some (some (.ref f3))) (l3 : K.lookup f3 = some ⟨oc3, od3, .func (PySem.W.fnOf "deed_of" "deed_of" (defArgs s_deed_of) (defBody s_deed_of) (defScope s_deed_of) .none kV3 dc3 pm3 an3 cd3 ct3), sl3⟩) (c3 : PySem.W.codeIn K cd3 "deed_of" = true) (k3 : PySem.W.keepIn K (.ref f3) = true)
    (a4 : PySem.W.nsIn K mainGlobals "recovered" = some (some (.ref f4))) (l4 : K.lookup f4 = some ⟨oc4, od4, .func (PySem.W.fnOf "recovered" "recovered" (defArgs s_recovered) (defBody s_recovered) (defScope s_recovered) .none kV4 dc4 pm4 an4 cd4 ct4), sl4⟩) (c4 : PySem.W.codeIn K cd4 "recovered" = true) (k4 : PySem.W.keepIn K (.ref f4) = true)
    (a5 : PySem.W.nsIn K mainGlobals "_law_cell" = some (some (.ref f5))) (l5 : K.lookup f5 = some ⟨oc5, od5, .func (PySem.W.fnOf "_law_cell" "_law_cell" (defArgs s__law_cell) (defBody s__law_cell) (defScope s__law_cell) .none kV5 dc5 pm5 an5 cd5 ct5), sl5⟩) (c5 : PySem.W.codeIn K cd5 "_law_cell" = true) (k5 : PySem.W.keepIn K (.ref f5) = true)
    (a6 : PySem.W.nsIn K mainGlobals "_law_row" = some (some (.ref f6))) (l6 : K.lookup f6 = some ⟨oc6, od6, .func (PySem.W.fnOf "_law_row" "_law_row" (defArgs s__law_row) (defBody s__law_row) (defScope s__law_row) .none kV6 dc6 pm6 an6 cd6 ct6), sl6⟩) (c6 : PySem.W.codeIn K cd6 "_law_row" = true) (k6 : PySem.W.keepIn K (.ref f6) = true)
    (a7 : PySem.W.nsIn K mainGlobals "_law_box" = some (some (.ref f7))) (l7 : K.lookup f7 = some ⟨oc7, od7, .func (PySem.W.fnOf "_law_box" "_law_box" (defArgs s__law_box) (defBody s__law_box) (defScope s__law_box) .none kV7 dc7 pm7 an7 cd7 ct7), sl7⟩) (c7 : PySem.W.codeIn K cd7 "_law_box" = true) (k7 : PySem.W.keepIn K (.ref f7) = true)
    (a8 : PySem.W.nsIn K mainGlobals "_law_draw" = some (some (.ref f8))) (l8 : K.lookup f8 = some ⟨oc8, od8, .func (PySem.W.fnOf "_law_draw" "_law_draw" (defArgs s__law_draw) (defBody s__law_draw) (defScope s__law_draw) .none kV8 dc8 pm8 an8 cd8 ct8), sl8⟩) (c8 : PySem.W.codeIn K cd8 "_law_draw" = true) (k8 : PySem.W.keepIn K (.ref f8) = true)
    (a9 : PySem.W.nsIn K mainGlobals "_law_same" = some (some (.ref f9))) (l9 : K.lookup f9 = some ⟨oc9, od9, .func (PySem.W.fnOf "_law_same" "_law_same" (defArgs s__law_same) (defBody s__law_same) (defScope s__law_same) .none kV9 dc9 pm9 an9 cd9 ct9), sl9⟩) (c9 : PySem.W.codeIn K cd9 "_law_same" = true) (k9 : PySem.W.keepIn K (.ref f9) = true)
    (a10 : PySem.W.nsIn K mainGlobals "_law_some_deed" = some (some (.ref f10))) (l10 : K.lookup f10 = some ⟨oc10, od10, .func (PySem.W.fnOf "_law_some_deed" "_law_some_deed" (defArgs s__law_some_deed) (defBody s__law_some_deed) (defScope s__law_some_deed) .none kV10 dc10 pm10 an10 cd10 ct10), sl10⟩) (c10 : PySem.W.codeIn K cd10 "_law_some_deed" = true) (k10 : PySem.W.keepIn K (.ref f10) = true)
    (a11 : PySem.W.nsIn K mainGlobals "_law_record" = some (some (.ref f11))) (l11 : K.lookup f11 = some ⟨oc11, od11, .func (PySem.W.fnOf "_law_record" "_law_record" (defArgs s__law_record) (defBody s__law_record) (defScope s__law_record) .none kV11 dc11 pm11 an11 cd11 ct11), sl11⟩) (c11 : PySem.W.codeIn K cd11 "_law_record" = true) (k11 : PySem.W.keepIn K (.ref f11) = true)
    (a12 : PySem.W.nsIn K mainGlobals "_law_body_told" = some (some (.ref f12))) (l12 : K.lookup f12 = some ⟨oc12, od12, .func (PySem.W.fnOf "_law_body_told" "_law_body_told" (defArgs s__law_body_told) (defBody s__law_body_told) (defScope s__law_body_told) .none kV12 dc12 pm12 an12 cd12 ct12), sl12⟩) (c12 : PySem.W.codeIn K cd12 "_law_body_told" = true) (k12 : PySem.W.keepIn K (.ref f12) = true)
    (a13 : PySem.W.nsIn K mainGlobals "_law_read" = some (some (.ref f13))) (l13 : K.lookup f13 = some ⟨oc13, od13, .func (PySem.W.fnOf "_law_read" "_law_read" (defArgs s__law_read) (defBody s__law_read) (defScope s__law_read) .none kV13 dc13 pm13 an13 cd13 ct13), sl13⟩) (c13 : PySem.W.codeIn K cd13 "_law_read" = true) (k13 : PySem.W.keepIn K (.ref f13) = true)
    (a14 : PySem.W.nsIn K mainGlobals "_law_by_hand" = some (some (.ref f14))) (l14 : K.lookup f14 = some ⟨oc14, od14, .func (PySem.W.fnOf "_law_by_hand" "_law_by_hand" (defArgs s__law_by_hand) (defBody s__law_by_hand) (defScope s__law_by_hand) .none kV14 dc14 pm14 an14 cd14 ct14), sl14⟩) (c14 : PySem.W.codeIn K cd14 "_law_by_hand" = true) (k14 : PySem.W.keepIn K (.ref f14) = true)
    (a15 : PySem.W.nsIn K mainGlobals "_law_spoilt" = some (some (.ref f15))) (l15 : K.lookup f15 = some ⟨oc15, od15, .func (PySem.W.fnOf "_law_spoilt" "_law_spoilt" (defArgs s__law_spoilt) (defBody s__law_spoilt) (defScope s__law_spoilt) .none kV15 dc15 pm15 an15 cd15 ct15), sl15⟩) (c15 : PySem.W.codeIn K cd15 "_law_spoilt" = true) (k15 : PySem.W.keepIn K (.ref f15) = true)
    (a16 : PySem.W.nsIn K mainGlobals "law" = some (some (.ref f16))) (l16 : K.lookup f16 = some ⟨oc16, od16, .func (PySem.W.fnOf "law" "law" (defArgs s_law) (defBody s_law) (defScope s_law) .none kV16 dc16 pm16 an16 cd16 ct16), sl16⟩) (c16 : PySem.W.codeIn K cd16 "law" = true) (k16 : PySem.W.keepIn K (.ref f16) = true)
    (z_int : PySem.W.nsIn K mainGlobals "int" = some none)
    (z_len : PySem.W.nsIn K mainGlobals "len" = some none)
    (z_list : PySem.W.nsIn K mainGlobals "list" = some none)
    (z_ord : PySem.W.nsIn K mainGlobals "ord" = some none)
    (z_range : PySem.W.nsIn K mainGlobals "range" = some none)
    (z_repr : PySem.W.nsIn K mainGlobals "repr" = some none)
    (z_sum : PySem.W.nsIn K mainGlobals "sum" = some none)
    (c_LETTERS : PySem.W.nsIn K mainGlobals "LETTERS" = some (some (.str "abcdefghijklmnopqrstuvwxyz" t_LETTERS)))
    (c_MARK : PySem.W.nsIn K mainGlobals "MARK" = some (some (.int (170) t_MARK)))
    (c_MOST : PySem.W.nsIn K mainGlobals "MOST" = some (some (.int (8) t_MOST)))
    (c_MOVE : PySem.W.nsIn K mainGlobals "MOVE" = some (some (.int (2) t_MOVE)))
    (c_UNDO : PySem.W.nsIn K mainGlobals "UNDO" = some (some (.int (3) t_UNDO)))
    (c_YEAR : PySem.W.nsIn K mainGlobals "YEAR" = some (some (.int (1) t_YEAR))) :
    ∃ fd : FuncData, (∀ (s : Shared) (v : Value), BindsTo s fd ⟨[v], []⟩ [("_law_script", v)]) ∧ ∀ base : Heap, K.In base → base.Ns mainGlobals mg → FnG l.prog w K mg base 4 fa fd ["_law_script"] (spLaw K) := by
  have e := hfa.symm.trans (PySem.W.mg_of X G a16)
  cases e
  let T : Txt K mg := {
    f_body_of := f0,
    d_body_of := PySem.W.fnOf "body_of" "body_of" (defArgs s_body_of) (defBody s_body_of) (defScope s_body_of) .none kV0 dc0 pm0 an0 cd0 ct0, F_body_of := fun_mk (st := s_body_of) l0 c0 k0, m_body_of := PySem.W.mg_of X G a0, k_body_of := k0, b_body_of := (fun_mk (st := s_body_of) l0 c0 k0).binds (ps := ["deed"]) (fun _ _ _ _ _ _ us hl => match us, hl with | [_], _ => rfl),
    f_record_of := f1,
    d_record_of := PySem.W.fnOf "record_of" "record_of" (defArgs s_record_of) (defBody s_record_of) (defScope s_record_of) .none kV1 dc1 pm1 an1 cd1 ct1, F_record_of := fun_mk (st := s_record_of) l1 c1 k1, m_record_of := PySem.W.mg_of X G a1, k_record_of := k1, b_record_of := (fun_mk (st := s_record_of) l1 c1 k1).binds (ps := ["deed"]) (fun _ _ _ _ _ _ us hl => match us, hl with | [_], _ => rfl),
    f_fact_of := f2,
    d_fact_of := PySem.W.fnOf "fact_of" "fact_of" (defArgs s_fact_of) (defBody s_fact_of) (defScope s_fact_of) .none kV2 dc2 pm2 an2 cd2 ct2, F_fact_of := fun_mk (st := s_fact_of) l2 c2 k2, m_fact_of := PySem.W.mg_of X G a2, k_fact_of := k2, b_fact_of := (fun_mk (st := s_fact_of) l2 c2 k2).binds (ps := ["octets"]) (fun _ _ _ _ _ _ us hl => match us, hl with | [_], _ => rfl),
    f_deed_of := f3,
    d_deed_of := PySem.W.fnOf "deed_of" "deed_of" (defArgs s_deed_of) (defBody s_deed_of) (defScope s_deed_of) .none kV3 dc3 pm3 an3 cd3 ct3, F_deed_of := fun_mk (st := s_deed_of) l3 c3 k3, m_deed_of := PySem.W.mg_of X G a3, k_deed_of := k3, b_deed_of := (fun_mk (st := s_deed_of) l3 c3 k3).binds (ps := ["body"]) (fun _ _ _ _ _ _ us hl => match us, hl with | [_], _ => rfl),
    f_recovered := f4,
    d_recovered := PySem.W.fnOf "recovered" "recovered" (defArgs s_recovered) (defBody s_recovered) (defScope s_recovered) .none kV4 dc4 pm4 an4 cd4 ct4, F_recovered := fun_mk (st := s_recovered) l4 c4 k4, m_recovered := PySem.W.mg_of X G a4, k_recovered := k4, b_recovered := (fun_mk (st := s_recovered) l4 c4 k4).binds (ps := ["octets"]) (fun _ _ _ _ _ _ us hl => match us, hl with | [_], _ => rfl),
    f__law_cell := f5,
    d__law_cell := PySem.W.fnOf "_law_cell" "_law_cell" (defArgs s__law_cell) (defBody s__law_cell) (defScope s__law_cell) .none kV5 dc5 pm5 an5 cd5 ct5, F__law_cell := fun_mk (st := s__law_cell) l5 c5 k5, m__law_cell := PySem.W.mg_of X G a5, k__law_cell := k5, b__law_cell := (fun_mk (st := s__law_cell) l5 c5 k5).binds (ps := ["_law_script", "_law_k"]) (fun _ _ _ _ _ _ us hl => match us, hl with | [_, _], _ => rfl),
    f__law_row := f6,
    d__law_row := PySem.W.fnOf "_law_row" "_law_row" (defArgs s__law_row) (defBody s__law_row) (defScope s__law_row) .none kV6 dc6 pm6 an6 cd6 ct6, F__law_row := fun_mk (st := s__law_row) l6 c6 k6, m__law_row := PySem.W.mg_of X G a6, k__law_row := k6, b__law_row := (fun_mk (st := s__law_row) l6 c6 k6).binds (ps := ["_law_cell_here", "_law_k", "_law_many"]) (fun _ _ _ _ _ _ us hl => match us, hl with | [_, _, _], _ => rfl),
    f__law_box := f7,
    d__law_box := PySem.W.fnOf "_law_box" "_law_box" (defArgs s__law_box) (defBody s__law_box) (defScope s__law_box) .none kV7 dc7 pm7 an7 cd7 ct7, F__law_box := fun_mk (st := s__law_box) l7 c7 k7, m__law_box := PySem.W.mg_of X G a7, k__law_box := k7, b__law_box := (fun_mk (st := s__law_box) l7 c7 k7).binds (ps := ["_law_script", "_law_first", "_law_last"]) (fun _ _ _ _ _ _ us hl => match us, hl with | [_, _, _], _ => rfl),
    f__law_draw := f8,
    d__law_draw := PySem.W.fnOf "_law_draw" "_law_draw" (defArgs s__law_draw) (defBody s__law_draw) (defScope s__law_draw) .none kV8 dc8 pm8 an8 cd8 ct8, F__law_draw := fun_mk (st := s__law_draw) l8 c8 k8, m__law_draw := PySem.W.mg_of X G a8, k__law_draw := k8, b__law_draw := (fun_mk (st := s__law_draw) l8 c8 k8).binds (ps := ["_law_box_here", "_law_many"]) (fun _ _ _ _ _ _ us hl => match us, hl with | [_, _], _ => rfl),
    f__law_same := f9,
    d__law_same := PySem.W.fnOf "_law_same" "_law_same" (defArgs s__law_same) (defBody s__law_same) (defScope s__law_same) .none kV9 dc9 pm9 an9 cd9 ct9, F__law_same := fun_mk (st := s__law_same) l9 c9 k9, m__law_same := PySem.W.mg_of X G a9, k__law_same := k9, b__law_same := (fun_mk (st := s__law_same) l9 c9 k9).binds (ps := ["_law_one", "_law_other"]) (fun _ _ _ _ _ _ us hl => match us, hl with | [_, _], _ => rfl),
    f__law_some_deed := f10,
    d__law_some_deed := PySem.W.fnOf "_law_some_deed" "_law_some_deed" (defArgs s__law_some_deed) (defBody s__law_some_deed) (defScope s__law_some_deed) .none kV10 dc10 pm10 an10 cd10 ct10, F__law_some_deed := fun_mk (st := s__law_some_deed) l10 c10 k10, m__law_some_deed := PySem.W.mg_of X G a10, k__law_some_deed := k10, b__law_some_deed := (fun_mk (st := s__law_some_deed) l10 c10 k10).binds (ps := ["_law_box_here"]) (fun _ _ _ _ _ _ us hl => match us, hl with | [_], _ => rfl),
    f__law_record := f11,
    d__law_record := PySem.W.fnOf "_law_record" "_law_record" (defArgs s__law_record) (defBody s__law_record) (defScope s__law_record) .none kV11 dc11 pm11 an11 cd11 ct11, F__law_record := fun_mk (st := s__law_record) l11 c11 k11, m__law_record := PySem.W.mg_of X G a11, k__law_record := k11, b__law_record := (fun_mk (st := s__law_record) l11 c11 k11).binds (ps := ["_law_deed"]) (fun _ _ _ _ _ _ us hl => match us, hl with | [_], _ => rfl),
    f__law_body_told := f12,
    d__law_body_told := PySem.W.fnOf "_law_body_told" "_law_body_told" (defArgs s__law_body_told) (defBody s__law_body_told) (defScope s__law_body_told) .none kV12 dc12 pm12 an12 cd12 ct12, F__law_body_told := fun_mk (st := s__law_body_told) l12 c12 k12, m__law_body_told := PySem.W.mg_of X G a12, k__law_body_told := k12, b__law_body_told := (fun_mk (st := s__law_body_told) l12 c12 k12).binds (ps := ["_law_body"]) (fun _ _ _ _ _ _ us hl => match us, hl with | [_], _ => rfl),
    f__law_read := f13,
    d__law_read := PySem.W.fnOf "_law_read" "_law_read" (defArgs s__law_read) (defBody s__law_read) (defScope s__law_read) .none kV13 dc13 pm13 an13 cd13 ct13, F__law_read := fun_mk (st := s__law_read) l13 c13 k13, m__law_read := PySem.W.mg_of X G a13, k__law_read := k13, b__law_read := (fun_mk (st := s__law_read) l13 c13 k13).binds (ps := ["_law_octets"]) (fun _ _ _ _ _ _ us hl => match us, hl with | [_], _ => rfl),
    f__law_by_hand := f14,
    d__law_by_hand := PySem.W.fnOf "_law_by_hand" "_law_by_hand" (defArgs s__law_by_hand) (defBody s__law_by_hand) (defScope s__law_by_hand) .none kV14 dc14 pm14 an14 cd14 ct14, F__law_by_hand := fun_mk (st := s__law_by_hand) l14 c14 k14, m__law_by_hand := PySem.W.mg_of X G a14, k__law_by_hand := k14, b__law_by_hand := (fun_mk (st := s__law_by_hand) l14 c14 k14).binds (ps := ["_law_box_here"]) (fun _ _ _ _ _ _ us hl => match us, hl with | [_], _ => rfl),
    f__law_spoilt := f15,
    d__law_spoilt := PySem.W.fnOf "_law_spoilt" "_law_spoilt" (defArgs s__law_spoilt) (defBody s__law_spoilt) (defScope s__law_spoilt) .none kV15 dc15 pm15 an15 cd15 ct15, F__law_spoilt := fun_mk (st := s__law_spoilt) l15 c15 k15, m__law_spoilt := PySem.W.mg_of X G a15, k__law_spoilt := k15, b__law_spoilt := (fun_mk (st := s__law_spoilt) l15 c15 k15).binds (ps := ["_law_box_here", "_law_octets"]) (fun _ _ _ _ _ _ us hl => match us, hl with | [_, _], _ => rfl),
    f_law := fa,
    d_law := PySem.W.fnOf "law" "law" (defArgs s_law) (defBody s_law) (defScope s_law) .none kV16 dc16 pm16 an16 cd16 ct16, F_law := fun_mk (st := s_law) l16 c16 k16, m_law := PySem.W.mg_of X G a16, k_law := k16, b_law := (fun_mk (st := s_law) l16 c16 k16).binds (ps := ["_law_script"]) (fun _ _ _ _ _ _ us hl => match us, hl with | [_], _ => rfl),
    z_int := PySem.W.mg_none_of X G z_int,
    z_len := PySem.W.mg_none_of X G z_len,
    z_list := PySem.W.mg_none_of X G z_list,
    z_ord := PySem.W.mg_none_of X G z_ord,
    z_range := PySem.W.mg_none_of X G z_range,
    z_repr := PySem.W.mg_none_of X G z_repr,
    z_sum := PySem.W.mg_none_of X G z_sum,
    t_LETTERS := t_LETTERS, c_LETTERS := PySem.W.mg_of X G c_LETTERS,
    t_MARK := t_MARK, c_MARK := PySem.W.mg_of X G c_MARK,
    t_MOST := t_MOST, c_MOST := PySem.W.mg_of X G c_MOST,
    t_MOVE := t_MOVE, c_MOVE := PySem.W.mg_of X G c_MOVE,
    t_UNDO := t_UNDO, c_UNDO := PySem.W.mg_of X G c_UNDO,
    t_YEAR := t_YEAR, c_YEAR := PySem.W.mg_of X G c_YEAR }
  exact ⟨T.d_law, fun s v => .of_eq rfl, fun base _ _ => ok_law T⟩
end DL
open PySem PySem.W PyProof.Rows in
set_option maxRecDepth 100000 in
set_option maxHeartbeats 0 in
theorem PySem.Challenge.cw_movedyears_k55_records_holds : PySem.Challenge.rw_movedyears_k55_records.Holds := by
  w_on; o_law; k_head; (case hw => w_witness2)
  k_fill
  refine DL.walkG (l := PySem.Challenge.rw_movedyears_k55_records) (k := 4) (x := "_law_script") rfl rfl ⟨rfl, by decide, by decide⟩ (fun w h Y => PySem.W.kIn_of Y) ?F
  case F =>
    intro w mg fa h KX G hmg
    refine' DL.all_mk KX G hmg ?a0 ?l0 ?c0 ?k0 ?a1 ?l1 ?c1 ?k1 ?a2 ?l2 ?c2 ?k2 ?a3 ?l3 ?c3 ?k3 ?a4 ?l4 ?c4 ?k4 ?a5 ?l5 ?c5 ?k5 ?a6 ?l6 ?c6 ?k6 ?a7 ?l7 ?c7 ?k7 ?a8 ?l8 ?c8 ?k8 ?a9 ?l9 ?c9 ?k9 ?a10 ?l10 ?c10 ?k10 ?a11 ?l11 ?c11 ?k11 ?a12 ?l12 ?c12 ?k12 ?a13 ?l13 ?c13 ?k13 ?a14 ?l14 ?c14 ?k14 ?a15 ?l15 ?c15 ?k15 ?a16 ?l16 ?c16 ?k16 ?z_int ?z_len ?z_list ?z_ord ?z_range ?z_repr ?z_sum ?c_LETTERS ?c_MARK ?c_MOST ?c_MOVE ?c_UNDO ?c_YEAR
    (case a0 => k_is)
    (case l0 => k_is)
    (case c0 => k_is)
    (case k0 => k_is)
    (case a1 => k_is)
    (case l1 => k_is)
    (case c1 => k_is)
    (case k1 => k_is)
    (case a2 => k_is)
    (case l2 => k_is)
    (case c2 => k_is)
    (case k2 => k_is)
    (case a3 => k_is)
    (case l3 => k_is)
    (case c3 => k_is)
    (case k3 => k_is)
    (case a4 => k_is)
    (case l4 => k_is)
    (case c4 => k_is)
    (case k4 => k_is)
    (case a5 => k_is)
    (case l5 => k_is)
    (case c5 => k_is)
    (case k5 => k_is)
    (case a6 => k_is)
    (case l6 => k_is)
    (case c6 => k_is)
    (case k6 => k_is)
    (case a7 => k_is)
    (case l7 => k_is)
    (case c7 => k_is)
    (case k7 => k_is)
    (case a8 => k_is)
    (case l8 => k_is)
    (case c8 => k_is)
    (case k8 => k_is)
    (case a9 => k_is)
    (case l9 => k_is)
    (case c9 => k_is)
    (case k9 => k_is)
    (case a10 => k_is)
    (case l10 => k_is)
    (case c10 => k_is)
    (case k10 => k_is)
    (case a11 => k_is)
    (case l11 => k_is)
    (case c11 => k_is)
    (case k11 => k_is)
    (case a12 => k_is)
    (case l12 => k_is)
    (case c12 => k_is)
    (case k12 => k_is)
    (case a13 => k_is)
    (case l13 => k_is)
    (case c13 => k_is)
    (case k13 => k_is)
    (case a14 => k_is)
    (case l14 => k_is)
    (case c14 => k_is)
    (case k14 => k_is)
    (case a15 => k_is)
    (case l15 => k_is)
    (case c15 => k_is)
    (case k15 => k_is)
    (case a16 => k_is)
    (case l16 => k_is)
    (case c16 => k_is)
    (case k16 => k_is)
    (case z_int => k_is)
    (case z_len => k_is)
    (case z_list => k_is)
    (case z_ord => k_is)
    (case z_range => k_is)
    (case z_repr => k_is)
    (case z_sum => k_is)
    (case c_LETTERS => k_is)
    (case c_MARK => k_is)
    (case c_MOST => k_is)
    (case c_MOVE => k_is)
    (case c_UNDO => k_is)
    (case c_YEAR => k_is)
