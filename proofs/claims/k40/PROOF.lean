import PyProof.Rows.All
import Wide.All
import OpenK.AllK
import Wide.FinOn
import HandS.ForMost
import HandS.Deep
import HandS.DictComp
import HandS.Conv
import HandS.Flow
import HandS.Style
import HandS.Codes
import HandS.Steps
import HandS.StrMore
import HandS.Replace
import HandS.RaiseMore
import HandS.SortInts
import PyProof.Rows.ReprShort
import HandS.More
import HandS.IsInst
import HandS.TryOnly
import HandS.DeepEq
import HandS.Gcd
import HandS.WordsExc
import HandS.ExcOwn
import HandS.ExcIs
import PySem.Challenge.RW_movedyears_k40_pairs_that_are_met
set_option Elab.async false
set_option linter.all false
set_option maxRecDepth 100000
set_option maxHeartbeats 4000000
/-! A layer over HandS: data, frozen and changing heaps, slots; judgements whose readings know no heap. -/
namespace DL
open PySem L2

/-! ### data -/
inductive D where
  | non | bl (b : Bool) | int (i : Int) | str (s : Str)
  | lst (xs : List D) | tup (xs : List D) | scr (xs : List D)
  | dk (ks : List Key) (xs : List D) | dt (ks : List (List Key)) (xs : List D)
  | ins (c : Str) (fs : List Str) (xs : List D)
  deriving Inhabited

/-- what the module's text has written -/
structure Cy where
  K : PySem.W.Frag
  mg : Str → Option Value

mutual
/-- the value v stands for the data d in the heap F -/
def Dr (c : Cy) (F : Hp) (v : V) : D → Prop
  | .non => v = .non
  | .bl b => v = .bl b
  | .int i => v = .int i
  | .str s => v = .str s
  | .lst ds => ∃ a vs, v = .ref a ∧ F a = some (.lst vs) ∧ DrL c F vs ds
  | .tup ds => ∃ a vs, v = .ref a ∧ F a = some (.tup vs) ∧ DrL c F vs ds
  | .scr ds => ∃ a vs, v = .ref a ∧ SqL c.K F a vs ∧ DrL c F vs ds
  | .dk ks ds => ∃ a ps, v = .ref a ∧ Rd F a (.dK ps) ∧ ps.map (·.1) = ks ∧ DrL c F (ps.map (·.2)) ds
  | .dt ks ds => ∃ a ps, v = .ref a ∧ Rd F a (.dT ps) ∧ ps.map (·.1) = ks ∧ DrL c F (ps.map (·.2)) ds
  | .ins n fs ds => ∃ a C dx ps, v = .ref a ∧ F a = some (.ins C dx ps) ∧ c.mg n = some (.ref C) ∧ ps.map (·.1) = fs ∧ DrL c F (ps.map (·.2)) ds
def DrL (c : Cy) (F : Hp) (vs : List V) : List D → Prop
  | [] => vs = []
  | d :: ds => ∃ v vr, vs = v :: vr ∧ Dr c F v d ∧ DrL c F vr ds
end

/-! ### heaps that grow -/
/-- an object that no lock changes -/
def Pl : HO → Prop
  | .lst _ => True
  | .tup _ => True
  | .ins _ _ _ => True
  | .own _ => True
  | _ => False
/-- readable things stay readable -/
structure LeD (F G : Hp) : Prop where
  pl : ∀ a o, F a = some o → Pl o → G a = some o
  rd : ∀ a u, Rd F a u → Rd G a u
theorem LeD.refl (F : Hp) : LeD F F := ⟨fun _ _ h _ => h, fun _ _ h => h⟩
theorem LeD.trans {F G J : Hp} (a : LeD F G) (b : LeD G J) : LeD F J := ⟨fun x o h p => b.pl x o (a.pl x o h p) p, fun x u h => b.rd x u (a.rd x u h)⟩
theorem same_rd {F G : Hp} (s : Same F G) {a : Addr} {u : HO} (h : Rd F a u) : Rd G a u := by
  rcases h with h | ⟨o, h⟩
  · exact .inl (s _ _ h)
  · exact .inr ⟨o, s _ _ h⟩
theorem LeD.seq {F G : Hp} (s : LeD F G) {K : PySem.W.Frag} {a : Addr} {xs : List V} (h : SqL K F a xs) : SqL K G a xs := by
  rcases h with h | h
  · exact .inl (s.rd _ _ h)
  · exact .inr h
theorem LeD.of {F G : Hp} (s : Same F G) : LeD F G := ⟨fun a o h _ => s a o h, fun a u h => same_rd s h⟩

mutual
theorem Dr.leD {c : Cy} {F G : Hp} (s : LeD F G) : ∀ (d : D) {v : V}, Dr c F v d → Dr c G v d
  | .non, v, h => by simpa only [Dr] using h
  | .bl b, v, h => by simpa only [Dr] using h
  | .int i, v, h => by simpa only [Dr] using h
  | .str x, v, h => by simpa only [Dr] using h
  | .lst ds, v, h => by
    simp only [Dr] at h ⊢
    obtain ⟨a, vs, e, q, r⟩ := h
    exact ⟨a, vs, e, s.pl _ _ q trivial, DrL.leD s ds r⟩
  | .tup ds, v, h => by
    simp only [Dr] at h ⊢
    obtain ⟨a, vs, e, q, r⟩ := h
    exact ⟨a, vs, e, s.pl _ _ q trivial, DrL.leD s ds r⟩
  | .scr ds, v, h => by
    simp only [Dr] at h ⊢
    obtain ⟨a, vs, e, q, r⟩ := h
    exact ⟨a, vs, e, s.seq q, DrL.leD s ds r⟩
  | .dk ks ds, v, h => by
    simp only [Dr] at h ⊢
    obtain ⟨a, vs, e, q, k, r⟩ := h
    exact ⟨a, vs, e, s.rd _ _ q, k, DrL.leD s ds r⟩
  | .dt ks ds, v, h => by
    simp only [Dr] at h ⊢
    obtain ⟨a, vs, e, q, k, r⟩ := h
    exact ⟨a, vs, e, s.rd _ _ q, k, DrL.leD s ds r⟩
  | .ins n fs ds, v, h => by
    simp only [Dr] at h ⊢
    obtain ⟨a, C, dx, ps, e, q, m, k, r⟩ := h
    exact ⟨a, C, dx, ps, e, s.pl _ _ q trivial, m, k, DrL.leD s ds r⟩
theorem DrL.leD {c : Cy} {F G : Hp} (s : LeD F G) : ∀ (ds : List D) {vs : List V}, DrL c F vs ds → DrL c G vs ds
  | [], vs, h => by simpa only [DrL] using h
  | d :: ds, vs, h => by
    simp only [DrL] at h ⊢
    obtain ⟨v, vr, e, q, r⟩ := h
    exact ⟨v, vr, e, Dr.leD s d q, DrL.leD s ds r⟩
end
theorem Dr.up {c : Cy} {F G : Hp} {d : D} {v : V} (s : Same F G) (h : Dr c F v d) : Dr c G v d := Dr.leD (.of s) d h
theorem DrL.up {c : Cy} {F G : Hp} {ds : List D} {vs : List V} (s : Same F G) (h : DrL c F vs ds) : DrL c G vs ds := DrL.leD (.of s) ds h

theorem DrL.nil {c : Cy} {F : Hp} : DrL c F [] [] := by simp only [DrL]
theorem DrL.cons {c : Cy} {F : Hp} {v : V} {vs : List V} {d : D} {ds : List D} (h : Dr c F v d) (r : DrL c F vs ds) : DrL c F (v :: vs) (d :: ds) := by
  simp only [DrL]
  exact ⟨v, vs, rfl, h, r⟩
theorem DrL.nil_iff {c : Cy} {F : Hp} {vs : List V} (h : DrL c F vs []) : vs = [] := by simpa only [DrL] using h
theorem DrL.cons_iff {c : Cy} {F : Hp} {vs : List V} {d : D} {ds : List D} (h : DrL c F vs (d :: ds)) : ∃ v vr, vs = v :: vr ∧ Dr c F v d ∧ DrL c F vr ds := by simpa only [DrL] using h
theorem DrL.length {c : Cy} {F : Hp} : ∀ {ds : List D} {vs : List V}, DrL c F vs ds → vs.length = ds.length
  | [], vs, h => by rw [h.nil_iff]; rfl
  | d :: ds, vs, h => by
    obtain ⟨v, vr, rfl, _, r⟩ := h.cons_iff
    rw [List.length_cons, List.length_cons, DrL.length r]
theorem DrL.append {c : Cy} {F : Hp} : ∀ {ds es : List D} {vs us : List V}, DrL c F vs ds → DrL c F us es → DrL c F (vs ++ us) (ds ++ es)
  | [], es, vs, us, h, r => by rw [h.nil_iff]; exact r
  | d :: ds, es, vs, us, h, r => by
    obtain ⟨v, vr, rfl, q, t⟩ := h.cons_iff
    exact .cons q (DrL.append t r)
theorem DrL.get {c : Cy} {F : Hp} : ∀ {ds : List D} {vs : List V} {i : Nat} {d : D}, DrL c F vs ds → ds[i]? = some d → ∃ v, vs[i]? = some v ∧ Dr c F v d
  | [], _, _, _, _, e => by simp at e
  | d :: ds, vs, 0, x, h, e => by
    obtain ⟨v, vr, rfl, q, t⟩ := h.cons_iff
    simp at e; subst e
    exact ⟨v, rfl, q⟩
  | d :: ds, vs, i + 1, x, h, e => by
    obtain ⟨v, vr, rfl, q, t⟩ := h.cons_iff
    obtain ⟨u, h1, h2⟩ := DrL.get (i := i) t (by simpa using e)
    exact ⟨u, by simpa using h1, h2⟩
theorem DrL.get' {c : Cy} {F : Hp} : ∀ {ds : List D} {vs : List V} {i : Nat} {v : V}, DrL c F vs ds → vs[i]? = some v → ∃ d, ds[i]? = some d ∧ Dr c F v d
  | [], vs, i, v, h, e => by rw [h.nil_iff] at e; simp at e
  | d :: ds, vs, 0, x, h, e => by
    obtain ⟨v, vr, rfl, q, t⟩ := h.cons_iff
    simp at e; subst e
    exact ⟨d, rfl, q⟩
  | d :: ds, vs, i + 1, x, h, e => by
    obtain ⟨v, vr, rfl, q, t⟩ := h.cons_iff
    obtain ⟨u, h1, h2⟩ := DrL.get' (i := i) t (by simpa using e)
    exact ⟨u, by simpa using h1, h2⟩
theorem DrL.set {c : Cy} {F : Hp} : ∀ {ds : List D} {vs : List V} {i : Nat} {d : D} {v : V}, DrL c F vs ds → Dr c F v d → DrL c F (vs.set i v) (ds.set i d)
  | [], vs, i, d, v, h, _ => by rw [h.nil_iff]; exact .nil
  | e :: ds, vs, 0, d, v, h, q => by
    obtain ⟨u, vr, rfl, _, t⟩ := h.cons_iff
    exact .cons q t
  | e :: ds, vs, i + 1, d, v, h, q => by
    obtain ⟨u, vr, rfl, r, t⟩ := h.cons_iff
    exact .cons r (DrL.set t q)
theorem DrL.take {c : Cy} {F : Hp} : ∀ {ds : List D} {vs : List V} (n : Nat), DrL c F vs ds → DrL c F (vs.take n) (ds.take n)
  | _, _, 0, _ => .nil
  | [], vs, n + 1, h => by rw [h.nil_iff]; exact .nil
  | e :: ds, vs, n + 1, h => by
    obtain ⟨u, vr, rfl, r, t⟩ := h.cons_iff
    exact .cons r (DrL.take n t)
theorem DrL.drop {c : Cy} {F : Hp} : ∀ {ds : List D} {vs : List V} (n : Nat), DrL c F vs ds → DrL c F (vs.drop n) (ds.drop n)
  | _, _, 0, h => h
  | [], vs, n + 1, h => by rw [h.nil_iff]; exact .nil
  | e :: ds, vs, n + 1, h => by
    obtain ⟨u, vr, rfl, r, t⟩ := h.cons_iff
    exact DrL.drop n t
theorem DrL.ints {c : Cy} {F : Hp} : ∀ {ns : List Int} {vs : List V}, DrL c F vs (ns.map D.int) → vs = ns.map V.int
  | [], vs, h => h.nil_iff
  | n :: ns, vs, h => by
    obtain ⟨u, vr, rfl, r, t⟩ := h.cons_iff
    simp only [Dr] at r
    rw [r, DrL.ints t]; rfl
theorem DrL.of_ints {c : Cy} {F : Hp} : ∀ (ns : List Int), DrL c F (ns.map V.int) (ns.map D.int)
  | [] => .nil
  | n :: ns => .cons (by simp only [Dr]) (DrL.of_ints ns)

/-! ### the frozen part and the changing part -/
def HH (F M : Hp) : Hp := fun a => match M a with
  | some o => some o
  | none => F a
def Dj (F M : Hp) : Prop := ∀ a o, M a = some o → F a = none
theorem hh_m {F M : Hp} {a : Addr} {o : HO} (h : M a = some o) : HH F M a = some o := by unfold HH; rw [h]
theorem hh_n {F M : Hp} {a : Addr} (h : M a = none) : HH F M a = F a := by unfold HH; rw [h]
theorem Dj.mn {F M : Hp} (d : Dj F M) {a : Addr} {o : HO} (h : F a = some o) : M a = none := by
  cases q : M a with
  | none => rfl
  | some u => rw [d a u q] at h; cases h
theorem Dj.f {F M : Hp} (d : Dj F M) {a : Addr} {o : HO} (h : F a = some o) : HH F M a = some o := by rw [hh_n (d.mn h)]; exact h
theorem Dj.same {F M : Hp} (d : Dj F M) : Same F (HH F M) := fun _ _ h => d.f h
theorem hh_none {F M : Hp} {a : Addr} (h : HH F M a = none) : F a = none ∧ M a = none := by
  unfold HH at h
  cases q : M a with
  | none => rw [q] at h; exact ⟨h, rfl⟩
  | some o => rw [q] at h; cases h
theorem hh_some {F M : Hp} {a : Addr} {o : HO} (h : HH F M a = some o) : M a = some o ∨ (M a = none ∧ F a = some o) := by
  unfold HH at h
  cases q : M a with
  | none => rw [q] at h; exact .inr ⟨rfl, h⟩
  | some u => rw [q] at h; exact .inl h
/-- a new thing, frozen at once -/
theorem hh_updF {F M : Hp} {a : Addr} {o : HO} (h : M a = none) : upd (HH F M) a o = HH (upd F a o) M := by
  funext b
  by_cases e : b = a
  · subst e; rw [upd_same, hh_n h, upd_same]
  · rw [upd_ne e]
    unfold HH
    cases M b with
    | none => exact (upd_ne e).symm
    | some u => rfl
/-- a new thing that may change; a changed thing -/
theorem hh_updM {F M : Hp} {a : Addr} {o : HO} : upd (HH F M) a o = HH F (upd M a o) := by
  funext b
  by_cases e : b = a
  · subst e; rw [upd_same, hh_m upd_same]
  · rw [upd_ne e]
    unfold HH
    rw [upd_ne e]
theorem Dj.updF {F M : Hp} (d : Dj F M) {a : Addr} {o : HO} (h : M a = none) : Dj (upd F a o) M := fun b u q => by
  have e : b ≠ a := fun z => by rw [z, h] at q; cases q
  rw [upd_ne e]; exact d b u q
theorem Dj.updM {F M : Hp} (d : Dj F M) {a : Addr} {o : HO} (h : F a = none) : Dj F (upd M a o) := fun b u q => by
  by_cases e : b = a
  · rw [e]; exact h
  · rw [upd_ne e] at q; exact d b u q
theorem Same.updF {F : Hp} {a : Addr} {o : HO} (h : F a = none) : Same F (upd F a o) := fun b u q => by
  rw [upd_ne (ne_of_none q h)]; exact q
/-- a thing of the changing part is frozen -/
theorem hh_freeze {F M : Hp} {a : Addr} {o : HO} (h : M a = none) : HH F (upd M a o) = HH (upd F a o) M := by
  rw [← hh_updM, hh_updF h]
end DL

/-! Slots, the relation of a def's state, judgements. -/
namespace DL
open PySem L2

/-- what stands in a slot: nothing that is known; shared data; an own list, dict, instance (its items are shared); the box of digits -/
inductive OT where
  | sh (d : D) | lst (ts : List OT) | dk (ks : List Key) (ts : List OT) | dt (ks : List (List Key)) (ts : List OT) | ins (n : Str) (fs : List Str) (ts : List OT)
  deriving Inhabited
def emp : Hp := fun _ => none
mutual
/-- the value v stands for the tree t; its own objects are Mo -/
def OTR (c : Cy) (F : Hp) : OT → V → Hp → Prop
  | .sh d, v, Mo => Dr c F v d ∧ Mo = emp
  | .lst ts, v, Mo => ∃ a vs M1, v = .ref a ∧ OTRL c F ts vs M1 ∧ F a = none ∧ M1 a = none ∧ Mo = upd M1 a (.lst vs)
  | .dk ks ts, v, Mo => ∃ a ps M1, v = .ref a ∧ ps.map (·.1) = ks ∧ OTRL c F ts (ps.map (·.2)) M1 ∧ F a = none ∧ M1 a = none ∧ Mo = upd M1 a (.dK ps)
  | .dt ks ts, v, Mo => ∃ a ps M1, v = .ref a ∧ ps.map (·.1) = ks ∧ OTRL c F ts (ps.map (·.2)) M1 ∧ F a = none ∧ M1 a = none ∧ Mo = upd M1 a (.dT ps)
  | .ins n fs ts, v, Mo => ∃ a C dx ps M1, v = .ref a ∧ c.mg n = some (.ref C) ∧ ps.map (·.1) = fs ∧ OTRL c F ts (ps.map (·.2)) M1 ∧ F a = none ∧ M1 a = none ∧ Mo = upd M1 a (.ins C dx ps)
def OTRL (c : Cy) (F : Hp) : List OT → List V → Hp → Prop
  | [], vs, M => vs = [] ∧ M = emp
  | t :: ts, vs, M => ∃ v vr M1 M2, vs = v :: vr ∧ OTR c F t v M1 ∧ OTRL c F ts vr M2 ∧ Dj M2 M1 ∧ M = HH M2 M1
end
mutual
/-- a tree as data -/
def otD : OT → D
  | .sh d => d
  | .lst ts => .lst (otDL ts)
  | .dk ks ts => .dk ks (otDL ts)
  | .dt ks ts => .dt ks (otDL ts)
  | .ins n fs ts => .ins n fs (otDL ts)
def otDL : List OT → List D
  | [] => []
  | t :: ts => otD t :: otDL ts
end
theorem hh_emp (M : Hp) : HH M emp = M := funext fun a => hh_n rfl
theorem emp_hh (M : Hp) : HH emp M = M := funext fun a => by
  cases h : M a with
  | none => rw [hh_n h]; rfl
  | some o => rw [hh_m h]
theorem hh_assoc {A B C : Hp} : HH A (HH B C) = HH (HH A B) C := funext fun a => by
  cases h : C a with
  | some o => rw [hh_m (show HH B C a = some o from hh_m h), hh_m h]
  | none =>
    rw [hh_n h]
    cases h2 : B a with
    | some o => rw [hh_m (show HH B C a = some o by rw [hh_n h]; exact h2), hh_m h2]
    | none => rw [hh_n (show HH B C a = none by rw [hh_n h]; exact h2), hh_n h2]
theorem hh_comm {A B : Hp} (d : Dj A B) : HH A B = HH B A := funext fun a => by
  cases h : B a with
  | some o => rw [hh_m h, hh_n (d a o h)]; exact h.symm
  | none =>
    rw [hh_n h]
    cases h2 : A a with
    | some o => rw [hh_m h2]
    | none => rw [hh_n h2]; exact h.symm
theorem dj_sym {A B : Hp} (d : Dj A B) : Dj B A := fun a o q => d.mn q
/-- all three apart -/
theorem dj_hh {A B C : Hp} (d1 : Dj A C) (d2 : Dj B C) : Dj (HH A B) C := fun a o q => by rw [hh_n (d2 a o q)]; exact d1 a o q
theorem dj_l {A B C : Hp} (d : Dj (HH A B) C) : Dj A C := fun a o q => (hh_none (d a o q)).1
theorem dj_r {A B C : Hp} (d : Dj (HH A B) C) : Dj B C := fun a o q => (hh_none (d a o q)).2
theorem hh_swap {A B C : Hp} (d : Dj B C) : HH (HH A B) C = HH (HH A C) B := by rw [← hh_assoc, hh_comm d, hh_assoc]
mutual
theorem OTR.leD {c : Cy} {F G : Hp} (s : LeD F G) : ∀ (t : OT) {v : V} {Mo : Hp}, (∀ a o, Mo a = some o → F a = none → G a = none) → OTR c F t v Mo → OTR c G t v Mo
  | .sh d, v, Mo, n, h => by simp only [OTR] at h ⊢; exact ⟨h.1.leD s, h.2⟩
  | .lst ts, v, Mo, n, h => by
    simp only [OTR] at h ⊢
    obtain ⟨a, vs, M1, e, r, f, m, rfl⟩ := h
    exact ⟨a, vs, M1, e, OTRL.leD s ts (fun x o q => n x o (by rw [upd_ne (ne_of_none q m)]; exact q)) r, n a _ upd_same f, m, rfl⟩
  | .dk ks ts, v, Mo, n, h => by
    simp only [OTR] at h ⊢
    obtain ⟨a, vs, M1, e, k, r, f, m, rfl⟩ := h
    exact ⟨a, vs, M1, e, k, OTRL.leD s ts (fun x o q => n x o (by rw [upd_ne (ne_of_none q m)]; exact q)) r, n a _ upd_same f, m, rfl⟩
  | .dt ks ts, v, Mo, n, h => by
    simp only [OTR] at h ⊢
    obtain ⟨a, vs, M1, e, k, r, f, m, rfl⟩ := h
    exact ⟨a, vs, M1, e, k, OTRL.leD s ts (fun x o q => n x o (by rw [upd_ne (ne_of_none q m)]; exact q)) r, n a _ upd_same f, m, rfl⟩
  | .ins nm fs ts, v, Mo, n, h => by
    simp only [OTR] at h ⊢
    obtain ⟨a, C, dx, vs, M1, e, g, k, r, f, m, rfl⟩ := h
    exact ⟨a, C, dx, vs, M1, e, g, k, OTRL.leD s ts (fun x o q => n x o (by rw [upd_ne (ne_of_none q m)]; exact q)) r, n a _ upd_same f, m, rfl⟩
theorem OTRL.leD {c : Cy} {F G : Hp} (s : LeD F G) : ∀ (ts : List OT) {vs : List V} {M : Hp}, (∀ a o, M a = some o → F a = none → G a = none) → OTRL c F ts vs M → OTRL c G ts vs M
  | [], vs, M, n, h => by simpa only [OTRL] using h
  | t :: ts, vs, M, n, h => by
    simp only [OTRL] at h ⊢
    obtain ⟨v, vr, M1, M2, e, r1, r2, d, rfl⟩ := h
    exact ⟨v, vr, M1, M2, e, OTR.leD s t (fun x o q => n x o (hh_m q)) r1, OTRL.leD s ts (fun x o q => n x o (d.f q)) r2, d, rfl⟩
end
mutual
theorem OTR.dj {c : Cy} {F : Hp} : ∀ (t : OT) {v : V} {Mo : Hp}, OTR c F t v Mo → Dj F Mo
  | .sh d, v, Mo, h => by simp only [OTR] at h; rw [h.2]; exact fun a o q => nomatch q
  | .lst ts, v, Mo, h => by
    simp only [OTR] at h
    obtain ⟨a, vs, M1, e, r, f, m, rfl⟩ := h
    exact (OTRL.dj ts r).updM f
  | .dk ks ts, v, Mo, h => by
    simp only [OTR] at h
    obtain ⟨a, vs, M1, e, k, r, f, m, rfl⟩ := h
    exact (OTRL.dj ts r).updM f
  | .dt ks ts, v, Mo, h => by
    simp only [OTR] at h
    obtain ⟨a, vs, M1, e, k, r, f, m, rfl⟩ := h
    exact (OTRL.dj ts r).updM f
  | .ins nm fs ts, v, Mo, h => by
    simp only [OTR] at h
    obtain ⟨a, C, dx, vs, M1, e, g, k, r, f, m, rfl⟩ := h
    exact (OTRL.dj ts r).updM f
theorem OTRL.dj {c : Cy} {F : Hp} : ∀ (ts : List OT) {vs : List V} {M : Hp}, OTRL c F ts vs M → Dj F M
  | [], vs, M, h => by simp only [OTRL] at h; rw [h.2]; exact fun a o q => nomatch q
  | t :: ts, vs, M, h => by
    simp only [OTRL] at h
    obtain ⟨v, vr, M1, M2, e, r1, r2, d, rfl⟩ := h
    intro a o q
    rcases hh_some q with z | ⟨_, z⟩
    · exact OTR.dj t r1 a o z
    · exact OTRL.dj ts r2 a o z
end
mutual
/-- a tree is frozen -/
theorem OTR.frz {c : Cy} {F G : Hp} (s : Same F G) : ∀ (t : OT) {v : V} {Mo : Hp}, Same Mo G → OTR c F t v Mo → Dr c G v (otD t)
  | .sh d, v, Mo, g, h => by simp only [OTR] at h; simp only [otD]; exact h.1.up s
  | .lst ts, v, Mo, g, h => by
    simp only [OTR] at h
    obtain ⟨a, vs, M1, e, r, f, m, rfl⟩ := h
    simp only [otD, Dr]
    exact ⟨a, vs, e, g _ _ upd_same, OTRL.frz s ts (fun x o q => g x o (by rw [upd_ne (ne_of_none q m)]; exact q)) r⟩
  | .dk ks ts, v, Mo, g, h => by
    simp only [OTR] at h
    obtain ⟨a, vs, M1, e, k, r, f, m, rfl⟩ := h
    simp only [otD, Dr]
    exact ⟨a, vs, e, .inl (g _ _ upd_same), k, OTRL.frz s ts (fun x o q => g x o (by rw [upd_ne (ne_of_none q m)]; exact q)) r⟩
  | .dt ks ts, v, Mo, g, h => by
    simp only [OTR] at h
    obtain ⟨a, vs, M1, e, k, r, f, m, rfl⟩ := h
    simp only [otD, Dr]
    exact ⟨a, vs, e, .inl (g _ _ upd_same), k, OTRL.frz s ts (fun x o q => g x o (by rw [upd_ne (ne_of_none q m)]; exact q)) r⟩
  | .ins nm fs ts, v, Mo, g, h => by
    simp only [OTR] at h
    obtain ⟨a, C, dx, vs, M1, e, g1, k, r, f, m, rfl⟩ := h
    simp only [otD, Dr]
    exact ⟨a, C, dx, vs, e, g _ _ upd_same, g1, k, OTRL.frz s ts (fun x o q => g x o (by rw [upd_ne (ne_of_none q m)]; exact q)) r⟩
theorem OTRL.frz {c : Cy} {F G : Hp} (s : Same F G) : ∀ (ts : List OT) {vs : List V} {M : Hp}, Same M G → OTRL c F ts vs M → DrL c G vs (otDL ts)
  | [], vs, M, g, h => by simp only [OTRL] at h; simp only [otDL]; rw [h.1]; exact .nil
  | t :: ts, vs, M, g, h => by
    simp only [OTRL] at h
    obtain ⟨v, vr, M1, M2, rfl, r1, r2, d, rfl⟩ := h
    simp only [otDL]
    exact .cons (OTR.frz s t (fun x o q => g x o (hh_m q)) r1) (OTRL.frz s ts (fun x o q => g x o (d.f q)) r2)
end
inductive Sl where
  | no | sh (d : D) | ol (ds : List D) | ok (ks : List Key) (ds : List D) | ot (ks : List (List Key)) (ds : List D) | oi (n : Str) (fs : List Str) (ds : List D) | bx | od (x : V) (t : OT)
  deriving Inhabited

/-- an own object: what it holds -/
def ObR (c : Cy) (F : Hp) : Sl → HO → Prop
  | .ol ds, o => ∃ vs, o = .lst vs ∧ DrL c F vs ds
  | .ok ks ds, o => ∃ ps, o = .dK ps ∧ ps.map (·.1) = ks ∧ DrL c F (ps.map (·.2)) ds
  | .ot ks ds, o => ∃ ps, o = .dT ps ∧ ps.map (·.1) = ks ∧ DrL c F (ps.map (·.2)) ds
  | .oi n fs ds, o => ∃ C dx ps, o = .ins C dx ps ∧ c.mg n = some (.ref C) ∧ ps.map (·.1) = fs ∧ DrL c F (ps.map (·.2)) ds
  | _, _ => False
theorem ObR.leD {c : Cy} {F G : Hp} (s : LeD F G) : ∀ {sl : Sl} {o : HO}, ObR c F sl o → ObR c G sl o
  | .ol ds, o, ⟨vs, e, h⟩ => ⟨vs, e, h.leD s⟩
  | .ok ks ds, o, ⟨ps, e, k, h⟩ => ⟨ps, e, k, h.leD s⟩
  | .ot ks ds, o, ⟨ps, e, k, h⟩ => ⟨ps, e, k, h.leD s⟩
  | .oi n fs ds, o, ⟨C, dx, ps, e, m, k, h⟩ => ⟨C, dx, ps, e, m, k, h.leD s⟩
  | .no, _, h => h.elim
  | .sh _, _, h => h.elim
  | .bx, _, h => h.elim
  | .od _ _, _, h => h.elim
/-- the data of an own object -/
def obD : Sl → D
  | .ol ds => .lst ds
  | .ok ks ds => .dk ks ds
  | .ot ks ds => .dt ks ds
  | .oi n fs ds => .ins n fs ds
  | .sh d => d
  | .od _ t => otD t
  | _ => .non
theorem ObR.dr {c : Cy} {F : Hp} {a : Addr} : ∀ {sl : Sl} {o : HO}, ObR c F sl o → F a = some o → Dr c F (.ref a) (obD sl)
  | .ol ds, o, ⟨vs, e, h⟩, q => by subst e; simp only [obD, Dr]; exact ⟨a, vs, rfl, q, h⟩
  | .ok ks ds, o, ⟨ps, e, k, h⟩, q => by subst e; simp only [obD, Dr]; exact ⟨a, ps, rfl, .inl q, k, h⟩
  | .ot ks ds, o, ⟨ps, e, k, h⟩, q => by subst e; simp only [obD, Dr]; exact ⟨a, ps, rfl, .inl q, k, h⟩
  | .oi n fs ds, o, ⟨C, dx, ps, e, m, k, h⟩, q => by subst e; simp only [obD, Dr]; exact ⟨a, C, dx, ps, rfl, q, m, k, h⟩
  | .no, _, h, _ => h.elim
  | .sh _, _, h, _ => h.elim
  | .bx, _, h, _ => h.elim
  | .od _ _, _, h, _ => h.elim

/-- the slots' values; M: the frame's changing part M0 and the own objects -/
def RelE (c : Cy) (b : Option Addr) (F M0 : Hp) : List Sl → St → Hp → Prop
  | [], σ, M => σ = [] ∧ M = M0
  | s :: ρ, σ, M => ∃ v σr, σ = v :: σr ∧ match s with
    | .no => RelE c b F M0 ρ σr M
    | .sh d => (∃ x, v = some x ∧ Dr c F x d) ∧ RelE c b F M0 ρ σr M
    | .bx => (∃ a, b = some a ∧ v = some (.ref a)) ∧ RelE c b F M0 ρ σr M
    | .od x t => ∃ Mo M', v = some x ∧ OTR c F t x Mo ∧ Dj M' Mo ∧ M = HH M' Mo ∧ RelE c b F M0 ρ σr M'
    | sl => ∃ a o M', v = some (.ref a) ∧ ObR c F sl o ∧ F a = none ∧ M' a = none ∧ M = upd M' a o ∧ RelE c b F M0 ρ σr M'

/-- the box of digits at a -/
def Box (F M : Hp) (a : Addr) : Prop := ∃ (da : Addr) (ns : List Int) (n : Int), M a = some (.lst [.ref da, .int n]) ∧ F da = some (.lst (ns.map V.int)) ∧ 0 ≤ n
structure Rel (c : Cy) (b : Option Addr) (ρ : List Sl) (σ : St) (F M M0 : Hp) : Prop where
  dj : Dj F M
  env : RelE c b F M0 ρ σ M
  box : ∀ a, b = some a → Box F M0 a
/-- the frame's changing part but for the box -/
def MR (b : Option Addr) (M M' : Hp) : Prop := ∀ a, b ≠ some a → M' a = M a
theorem MR.refl (b : Option Addr) (M : Hp) : MR b M M := fun _ _ => rfl
theorem MR.trans {b : Option Addr} {M M1 M2 : Hp} (h : MR b M M1) (h' : MR b M1 M2) : MR b M M2 := fun a e => (h' a e).trans (h a e)
/-- all that is tracked stays, but for the box -/
def Ext (b : Option Addr) (H H' : Hp) : Prop := ∀ a o, b ≠ some a → H a = some o → H' a = some o
theorem Ext.refl (b : Option Addr) (H : Hp) : Ext b H H := fun _ _ _ h => h
theorem Ext.trans {b : Option Addr} {H H1 H2 : Hp} (h : Ext b H H1) (h' : Ext b H1 H2) : Ext b H H2 := fun a o e q => h' a o e (h a o e q)

section
variable {c : Cy} {b : Option Addr} {F G M M0 : Hp}
theorem Box.leD (s : LeD F G) {a : Addr} (h : Box F M a) : Box G M a := by
  obtain ⟨da, ns, n, h1, h2, h3⟩ := h
  exact ⟨da, ns, n, h1, s.pl _ _ h2 trivial, h3⟩
/-- the frozen part grows -/
theorem RelE.leD (s : LeD F G) (nw : ∀ a o, M0 a = some o → F a = none → G a = none) : ∀ {ρ : List Sl} {σ : St} {M : Hp}, (∀ a o, M a = some o → F a = none → G a = none) → RelE c b F M0 ρ σ M → RelE c b G M0 ρ σ M
  | [], σ, M, n, h => h
  | s1 :: ρ, σ, M, n, h => by
    obtain ⟨v, σr, e, h⟩ := h
    refine ⟨v, σr, e, ?_⟩
    have own : ∀ sl : Sl, (∃ a o M', v = some (.ref a) ∧ ObR c F sl o ∧ F a = none ∧ M' a = none ∧ M = upd M' a o ∧ RelE c b F M0 ρ σr M') →
        ∃ a o M', v = some (.ref a) ∧ ObR c G sl o ∧ G a = none ∧ M' a = none ∧ M = upd M' a o ∧ RelE c b G M0 ρ σr M' := fun sl h => by
      obtain ⟨a, o, M', e1, r, f, m, e2, t⟩ := h
      refine ⟨a, o, M', e1, r.leD s, n a o (by rw [e2]; exact upd_same) f, m, e2, RelE.leD s nw (fun x u q z => n x u ?_ z) t⟩
      rw [e2, upd_ne (ne_of_none q m)]
      exact q
    cases s1 with
    | no => exact RelE.leD s nw n h
    | sh d =>
      obtain ⟨⟨x, e1, q⟩, t⟩ := h
      exact ⟨⟨x, e1, q.leD s⟩, RelE.leD s nw n t⟩
    | bx =>
      obtain ⟨q, t⟩ := h
      exact ⟨q, RelE.leD s nw n t⟩
    | ol ds => exact own (.ol ds) h
    | ok ks ds => exact own (.ok ks ds) h
    | ot ks ds => exact own (.ot ks ds) h
    | oi n fs ds => exact own (.oi n fs ds) h
    | od x t0 =>
      obtain ⟨Mo, M', e1, r, dj, e2, t⟩ := h
      exact ⟨Mo, M', e1, OTR.leD s t0 (fun a o q => n a o (by rw [e2]; exact hh_m q)) r, dj, e2, RelE.leD s nw (fun y u q => n y u (by rw [e2]; exact dj.f q)) t⟩
theorem RelE.length : ∀ {ρ : List Sl} {σ : St} {M : Hp}, RelE c b F M0 ρ σ M → σ.length = ρ.length
  | [], σ, M, h => by rw [h.1]; rfl
  | s1 :: ρ, σ, M, h => by
    obtain ⟨v, σr, e, h⟩ := h
    subst e
    rw [List.length_cons, List.length_cons]
    congr 1
    cases s1 with
    | no => exact RelE.length h
    | sh d => exact RelE.length h.2
    | bx => exact RelE.length h.2
    | ol ds => obtain ⟨_, _, _, _, _, _, _, _, t⟩ := h; exact RelE.length t
    | ok ks ds => obtain ⟨_, _, _, _, _, _, _, _, t⟩ := h; exact RelE.length t
    | ot ks ds => obtain ⟨_, _, _, _, _, _, _, _, t⟩ := h; exact RelE.length t
    | oi n fs ds => obtain ⟨_, _, _, _, _, _, _, _, t⟩ := h; exact RelE.length t
    | od x t0 => obtain ⟨_, _, _, _, _, _, t⟩ := h; exact RelE.length t
/-- the frame's part lies in the whole -/
theorem RelE.sub : ∀ {ρ : List Sl} {σ : St} {M : Hp}, RelE c b F M0 ρ σ M → ∀ a o, M0 a = some o → M a = some o
  | [], σ, M, h, a, o, q => by rw [h.2]; exact q
  | s1 :: ρ, σ, M, h, a, o, q => by
    obtain ⟨v, σr, e, h⟩ := h
    have own : ∀ sl : Sl, (∃ a o M', v = some (.ref a) ∧ ObR c F sl o ∧ F a = none ∧ M' a = none ∧ M = upd M' a o ∧ RelE c b F M0 ρ σr M') → M a = some o := fun sl h => by
      obtain ⟨x, u, M', e1, r, f, m, e2, t⟩ := h
      have z := RelE.sub t a o q
      rw [e2, upd_ne (ne_of_none z m)]
      exact z
    cases s1 with
    | no => exact RelE.sub h a o q
    | sh d => exact RelE.sub h.2 a o q
    | bx => exact RelE.sub h.2 a o q
    | ol ds => exact own (.ol ds) h
    | ok ks ds => exact own (.ok ks ds) h
    | ot ks ds => exact own (.ot ks ds) h
    | oi n fs ds => exact own (.oi n fs ds) h
    | od x t0 =>
      obtain ⟨Mo, M', e1, r, dj, e2, t⟩ := h
      rw [e2]; exact dj.f (RelE.sub t a o q)
theorem upd_comm {H : Hp} {a d : Addr} {o u : HO} (h : a ≠ d) : upd (upd H a o) d u = upd (upd H d u) a o := by
  funext x
  by_cases e : x = a
  · subst e; rw [upd_ne h, upd_same, upd_same]
  · by_cases e2 : x = d
    · subst e2; rw [upd_same, upd_ne e, upd_same]
    · rw [upd_ne e2, upd_ne e, upd_ne e, upd_ne e2]
/-- a thing of the frame changes, or is new there -/
theorem RelE.frame {x : Addr} {u : HO} : ∀ {ρ : List Sl} {σ : St} {M : Hp}, RelE c b F M0 ρ σ M → (M x = none ∨ (M0 x).isSome = true) → RelE c b F (upd M0 x u) ρ σ (upd M x u)
  | [], σ, M, h, _ => ⟨h.1, by rw [h.2]⟩
  | s1 :: ρ, σ, M, h, hx => by
    obtain ⟨v, σr, e, h⟩ := h
    refine ⟨v, σr, e, ?_⟩
    have own : ∀ sl : Sl, (∃ a o M', v = some (.ref a) ∧ ObR c F sl o ∧ F a = none ∧ M' a = none ∧ M = upd M' a o ∧ RelE c b F M0 ρ σr M') →
        ∃ a o M', v = some (.ref a) ∧ ObR c F sl o ∧ F a = none ∧ M' a = none ∧ upd M x u = upd M' a o ∧ RelE c b F (upd M0 x u) ρ σr M' := fun sl h => by
      obtain ⟨a, o, M', e1, r, f, m, e2, t⟩ := h
      have ne : a ≠ x := fun z => by
        subst z
        rcases hx with hx | hx
        · rw [e2, upd_same] at hx; cases hx
        · obtain ⟨w, hw⟩ := Option.isSome_iff_exists.mp hx
          have := t.sub _ _ hw
          rw [m] at this; cases this
      have hx' : M' x = none ∨ (M0 x).isSome = true := by
        rcases hx with hx | hx
        · rw [e2, upd_ne ne.symm] at hx; exact .inl hx
        · exact .inr hx
      exact ⟨a, o, upd M' x u, e1, r, f, by rw [upd_ne ne]; exact m, by rw [e2, upd_comm ne], RelE.frame t hx'⟩
    cases s1 with
    | no => exact RelE.frame h hx
    | sh d => exact ⟨h.1, RelE.frame h.2 hx⟩
    | bx => exact ⟨h.1, RelE.frame h.2 hx⟩
    | ol ds => exact own (.ol ds) h
    | ok ks ds => exact own (.ok ks ds) h
    | ot ks ds => exact own (.ot ks ds) h
    | oi n fs ds => exact own (.oi n fs ds) h
    | od y t0 =>
      obtain ⟨Mo, M', e1, r, dj, e2, t⟩ := h
      have hy : Mo x = none ∧ (M' x = none ∨ (M0 x).isSome = true) := by
        rcases hx with hx | hx
        · rw [e2] at hx
          have := hh_none hx
          exact ⟨this.2, .inl this.1⟩
        · obtain ⟨w, hw⟩ := Option.isSome_iff_exists.mp hx
          exact ⟨dj.mn (t.sub _ _ hw), .inr hx⟩
      exact ⟨Mo, upd M' x u, e1, r, dj.updF hy.1, by rw [e2, hh_updF hy.1], RelE.frame t hy.2⟩
/-- the frame's part is another one on the box -/
theorem RelE.mr {N0 : Hp} {x : Addr} (mr : MR (some x) M0 N0) (hx : (M0 x).isSome = true) (hx' : (N0 x).isSome = true) : ∀ {ρ : List Sl} {σ : St} {M : Hp}, RelE c b F M0 ρ σ M →
    ∃ N, RelE c b F N0 ρ σ N ∧ MR (some x) M N ∧ N x = N0 x := fun {ρ σ M} h => by
  obtain ⟨w, hw⟩ := Option.isSome_iff_exists.mp hx'
  have e : N0 = upd M0 x w := by
    funext y
    by_cases z : y = x
    · rw [z, upd_same, hw]
    · rw [upd_ne z]
      exact mr y fun q => z (Option.some.inj q).symm
  refine ⟨upd M x w, by rw [e]; exact h.frame (.inr hx), fun y q => upd_ne fun z => q (by rw [z]), by rw [upd_same, hw]⟩
/-- the value in a slot -/
theorem RelE.get : ∀ {ρ : List Sl} {σ : St} {M : Hp} {i : Nat} {d : D}, RelE c b F M0 ρ σ M → ρ[i]? = some (.sh d) → ∃ x, σ[i]? = some (some x) ∧ Dr c F x d
  | [], σ, M, i, d, h, e => by simp at e
  | s1 :: ρ, σ, M, 0, d, h, e => by
    obtain ⟨v, σr, e1, h⟩ := h
    simp at e; subst e; subst e1
    obtain ⟨⟨x, e2, q⟩, _⟩ := h
    exact ⟨x, by rw [e2]; rfl, q⟩
  | s1 :: ρ, σ, M, i + 1, d, h, e => by
    obtain ⟨v, σr, e1, h⟩ := h
    subst e1
    have e' : ρ[i]? = some (.sh d) := by simpa using e
    have go : ∀ {M' : Hp}, RelE c b F M0 ρ σr M' → ∃ x, (v :: σr)[i + 1]? = some (some x) ∧ Dr c F x d := fun t => by
      obtain ⟨x, h1, h2⟩ := RelE.get t e'
      exact ⟨x, by simpa using h1, h2⟩
    cases s1 with
    | no => exact go h
    | sh d => exact go h.2
    | bx => exact go h.2
    | ol ds => obtain ⟨_, _, _, _, _, _, _, _, t⟩ := h; exact go t
    | ok ks ds => obtain ⟨_, _, _, _, _, _, _, _, t⟩ := h; exact go t
    | ot ks ds => obtain ⟨_, _, _, _, _, _, _, _, t⟩ := h; exact go t
    | oi n fs ds => obtain ⟨_, _, _, _, _, _, _, _, t⟩ := h; exact go t
    | od x t0 => obtain ⟨_, _, _, _, _, _, t⟩ := h; exact go t
theorem RelE.getB : ∀ {ρ : List Sl} {σ : St} {M : Hp} {i : Nat}, RelE c b F M0 ρ σ M → ρ[i]? = some .bx → ∃ a, b = some a ∧ σ[i]? = some (some (.ref a))
  | [], σ, M, i, h, e => by simp at e
  | s1 :: ρ, σ, M, 0, h, e => by
    obtain ⟨v, σr, e1, h⟩ := h
    simp at e; subst e; subst e1
    obtain ⟨⟨x, e2, q⟩, _⟩ := h
    exact ⟨x, e2, by rw [q]; rfl⟩
  | s1 :: ρ, σ, M, i + 1, h, e => by
    obtain ⟨v, σr, e1, h⟩ := h
    subst e1
    have e' : ρ[i]? = some .bx := by simpa using e
    have go : ∀ {M' : Hp}, RelE c b F M0 ρ σr M' → ∃ a, b = some a ∧ (v :: σr)[i + 1]? = some (some (.ref a)) := fun t => by
      obtain ⟨x, h1, h2⟩ := RelE.getB t e'
      exact ⟨x, h1, by simpa using h2⟩
    cases s1 with
    | no => exact go h
    | sh d => exact go h.2
    | bx => exact go h.2
    | ol ds => obtain ⟨_, _, _, _, _, _, _, _, t⟩ := h; exact go t
    | ok ks ds => obtain ⟨_, _, _, _, _, _, _, _, t⟩ := h; exact go t
    | ot ks ds => obtain ⟨_, _, _, _, _, _, _, _, t⟩ := h; exact go t
    | oi n fs ds => obtain ⟨_, _, _, _, _, _, _, _, t⟩ := h; exact go t
    | od x t0 => obtain ⟨_, _, _, _, _, _, t⟩ := h; exact go t
/-- an own slot: its object; it may be changed; it may be frozen -/
def isShal : Sl → Prop
  | .ol _ => True
  | .ok _ _ => True
  | .ot _ _ => True
  | .oi _ _ _ => True
  | _ => False
def isOwn : Sl → Prop
  | .od _ _ => True
  | .ol _ => True
  | .ok _ _ => True
  | .ot _ _ => True
  | .oi _ _ _ => True
  | _ => False
theorem RelE.own : ∀ {ρ : List Sl} {σ : St} {M : Hp} {i : Nat} {sl : Sl}, RelE c b F M0 ρ σ M → ρ[i]? = some sl → isShal sl →
    ∃ a o M', σ[i]? = some (some (.ref a)) ∧ ObR c F sl o ∧ F a = none ∧ M' a = none ∧ M = upd M' a o ∧ M0 a = none ∧
      (∀ x, RelE c b F M0 (ρ.set i .no) (σ.set i x) M') ∧
      ∀ (sl' : Sl) (o' : HO), isShal sl' → ObR c F sl' o' → RelE c b F M0 (ρ.set i sl') σ (upd M' a o')
  | [], σ, M, i, sl, h, e, _ => by simp at e
  | s1 :: ρ, σ, M, 0, sl, h, e, hs => by
    obtain ⟨v, σr, e1, h⟩ := h
    simp at e; subst e; subst e1
    have own : (∃ a o M', v = some (.ref a) ∧ ObR c F s1 o ∧ F a = none ∧ M' a = none ∧ M = upd M' a o ∧ RelE c b F M0 ρ σr M') := by
      cases s1 <;> first | exact h | exact hs.elim
    obtain ⟨a, o, M', e2, r, f, m, e3, t⟩ := own
    subst e2
    refine ⟨a, o, M', rfl, r, f, m, e3, ?_, fun x => ⟨x, σr, rfl, t⟩, fun sl' o' hs' r' => ⟨some (.ref a), σr, rfl, ?_⟩⟩
    · cases q : M0 a with
      | none => rfl
      | some u => rw [t.sub _ _ q] at m; cases m
    · cases sl' <;> first | exact hs'.elim | exact ⟨a, o', M', rfl, r', f, m, rfl, t⟩
  | s1 :: ρ, σ, M, i + 1, sl, h, e, hs => by
    obtain ⟨v, σr, e1, h⟩ := h
    subst e1
    have e' : ρ[i]? = some sl := by simpa using e
    have down : ∀ {M1 : Hp} (P : Hp → Hp → Prop), RelE c b F M0 ρ σr M1 → True := fun _ _ => trivial
    cases s1 with
    | no =>
      obtain ⟨a, o, M', h1, h2, h3, h4, h5, h6, h7, h8⟩ := RelE.own h e' hs
      exact ⟨a, o, M', by simpa using h1, h2, h3, h4, h5, h6, fun x => ⟨v, σr.set i x, rfl, h7 x⟩, fun sl' o' p q => ⟨v, σr, rfl, h8 sl' o' p q⟩⟩
    | sh d =>
      obtain ⟨a, o, M', h1, h2, h3, h4, h5, h6, h7, h8⟩ := RelE.own h.2 e' hs
      exact ⟨a, o, M', by simpa using h1, h2, h3, h4, h5, h6, fun x => ⟨v, σr.set i x, rfl, h.1, h7 x⟩, fun sl' o' p q => ⟨v, σr, rfl, h.1, h8 sl' o' p q⟩⟩
    | bx =>
      obtain ⟨a, o, M', h1, h2, h3, h4, h5, h6, h7, h8⟩ := RelE.own h.2 e' hs
      exact ⟨a, o, M', by simpa using h1, h2, h3, h4, h5, h6, fun x => ⟨v, σr.set i x, rfl, h.1, h7 x⟩, fun sl' o' p q => ⟨v, σr, rfl, h.1, h8 sl' o' p q⟩⟩
    | ol ds =>
      obtain ⟨x, u, N, k1, k2, k3, k4, k5, t⟩ := h
      obtain ⟨a, o, M', h1, h2, h3, h4, h5, h6, h7, h8⟩ := RelE.own t e' hs
      have ne : x ≠ a := fun z => by rw [z, h5, upd_same] at k4; cases k4
      refine ⟨a, o, upd M' x u, by simpa using h1, h2, h3, by rw [upd_ne ne.symm]; exact h4, by rw [k5, h5, upd_comm ne.symm], h6, fun y => ⟨v, σr.set i y, rfl, x, u, M', k1, k2, k3, ?_, rfl, h7 y⟩, fun sl' o' p q => ⟨v, σr, rfl, x, u, upd M' a o', k1, k2, k3, ?_, upd_comm ne, h8 sl' o' p q⟩⟩
      · rw [h5, upd_ne ne] at k4; exact k4
      · rw [h5, upd_ne ne] at k4; rw [upd_ne ne]; exact k4
    | ok ks ds =>
      obtain ⟨x, u, N, k1, k2, k3, k4, k5, t⟩ := h
      obtain ⟨a, o, M', h1, h2, h3, h4, h5, h6, h7, h8⟩ := RelE.own t e' hs
      have ne : x ≠ a := fun z => by rw [z, h5, upd_same] at k4; cases k4
      refine ⟨a, o, upd M' x u, by simpa using h1, h2, h3, by rw [upd_ne ne.symm]; exact h4, by rw [k5, h5, upd_comm ne.symm], h6, fun y => ⟨v, σr.set i y, rfl, x, u, M', k1, k2, k3, ?_, rfl, h7 y⟩, fun sl' o' p q => ⟨v, σr, rfl, x, u, upd M' a o', k1, k2, k3, ?_, upd_comm ne, h8 sl' o' p q⟩⟩
      · rw [h5, upd_ne ne] at k4; exact k4
      · rw [h5, upd_ne ne] at k4; rw [upd_ne ne]; exact k4
    | ot ks ds =>
      obtain ⟨x, u, N, k1, k2, k3, k4, k5, t⟩ := h
      obtain ⟨a, o, M', h1, h2, h3, h4, h5, h6, h7, h8⟩ := RelE.own t e' hs
      have ne : x ≠ a := fun z => by rw [z, h5, upd_same] at k4; cases k4
      refine ⟨a, o, upd M' x u, by simpa using h1, h2, h3, by rw [upd_ne ne.symm]; exact h4, by rw [k5, h5, upd_comm ne.symm], h6, fun y => ⟨v, σr.set i y, rfl, x, u, M', k1, k2, k3, ?_, rfl, h7 y⟩, fun sl' o' p q => ⟨v, σr, rfl, x, u, upd M' a o', k1, k2, k3, ?_, upd_comm ne, h8 sl' o' p q⟩⟩
      · rw [h5, upd_ne ne] at k4; exact k4
      · rw [h5, upd_ne ne] at k4; rw [upd_ne ne]; exact k4
    | oi n fs ds =>
      obtain ⟨x, u, N, k1, k2, k3, k4, k5, t⟩ := h
      obtain ⟨a, o, M', h1, h2, h3, h4, h5, h6, h7, h8⟩ := RelE.own t e' hs
      have ne : x ≠ a := fun z => by rw [z, h5, upd_same] at k4; cases k4
      refine ⟨a, o, upd M' x u, by simpa using h1, h2, h3, by rw [upd_ne ne.symm]; exact h4, by rw [k5, h5, upd_comm ne.symm], h6, fun y => ⟨v, σr.set i y, rfl, x, u, M', k1, k2, k3, ?_, rfl, h7 y⟩, fun sl' o' p q => ⟨v, σr, rfl, x, u, upd M' a o', k1, k2, k3, ?_, upd_comm ne, h8 sl' o' p q⟩⟩
      · rw [h5, upd_ne ne] at k4; exact k4
      · rw [h5, upd_ne ne] at k4; rw [upd_ne ne]; exact k4
    | od x t0 =>
      obtain ⟨Mo, N, k1, k2, dj, k5, t⟩ := h
      obtain ⟨a, o, M', h1, h2, h3, h4, h5, h6, h7, h8⟩ := RelE.own t e' hs
      have ma : Mo a = none := dj.mn (show N a = some o by rw [h5]; exact upd_same)
      have dj' : Dj M' Mo := fun y w q => by
        have := dj y w q
        rw [h5] at this
        by_cases z : y = a
        · rw [z]; exact h4
        · rw [upd_ne z] at this; exact this
      exact ⟨a, o, HH M' Mo, by simpa using h1, h2, h3, by rw [hh_n ma]; exact h4, by rw [k5, h5, hh_updF ma], h6, fun y => ⟨v, σr.set i y, rfl, Mo, M', k1, k2, dj', rfl, h7 y⟩,
        fun sl' o' p q => ⟨v, σr, rfl, Mo, upd M' a o', k1, k2, dj'.updF ma, hh_updF ma, h8 sl' o' p q⟩⟩
/-- a slot that holds no own object is stored -/
theorem RelE.setSh {x : V} {d : D} (q : Dr c F x d) : ∀ {ρ : List Sl} {σ : St} {M : Hp} {i : Nat} {sl : Sl}, RelE c b F M0 ρ σ M → ρ[i]? = some sl → ¬ isOwn sl → RelE c b F M0 (ρ.set i (.sh d)) (σ.set i (some x)) M
  | [], σ, M, i, sl, h, e, _ => by simp at e
  | s1 :: ρ, σ, M, 0, sl, h, e, hs => by
    obtain ⟨v, σr, e1, h⟩ := h
    simp at e; subst e; subst e1
    refine ⟨some x, σr, rfl, ⟨x, rfl, q⟩, ?_⟩
    cases s1 <;> first | exact h | exact h.2 | exact (hs trivial).elim
  | s1 :: ρ, σ, M, i + 1, sl, h, e, hs => by
    obtain ⟨v, σr, e1, h⟩ := h
    subst e1
    have e' : ρ[i]? = some sl := by simpa using e
    refine ⟨v, σr.set i (some x), rfl, ?_⟩
    have own : ∀ s2 : Sl, (∃ a o M', v = some (.ref a) ∧ ObR c F s2 o ∧ F a = none ∧ M' a = none ∧ M = upd M' a o ∧ RelE c b F M0 ρ σr M') →
        ∃ a o M', v = some (.ref a) ∧ ObR c F s2 o ∧ F a = none ∧ M' a = none ∧ M = upd M' a o ∧ RelE c b F M0 (ρ.set i (.sh d)) (σr.set i (some x)) M' := fun s2 h => by
      obtain ⟨a, o, M', k1, k2, k3, k4, k5, t⟩ := h
      exact ⟨a, o, M', k1, k2, k3, k4, k5, RelE.setSh q t e' hs⟩
    cases s1 with
    | no => exact RelE.setSh q h e' hs
    | sh d => exact ⟨h.1, RelE.setSh q h.2 e' hs⟩
    | bx => exact ⟨h.1, RelE.setSh q h.2 e' hs⟩
    | ol ds => exact own (.ol ds) h
    | ok ks ds => exact own (.ok ks ds) h
    | ot ks ds => exact own (.ot ks ds) h
    | oi n fs ds => exact own (.oi n fs ds) h
    | od y t0 =>
      obtain ⟨Mo, M', e1, r, dj, e2, t⟩ := h
      exact ⟨Mo, M', e1, r, dj, e2, RelE.setSh q t e' hs⟩
/-- a slot that holds no own object is given one -/
theorem RelE.setOw {a : Addr} {o : HO} {so : Sl} (ho : isShal so) (r : ObR c F so o) (f : F a = none) : ∀ {ρ : List Sl} {σ : St} {M : Hp} {i : Nat} {sl : Sl}, RelE c b F M0 ρ σ M → M a = none → ρ[i]? = some sl → ¬ isOwn sl →
    RelE c b F M0 (ρ.set i so) (σ.set i (some (.ref a))) (upd M a o)
  | [], σ, M, i, sl, h, _, e, _ => by simp at e
  | s1 :: ρ, σ, M, 0, sl, h, m, e, hs => by
    obtain ⟨v, σr, e1, h⟩ := h
    simp at e; subst e; subst e1
    refine ⟨some (.ref a), σr, rfl, ?_⟩
    have t : RelE c b F M0 ρ σr M := by cases s1 <;> first | exact h | exact h.2 | exact (hs trivial).elim
    cases so <;> first | exact ho.elim | exact ⟨a, o, M, rfl, r, f, m, rfl, t⟩
  | s1 :: ρ, σ, M, i + 1, sl, h, m, e, hs => by
    obtain ⟨v, σr, e1, h⟩ := h
    subst e1
    have e' : ρ[i]? = some sl := by simpa using e
    refine ⟨v, σr.set i (some (.ref a)), rfl, ?_⟩
    have own : ∀ s2 : Sl, (∃ x u M', v = some (.ref x) ∧ ObR c F s2 u ∧ F x = none ∧ M' x = none ∧ M = upd M' x u ∧ RelE c b F M0 ρ σr M') →
        ∃ x u M', v = some (.ref x) ∧ ObR c F s2 u ∧ F x = none ∧ M' x = none ∧ upd M a o = upd M' x u ∧ RelE c b F M0 (ρ.set i so) (σr.set i (some (.ref a))) M' := fun s2 h => by
      obtain ⟨x, u, M', k1, k2, k3, k4, k5, t⟩ := h
      have ne : x ≠ a := fun z => by rw [k5, z, upd_same] at m; cases m
      have m' : M' a = none := by rw [k5, upd_ne ne.symm] at m; exact m
      exact ⟨x, u, upd M' a o, k1, k2, k3, by rw [upd_ne ne]; exact k4, by rw [k5, upd_comm ne], RelE.setOw ho r f t m' e' hs⟩
    cases s1 with
    | no => exact RelE.setOw ho r f h m e' hs
    | sh d => exact ⟨h.1, RelE.setOw ho r f h.2 m e' hs⟩
    | bx => exact ⟨h.1, RelE.setOw ho r f h.2 m e' hs⟩
    | ol ds => exact own (.ol ds) h
    | ok ks ds => exact own (.ok ks ds) h
    | ot ks ds => exact own (.ot ks ds) h
    | oi n fs ds => exact own (.oi n fs ds) h
    | od y t0 =>
      obtain ⟨Mo, M', e1, r', dj, e2, t⟩ := h
      rw [e2] at m
      have hm := hh_none m
      exact ⟨Mo, upd M' a o, e1, r', dj.updF hm.2, by rw [e2, hh_updF hm.2], RelE.setOw ho r f t hm.1 e' hs⟩
/-- a slot that holds no own object is forgotten, whatever stands there -/
theorem RelE.forget {x : Option V} : ∀ {ρ : List Sl} {σ : St} {M : Hp} {i : Nat} {sl : Sl}, RelE c b F M0 ρ σ M → ρ[i]? = some sl → ¬ isOwn sl → RelE c b F M0 (ρ.set i .no) (σ.set i x) M
  | [], σ, M, i, sl, h, e, _ => by simp at e
  | s1 :: ρ, σ, M, 0, sl, h, e, hs => by
    obtain ⟨v, σr, e1, h⟩ := h
    simp at e; subst e; subst e1
    refine ⟨x, σr, rfl, ?_⟩
    cases s1 <;> first | exact h | exact h.2 | exact (hs trivial).elim
  | s1 :: ρ, σ, M, i + 1, sl, h, e, hs => by
    obtain ⟨v, σr, e1, h⟩ := h
    subst e1
    have e' : ρ[i]? = some sl := by simpa using e
    refine ⟨v, σr.set i x, rfl, ?_⟩
    have own : ∀ s2 : Sl, (∃ a o M', v = some (.ref a) ∧ ObR c F s2 o ∧ F a = none ∧ M' a = none ∧ M = upd M' a o ∧ RelE c b F M0 ρ σr M') →
        ∃ a o M', v = some (.ref a) ∧ ObR c F s2 o ∧ F a = none ∧ M' a = none ∧ M = upd M' a o ∧ RelE c b F M0 (ρ.set i .no) (σr.set i x) M' := fun s2 h => by
      obtain ⟨a, o, M', k1, k2, k3, k4, k5, t⟩ := h
      exact ⟨a, o, M', k1, k2, k3, k4, k5, RelE.forget t e' hs⟩
    cases s1 with
    | no => exact RelE.forget h e' hs
    | sh d => exact ⟨h.1, RelE.forget h.2 e' hs⟩
    | bx => exact ⟨h.1, RelE.forget h.2 e' hs⟩
    | ol ds => exact own (.ol ds) h
    | ok ks ds => exact own (.ok ks ds) h
    | ot ks ds => exact own (.ot ks ds) h
    | oi n fs ds => exact own (.oi n fs ds) h
    | od y t0 =>
      obtain ⟨Mo, M', e1, r', dj, e2, t⟩ := h
      exact ⟨Mo, M', e1, r', dj, e2, RelE.forget t e' hs⟩
theorem own_cases : ∀ {sl : Sl}, isOwn sl → isShal sl ∨ ∃ x t, sl = .od x t
  | .ol _, _ => .inl trivial
  | .ok _ _, _ => .inl trivial
  | .ot _ _, _ => .inl trivial
  | .oi _ _ _, _ => .inl trivial
  | .od x t, _ => .inr ⟨x, t, rfl⟩
theorem shal_own : ∀ {sl : Sl}, isShal sl → isOwn sl
  | .ol _, _ => trivial
  | .ok _ _, _ => trivial
  | .ot _ _, _ => trivial
  | .oi _ _ _, _ => trivial
/-- an own tree: its objects; it may be changed; it may be given away -/
theorem RelE.ownT {t1 : OT} {x : V} : ∀ {ρ : List Sl} {σ : St} {M : Hp} {i : Nat}, RelE c b F M0 ρ σ M → ρ[i]? = some (.od x t1) →
    ∃ Mo M', σ[i]? = some (some x) ∧ OTR c F t1 x Mo ∧ Dj M' Mo ∧ M = HH M' Mo ∧ (∀ a o, M0 a = some o → M' a = some o) ∧ (∀ y, RelE c b F M0 (ρ.set i .no) (σ.set i y) M') ∧
      ∀ (t2 : OT) (Mo2 : Hp), OTR c F t2 x Mo2 → Dj M' Mo2 → RelE c b F M0 (ρ.set i (.od x t2)) σ (HH M' Mo2)
  | [], σ, M, i, h, e => by simp at e
  | s1 :: ρ, σ, M, 0, h, e => by
    obtain ⟨v, σr, e1, h⟩ := h
    simp at e; subst e; subst e1
    obtain ⟨Mo, M', e2, r, dj, e3, t⟩ := h
    subst e2
    exact ⟨Mo, M', rfl, r, dj, e3, t.sub, fun y => ⟨y, σr, rfl, t⟩, fun t2 Mo2 r2 d2 => ⟨some x, σr, rfl, Mo2, M', rfl, r2, d2, rfl, t⟩⟩
  | s1 :: ρ, σ, M, i + 1, h, e => by
    obtain ⟨v, σr, e1, h⟩ := h
    subst e1
    have e' : ρ[i]? = some (.od x t1) := by simpa using e
    have own : ∀ s2 : Sl, (∀ M2 : Hp, (∃ a o M', v = some (.ref a) ∧ ObR c F s2 o ∧ F a = none ∧ M' a = none ∧ M2 = upd M' a o ∧ RelE c b F M0 ρ σr M') → RelE c b F M0 (s2 :: ρ) (v :: σr) M2) →
        (∀ (ρ2 : List Sl) (τ : St) (M2 : Hp), (∃ a o M', v = some (.ref a) ∧ ObR c F s2 o ∧ F a = none ∧ M' a = none ∧ M2 = upd M' a o ∧ RelE c b F M0 ρ2 τ M') → RelE c b F M0 (s2 :: ρ2) (v :: τ) M2) →
        (∃ a o M', v = some (.ref a) ∧ ObR c F s2 o ∧ F a = none ∧ M' a = none ∧ M = upd M' a o ∧ RelE c b F M0 ρ σr M') →
        ∃ Mo M', (v :: σr)[i + 1]? = some (some x) ∧ OTR c F t1 x Mo ∧ Dj M' Mo ∧ M = HH M' Mo ∧ (∀ a o, M0 a = some o → M' a = some o) ∧ (∀ y, RelE c b F M0 ((s2 :: ρ).set (i + 1) .no) ((v :: σr).set (i + 1) y) M') ∧
          ∀ (t2 : OT) (Mo2 : Hp), OTR c F t2 x Mo2 → Dj M' Mo2 → RelE c b F M0 ((s2 :: ρ).set (i + 1) (.od x t2)) (v :: σr) (HH M' Mo2) := fun s2 _ mk h => by
      obtain ⟨u, w, N, k1, k2, k3, k4, k5, t⟩ := h
      obtain ⟨Mo, M', h1, h2, h3, h4, h4', h5, h6⟩ := RelE.ownT t e'
      rw [h4] at k4
      have hu := hh_none k4
      refine ⟨Mo, upd M' u w, by simpa using h1, h2, h3.updF hu.2, by rw [k5, h4, hh_updF hu.2], fun a o q => by rw [upd_ne (ne_of_none (h4' a o q) hu.1)]; exact h4' a o q, fun y => mk _ _ _ ⟨u, w, M', k1, k2, k3, hu.1, rfl, h5 y⟩, fun t2 Mo2 r2 d2 => mk _ _ _ ⟨u, w, HH M' Mo2, k1, k2, k3, ?_, ?_, h6 t2 Mo2 r2 fun a o q => ?_⟩⟩
      · have : Mo2 u = none := (d2.mn (show upd M' u w u = some w from upd_same))
        rw [hh_n this]; exact hu.1
      · exact (hh_updF (d2.mn (show upd M' u w u = some w from upd_same))).symm
      · have := d2 a o q
        by_cases z : a = u
        · rw [z]; exact hu.1
        · rw [upd_ne z] at this; exact this
    cases s1 with
    | no =>
      obtain ⟨Mo, M', h1, h2, h3, h4, h4', h5, h6⟩ := RelE.ownT h e'
      exact ⟨Mo, M', by simpa using h1, h2, h3, h4, h4', fun y => ⟨v, σr.set i y, rfl, h5 y⟩, fun t2 Mo2 r2 d2 => ⟨v, σr, rfl, h6 t2 Mo2 r2 d2⟩⟩
    | sh d =>
      obtain ⟨Mo, M', h1, h2, h3, h4, h4', h5, h6⟩ := RelE.ownT h.2 e'
      exact ⟨Mo, M', by simpa using h1, h2, h3, h4, h4', fun y => ⟨v, σr.set i y, rfl, h.1, h5 y⟩, fun t2 Mo2 r2 d2 => ⟨v, σr, rfl, h.1, h6 t2 Mo2 r2 d2⟩⟩
    | bx =>
      obtain ⟨Mo, M', h1, h2, h3, h4, h4', h5, h6⟩ := RelE.ownT h.2 e'
      exact ⟨Mo, M', by simpa using h1, h2, h3, h4, h4', fun y => ⟨v, σr.set i y, rfl, h.1, h5 y⟩, fun t2 Mo2 r2 d2 => ⟨v, σr, rfl, h.1, h6 t2 Mo2 r2 d2⟩⟩
    | ol ds => exact own (.ol ds) (fun M2 h => ⟨v, σr, rfl, h⟩) (fun ρ2 τ M2 h => ⟨v, τ, rfl, h⟩) h
    | ok ks ds => exact own (.ok ks ds) (fun M2 h => ⟨v, σr, rfl, h⟩) (fun ρ2 τ M2 h => ⟨v, τ, rfl, h⟩) h
    | ot ks ds => exact own (.ot ks ds) (fun M2 h => ⟨v, σr, rfl, h⟩) (fun ρ2 τ M2 h => ⟨v, τ, rfl, h⟩) h
    | oi n fs ds => exact own (.oi n fs ds) (fun M2 h => ⟨v, σr, rfl, h⟩) (fun ρ2 τ M2 h => ⟨v, τ, rfl, h⟩) h
    | od u t0 =>
      obtain ⟨Mu, N, k1, k2, k3, k4, t⟩ := h
      obtain ⟨Mo, M', h1, h2, h3, h4, h4', h5, h6⟩ := RelE.ownT t e'
      rw [h4] at k3
      refine ⟨Mo, HH M' Mu, by simpa using h1, h2, ?_, ?_, fun a o q => (dj_l k3).f (h4' a o q), fun y => ⟨v, σr.set i y, rfl, Mu, M', k1, k2, dj_l k3, rfl, h5 y⟩, fun t2 Mo2 r2 d2 => ⟨v, σr, rfl, Mu, HH M' Mo2, k1, k2, ?_, ?_, h6 t2 Mo2 r2 (dj_l d2)⟩⟩
      · exact dj_hh h3 (dj_sym (dj_r k3))
      · rw [k4, h4, hh_swap (dj_r k3)]
      · exact dj_hh (dj_l k3) (dj_sym (dj_r d2))
      · exact hh_swap (dj_r d2)
/-- a slot that holds no own object is given a tree -/
theorem RelE.setOd {x : V} {t1 : OT} {Mo : Hp} (r : OTR c F t1 x Mo) : ∀ {ρ : List Sl} {σ : St} {M : Hp} {i : Nat} {sl : Sl}, RelE c b F M0 ρ σ M → Dj M Mo → ρ[i]? = some sl → ¬ isOwn sl →
    RelE c b F M0 (ρ.set i (.od x t1)) (σ.set i (some x)) (HH M Mo)
  | [], σ, M, i, sl, h, _, e, _ => by simp at e
  | s1 :: ρ, σ, M, 0, sl, h, m, e, hs => by
    obtain ⟨v, σr, e1, h⟩ := h
    simp at e; subst e; subst e1
    refine ⟨some x, σr, rfl, Mo, M, rfl, r, m, rfl, ?_⟩
    cases s1 <;> first | exact h | exact h.2 | exact (hs trivial).elim
  | s1 :: ρ, σ, M, i + 1, sl, h, m, e, hs => by
    obtain ⟨v, σr, e1, h⟩ := h
    subst e1
    have e' : ρ[i]? = some sl := by simpa using e
    refine ⟨v, σr.set i (some x), rfl, ?_⟩
    have own : ∀ s2 : Sl, (∃ y u M', v = some (.ref y) ∧ ObR c F s2 u ∧ F y = none ∧ M' y = none ∧ M = upd M' y u ∧ RelE c b F M0 ρ σr M') →
        ∃ y u M', v = some (.ref y) ∧ ObR c F s2 u ∧ F y = none ∧ M' y = none ∧ HH M Mo = upd M' y u ∧ RelE c b F M0 (ρ.set i (.od x t1)) (σr.set i (some x)) M' := fun s2 h => by
      obtain ⟨y, u, M', k1, k2, k3, k4, k5, t⟩ := h
      have my : Mo y = none := m.mn (show M y = some u by rw [k5]; exact upd_same)
      have dj' : Dj M' Mo := fun z w q => by
        have := m z w q
        rw [k5] at this
        by_cases e : z = y
        · rw [e]; exact k4
        · rw [upd_ne e] at this; exact this
      exact ⟨y, u, HH M' Mo, k1, k2, k3, by rw [hh_n my]; exact k4, by rw [k5, hh_updF my], RelE.setOd r t dj' e' hs⟩
    cases s1 with
    | no => exact RelE.setOd r h m e' hs
    | sh d => exact ⟨h.1, RelE.setOd r h.2 m e' hs⟩
    | bx => exact ⟨h.1, RelE.setOd r h.2 m e' hs⟩
    | ol ds => exact own (.ol ds) h
    | ok ks ds => exact own (.ok ks ds) h
    | ot ks ds => exact own (.ot ks ds) h
    | oi n fs ds => exact own (.oi n fs ds) h
    | od u t0 =>
      obtain ⟨Mu, N, k1, k2, k3, k4, t⟩ := h
      rw [k4] at m
      exact ⟨Mu, HH N Mo, k1, k2, dj_hh k3 (dj_sym (dj_r m)), by rw [k4, hh_swap (dj_r m)], RelE.setOd r t (dj_l m) e' hs⟩
end
end DL

/-! Judgements: a piece of syntax, its reading over heaps, and what that asks of data alone; expressions. -/
namespace DL
open PySem L2

abbrev WE := List Sl → (D → List Sl → Prop) → Prop
abbrev WT := List Sl → (Bool → List Sl → Prop) → Prop
abbrev WA := List Sl → (List D → List Sl → Prop) → Prop
/-- behind an expression -/
structure Aft (c : Cy) (b : Option Addr) (F M M0 : Hp) (ρ : List Sl) (σ : St) (F' M' M0' : Hp) : Prop where
  same : Same F F'
  ext : Ext b (HH F M) (HH F' M')
  rel : Rel c b ρ σ F' M' M0'
  mr : MR b M0 M0'
section
variable {c : Cy} {b : Option Addr} {F M M0 F1 M1 M01 F2 M2 M02 : Hp} {ρ ρ1 ρ2 : List Sl} {σ σ1 σ2 : St}
theorem Rel.aft (h : Rel c b ρ σ F M M0) : Aft c b F M M0 ρ σ F M M0 := ⟨Same.refl _, Ext.refl _ _, h, MR.refl _ _⟩
theorem Aft.trans (a : Aft c b F M M0 ρ1 σ1 F1 M1 M01) (h : Aft c b F1 M1 M01 ρ2 σ2 F2 M2 M02) : Aft c b F M M0 ρ2 σ2 F2 M2 M02 :=
  ⟨a.same.trans h.same, a.ext.trans h.ext, h.rel, a.mr.trans h.mr⟩
/-- a frozen address is not the box -/
theorem Rel.nb (h : Rel c b ρ σ F M M0) {a : Addr} {o : HO} (q : F a = some o) : b ≠ some a := fun e => by
  obtain ⟨_, _, _, h1, _⟩ := h.box a e
  have h2 := h.dj a _ (h.env.sub a _ h1)
  rw [q] at h2; cases h2
end

/-- readable as data: its own object may still change -/
def Rk (c : Cy) (b : Option Addr) (F M : Hp) (v : V) : D → Prop
  | .lst ds => ∃ a vs, v = .ref a ∧ b ≠ some a ∧ HH F M a = some (.lst vs) ∧ DrL c F vs ds
  | .dk ks ds => ∃ a ps, v = .ref a ∧ b ≠ some a ∧ Rd (HH F M) a (.dK ps) ∧ ps.map (·.1) = ks ∧ DrL c F (ps.map (·.2)) ds
  | .dt ks ds => ∃ a ps, v = .ref a ∧ b ≠ some a ∧ Rd (HH F M) a (.dT ps) ∧ ps.map (·.1) = ks ∧ DrL c F (ps.map (·.2)) ds
  | .ins n fs ds => ∃ a C dx ps, v = .ref a ∧ b ≠ some a ∧ HH F M a = some (.ins C dx ps) ∧ c.mg n = some (.ref C) ∧ ps.map (·.1) = fs ∧ DrL c F (ps.map (·.2)) ds
  | d => Dr c F v d
theorem Rk.of {c : Cy} {b : Option Addr} {F M : Hp} {v : V} {d : D} (dj : Dj F M) (nb : ∀ a o, F a = some o → b ≠ some a) (h : Dr c F v d) : Rk c b F M v d := by
  cases d with
  | lst ds => simp only [Dr] at h; obtain ⟨a, vs, e, q, r⟩ := h; exact ⟨a, vs, e, nb a _ q, dj.f q, r⟩
  | dk ks ds =>
    simp only [Dr] at h; obtain ⟨a, vs, e, q, k, r⟩ := h
    exact ⟨a, vs, e, by rcases q with q | ⟨o, q⟩ <;> exact nb a _ q, same_rd dj.same q, k, r⟩
  | dt ks ds =>
    simp only [Dr] at h; obtain ⟨a, vs, e, q, k, r⟩ := h
    exact ⟨a, vs, e, by rcases q with q | ⟨o, q⟩ <;> exact nb a _ q, same_rd dj.same q, k, r⟩
  | ins n fs ds => simp only [Dr] at h; obtain ⟨a, C, dx, ps, e, q, m, k, r⟩ := h; exact ⟨a, C, dx, ps, e, nb a _ q, dj.f q, m, k, r⟩
  | _ => exact h
theorem Rk.stay {c : Cy} {b : Option Addr} {F M F' M' : Hp} {v : V} {d : D} (s : Same F F') (x : Ext b (HH F M) (HH F' M')) (h : Rk c b F M v d) : Rk c b F' M' v d := by
  have rd : ∀ {a : Addr} {u : HO}, b ≠ some a → Rd (HH F M) a u → Rd (HH F' M') a u := fun n q => by
    rcases q with q | ⟨o, q⟩
    · exact .inl (x _ _ n q)
    · exact .inr ⟨o, x _ _ n q⟩
  cases d with
  | lst ds => obtain ⟨a, vs, e, n, q, r⟩ := h; exact ⟨a, vs, e, n, x _ _ n q, r.up s⟩
  | dk ks ds => obtain ⟨a, vs, e, n, q, k, r⟩ := h; exact ⟨a, vs, e, n, rd n q, k, r.up s⟩
  | dt ks ds => obtain ⟨a, vs, e, n, q, k, r⟩ := h; exact ⟨a, vs, e, n, rd n q, k, r.up s⟩
  | non => exact Dr.up s h
  | bl _ => exact Dr.up s h
  | int _ => exact Dr.up s h
  | str _ => exact Dr.up s h
  | tup _ => exact Dr.up s h
  | scr _ => exact Dr.up s h
  | ins n fs ds => obtain ⟨a, C, dx, ps, e, n, q, m, k, r⟩ := h; exact ⟨a, C, dx, ps, e, n, x _ _ n q, m, k, r.up s⟩

def Snd (c : Cy) (te : TE) (w : WE) : Prop := ∀ {b : Option Addr} {ρ : List Sl} {σ : St} {F M M0 : Hp}, Rel c b ρ σ F M M0 → ∀ (Qd : D → List Sl → Prop) (Q : VK), w ρ Qd →
  (∀ d ρ' v F' M' M0', Qd d ρ' → Aft c b F M M0 ρ' σ F' M' M0' → Dr c F' v d → Q v (HH F' M')) → te σ (HH F M) Q
def Snp (c : Cy) (te : TE) (w : WE) : Prop := ∀ {b : Option Addr} {ρ : List Sl} {σ : St} {F M M0 : Hp}, Rel c b ρ σ F M M0 → ∀ (Qd : D → List Sl → Prop) (Q : VK), w ρ Qd →
  (∀ d ρ' v F' M' M0', Qd d ρ' → Aft c b F M M0 ρ' σ F' M' M0' → Rk c b F' M' v d → Q v (HH F' M')) → te σ (HH F M) Q
def Snt (c : Cy) (tt : TT) (w : WT) : Prop := ∀ {b : Option Addr} {ρ : List Sl} {σ : St} {F M M0 : Hp}, Rel c b ρ σ F M M0 → ∀ (Qd : Bool → List Sl → Prop) (Q : Bool → Hp → Prop), w ρ Qd →
  (∀ k ρ' F' M' M0', Qd k ρ' → Aft c b F M M0 ρ' σ F' M' M0' → Q k (HH F' M')) → tt σ (HH F M) Q
def Sna (c : Cy) (ta : TA) (w : WA) : Prop := ∀ {b : Option Addr} {ρ : List Sl} {σ : St} {F M M0 : Hp}, Rel c b ρ σ F M M0 → ∀ (Qd : List D → List Sl → Prop) (Q : List V → Hp → Prop), w ρ Qd →
  (∀ ds ρ' vs F' M' M0', Qd ds ρ' → Aft c b F M M0 ρ' σ F' M' M0' → DrL c F' vs ds → Q vs (HH F' M')) → ta σ (HH F M) Q
/-- a new own object -/
def Snf (c : Cy) (te : TE) (w : List Sl → (Sl → List Sl → Prop) → Prop) : Prop := ∀ {b : Option Addr} {ρ : List Sl} {σ : St} {F M M0 : Hp}, Rel c b ρ σ F M M0 → ∀ (Qd : Sl → List Sl → Prop) (Q : VK), w ρ Qd →
  (∀ sl ρ' a o F' M' M0', Qd sl ρ' → Aft c b F M M0 ρ' σ F' M' M0' → isShal sl → ObR c F' sl o → F' a = none → M' a = none → Q (.ref a) (HH F' (upd M' a o))) → te σ (HH F M) Q

abbrev cy (X : Cx) : Cy := ⟨X.K, X.mg⟩
structure DE (X : Cx) (e : Expr) (te : TE) (w : WE) : Prop where
  pe : PE X e te
  sn : Snd (cy X) te w
structure DP (X : Cx) (e : Expr) (te : TE) (w : WE) : Prop where
  pe : PE X e te
  sn : Snp (cy X) te w
structure DT (X : Cx) (e : Expr) (tt : TT) (w : WT) : Prop where
  pe : PT X e tt
  sn : Snt (cy X) tt w
structure DWt (X : Cx) (e : Expr) (tt : TT) (w : WT) : Prop where
  pe : PW X e tt
  sn : Snt (cy X) tt w
structure DA (X : Cx) (es : List Expr) (ta : TA) (w : WA) : Prop where
  pe : PA X es ta
  sn : Sna (cy X) ta w
structure DF (X : Cx) (e : Expr) (te : TE) (w : List Sl → (Sl → List Sl → Prop) → Prop) : Prop where
  pe : PE X e te
  sn : Snf (cy X) te w

section
variable {X : Cx} {e a b' : Expr} {te ta tb : TE} {w wa wb : WE} {pos : Pos}
theorem DE.dp (h : DE X e te w) : DP X e te w := ⟨h.pe, fun {b ρ σ F M M0} R Qd Q hw k =>
  h.sn R Qd Q hw fun d ρ' v F' M' M0' q A r => k d ρ' v F' M' M0' q A (Rk.of A.rel.dj (fun a o z => A.rel.nb z) r)⟩

/-! ### freezing -/
theorem Rel.freezeS {c : Cy} {b : Option Addr} {ρ : List Sl} {σ : St} {F M M0 : Hp} {i : Nat} {sl : Sl} (R : Rel c b ρ σ F M M0) (e : ρ[i]? = some sl) (hs : isShal sl) :
    ∃ a F' M', σ[i]? = some (some (.ref a)) ∧ HH F M = HH F' M' ∧ Aft c b F M M0 (ρ.set i (.sh (obD sl))) σ F' M' M0 ∧ Dr c F' (.ref a) (obD sl) := by
  obtain ⟨a, o, M', h1, h2, h3, h4, h5, h6, h7, h8⟩ := R.env.own e hs
  have eH : HH F M = HH (upd F a o) M' := by rw [h5, hh_freeze h4]
  have sm : Same F (upd F a o) := Same.updF h3
  have dj : Dj (upd F a o) M' := Dj.updF (fun x u q => R.dj x u (by rw [h5, upd_ne (ne_of_none q h4)]; exact q)) h4
  have r : Dr c (upd F a o) (.ref a) (obD sl) := (h2.leD (.of sm)).dr upd_same
  have m0 : ∀ x u, M0 x = some u → F x = none → (upd F a o) x = none := fun x u q f => by rw [upd_ne (ne_of_none q h6)]; exact f
  have t1 := RelE.leD (LeD.of sm) m0 (M := M') (fun x u q f => by rw [upd_ne (ne_of_none q h4)]; exact f) (h7 (some (.ref a)))
  have hl : i < ρ.length := by
    rcases Nat.lt_or_ge i ρ.length with z | z
    · exact z
    · rw [List.getElem?_eq_none z] at e; cases e
  have t2 := RelE.setSh r t1 (List.getElem?_set_self hl) (fun z => z)
  rw [List.set_set, List.set_set] at t2
  have es : σ.set i (some (.ref a)) = σ := by
    obtain ⟨hi, ei⟩ := List.getElem?_eq_some_iff.mp h1
    rw [← ei]; exact List.set_getElem_self hi
  rw [es] at t2
  refine ⟨a, _, M', h1, eH, ⟨sm, ?_, ⟨dj, t2, fun x q => (R.box x q).leD (.of sm)⟩, MR.refl _ _⟩, r⟩
  rw [← eH]; exact Ext.refl _ _

theorem Rel.freezeT {c : Cy} {b : Option Addr} {ρ : List Sl} {σ : St} {F M M0 : Hp} {i : Nat} {t0 : OT} {x : V} (R : Rel c b ρ σ F M M0) (e : ρ[i]? = some (.od x t0)) :
    ∃ F' M', σ[i]? = some (some x) ∧ HH F M = HH F' M' ∧ Aft c b F M M0 (ρ.set i (.sh (otD t0))) σ F' M' M0 ∧ Dr c F' x (otD t0) := by
  obtain ⟨Mo, M', h1, h2, h3, h4, h5, h6, h7⟩ := R.env.ownT e
  have dF : Dj F Mo := OTR.dj t0 h2
  have sm : Same F (HH F Mo) := dF.same
  have eH : HH F M = HH (HH F Mo) M' := by rw [h4, hh_comm h3, hh_assoc]
  have dj : Dj (HH F Mo) M' := fun a o q => by
    rw [hh_n (h3.mn q)]
    exact R.dj a o (by rw [h4]; exact h3.f q)
  have r : Dr c (HH F Mo) x (otD t0) := OTR.frz sm t0 (fun a o q => hh_m q) h2
  have t1 := RelE.leD (LeD.of sm) (G := HH F Mo) (fun a u q f => by rw [hh_n (h3.mn (h5 a u q))]; exact f) (M := M') (fun a u q f => by rw [hh_n (h3.mn q)]; exact f) (h6 (some x))
  have hl : i < ρ.length := by
    rcases Nat.lt_or_ge i ρ.length with z | z
    · exact z
    · rw [List.getElem?_eq_none z] at e; cases e
  have t2 := RelE.setSh r t1 (List.getElem?_set_self hl) (fun z => z)
  rw [List.set_set, List.set_set] at t2
  have es : σ.set i (some x) = σ := by
    obtain ⟨hi, ei⟩ := List.getElem?_eq_some_iff.mp h1
    rw [← ei]; exact List.set_getElem_self hi
  rw [es] at t2
  refine ⟨_, M', h1, eH, ⟨sm, ?_, ⟨dj, t2, fun y q => (R.box y q).leD (.of sm)⟩, MR.refl _ _⟩, r⟩
  rw [← eH]; exact Ext.refl _ _
theorem Rel.freeze {c : Cy} {b : Option Addr} {ρ : List Sl} {σ : St} {F M M0 : Hp} {i : Nat} {sl : Sl} (R : Rel c b ρ σ F M M0) (e : ρ[i]? = some sl) (hs : isOwn sl) :
    ∃ x F' M', σ[i]? = some (some x) ∧ HH F M = HH F' M' ∧ Aft c b F M M0 (ρ.set i (.sh (obD sl))) σ F' M' M0 ∧ Dr c F' x (obD sl) := by
  rcases own_cases hs with z | ⟨x, t, rfl⟩
  · obtain ⟨a, F', M', h1, h2, h3, h4⟩ := R.freezeS e z
    exact ⟨.ref a, F', M', h1, h2, h3, h4⟩
  · obtain ⟨F', M', h1, h2, h3, h4⟩ := R.freezeT e
    exact ⟨x, F', M', h1, h2, h3, h4⟩

/-! ### names and constants -/
def wVar (i : Nat) : WE := fun ρ Q => match ρ[i]? with
  | some (.sh d) => Q d ρ
  | some .no => False
  | some .bx => False
  | some sl => Q (obD sl) (ρ.set i (.sh (obD sl)))
  | none => False
def wPk (i : Nat) : WE := fun ρ Q => match ρ[i]? with
  | some (.od _ _) => False
  | some (.sh d) => Q d ρ
  | some .no => False
  | some .bx => False
  | some sl => Q (obD sl) ρ
  | none => False
theorem snd_var {c : Cy} (i : Nat) : Snd c (tVar i) (wVar i) := fun {b ρ σ F M M0} R Qd Q hw k => by
  unfold wVar at hw
  have go : ∀ sl, ρ[i]? = some sl → isOwn sl → Qd (obD sl) (ρ.set i (.sh (obD sl))) → tVar i σ (HH F M) Q := fun sl e hs q => by
    obtain ⟨a, F', M', h1, h2, h3, h4⟩ := R.freeze e hs
    refine ⟨a, h1, ?_⟩
    rw [h2]
    exact k _ _ _ _ _ _ q h3 h4
  cases e : ρ[i]? with
  | none => rw [e] at hw; exact hw.elim
  | some sl =>
    rw [e] at hw
    cases sl with
    | sh d =>
      obtain ⟨x, h1, h2⟩ := R.env.get e
      exact ⟨x, h1, k d ρ x F M M0 hw R.aft h2⟩
    | no => exact hw.elim
    | bx => exact hw.elim
    | ol ds => exact go _ e trivial hw
    | ok ks ds => exact go _ e trivial hw
    | ot ks ds => exact go _ e trivial hw
    | oi n fs ds => exact go _ e trivial hw
    | od x t0 => exact go _ e trivial hw
theorem snp_var {c : Cy} (i : Nat) : Snp c (tVar i) (wPk i) := fun {b ρ σ F M M0} R Qd Q hw k => by
  unfold wPk at hw
  have go : ∀ sl, ρ[i]? = some sl → isShal sl → Qd (obD sl) ρ → tVar i σ (HH F M) Q := fun sl e hs q => by
    obtain ⟨a, o, M', h1, h2, h3, h4, h5, h6, h7, h8⟩ := R.env.own e hs
    refine ⟨.ref a, h1, ?_⟩
    have nb : b ≠ some a := fun z => by
      obtain ⟨_, _, _, q1, _⟩ := R.box a z
      rw [h6] at q1; cases q1
    have hH : HH F M a = some o := hh_m (by rw [h5]; exact upd_same)
    refine k _ ρ _ F M M0 q R.aft ?_
    cases sl with
    | ol ds => obtain ⟨vs, e2, r⟩ := h2; subst e2; exact ⟨a, vs, rfl, nb, hH, r⟩
    | ok ks ds => obtain ⟨vs, e2, r⟩ := h2; subst e2; exact ⟨a, vs, rfl, nb, .inl hH, r⟩
    | ot ks ds => obtain ⟨vs, e2, r⟩ := h2; subst e2; exact ⟨a, vs, rfl, nb, .inl hH, r⟩
    | oi n fs ds => obtain ⟨C, dx, ps, e2, m, r⟩ := h2; subst e2; exact ⟨a, C, dx, ps, rfl, nb, hH, m, r⟩
    | _ => exact hs.elim
  cases e : ρ[i]? with
  | none => rw [e] at hw; exact hw.elim
  | some sl =>
    rw [e] at hw
    cases sl with
    | sh d =>
      obtain ⟨x, h1, h2⟩ := R.env.get e
      exact ⟨x, h1, k d ρ x F M M0 hw R.aft (Rk.of R.dj (fun a o z => R.nb z) h2)⟩
    | no => exact hw.elim
    | bx => exact hw.elim
    | ol ds => exact go _ e trivial hw
    | ok ks ds => exact go _ e trivial hw
    | ot ks ds => exact go _ e trivial hw
    | oi n fs ds => exact go _ e trivial hw
    | od x t0 => exact hw.elim
theorem de_var (i : Nat) {x : Str} {pos : Pos} (hN : X.N[i]? = some x := by rfl) (hv : Vis X.env.scope x := by first | exact Or.inl rfl | exact Or.inr (Or.inl rfl) | exact Or.inr (Or.inr rfl)) (hd : (x == ("__debug__" : Str)) = false := by decide)
    (hcd : (x == ("__classdict__" : Str)) = false := by decide) : DE X (.Name x pos) (tVar i) (wVar i) := ⟨pe_var hN hv hd hcd, snd_var i⟩
theorem dp_var (i : Nat) {x : Str} {pos : Pos} (hN : X.N[i]? = some x := by rfl) (hv : Vis X.env.scope x := by first | exact Or.inl rfl | exact Or.inr (Or.inl rfl) | exact Or.inr (Or.inr rfl)) (hd : (x == ("__debug__" : Str)) = false := by decide)
    (hcd : (x == ("__classdict__" : Str)) = false := by decide) : DP X (.Name x pos) (tVar i) (wPk i) := ⟨pe_var hN hv hd hcd, snp_var i⟩
def wC (d : D) : WE := fun ρ Q => Q d ρ
theorem snd_c {c : Cy} {v : V} {d : D} (h : ∀ F, Dr c F v d) : Snd c (tC v) (wC d) := fun {b ρ σ F M M0} R Qd Q hw k => k d ρ v F M M0 hw R.aft (h F)
theorem de_int {i j} : DE X (.Constant (.int i) j pos) (tC (.int i)) (wC (.int i)) := ⟨pe_int, snd_c fun F => by simp only [Dr]⟩
theorem de_bl {i j} : DE X (.Constant (.bool i) j pos) (tC (.bl i)) (wC (.bl i)) := ⟨pe_bl, snd_c fun F => by simp only [Dr]⟩
theorem de_non {j} : DE X (.Constant .none j pos) (tC .non) (wC .non) := ⟨pe_non, snd_c fun F => by simp only [Dr]⟩
theorem de_str {x j} : DE X (.Constant (.str x) j pos) (tC (.str x)) (wC (.str x)) := ⟨pe_str, snd_c fun F => by simp only [Dr]⟩
theorem de_globI {x : Str} {i : Int} {u : Value} (hg : Gl X x) (hm : X.mg x = some u) (r : ∃ t, u = .int i t) (hd : (x == ("__debug__" : Str)) = false := by decide) : DE X (.Name x pos) (tC (.int i)) (wC (.int i)) :=
  ⟨pe_glob hg hm r hd, snd_c fun F => by simp only [Dr]⟩
theorem de_globS {x s : Str} {u : Value} (hg : Gl X x) (hm : X.mg x = some u) (r : ∃ t, u = .str s t) (hd : (x == ("__debug__" : Str)) = false := by decide) : DE X (.Name x pos) (tC (.str s)) (wC (.str s)) :=
  ⟨pe_glob hg hm r hd, snd_c fun F => by simp only [Dr]⟩

/-! ### operations on two values -/
/-- an operation that changes no thing; its result may be new -/
def Rop (c : Cy) (r : R2) (wr : D → D → (D → Prop) → Prop) : Prop := ∀ {b : Option Addr} {F M : Hp} {x y : V} {d1 d2 : D} (Qd : D → Prop) (Q : VK), Dj F M → Rk c b F M x d1 → Rk c b F M y d2 → wr d1 d2 Qd →
  (∀ d v F', Qd d → Same F F' → Dj F' M → (∀ a, F a = none → (M a).isSome = true → F' a = none) → Dr c F' v d → Q v (HH F' M)) → r x y (HH F M) Q
/-- the heap has grown by frozen things -/
theorem Rel.grow {c : Cy} {b : Option Addr} {ρ : List Sl} {σ : St} {F M M0 F' : Hp} (R : Rel c b ρ σ F M M0) (s : Same F F') (dj : Dj F' M) : Aft c b F M M0 ρ σ F' M M0 := by
  refine ⟨s, fun a o _ q => ?_, ⟨dj, RelE.leD (LeD.of s) (fun a o q _ => dj a o (R.env.sub a o q)) (fun a o q _ => dj a o q) R.env, fun a q => (R.box a q).leD (.of s)⟩, MR.refl _ _⟩
  rcases hh_some q with z | ⟨z1, z2⟩
  · exact hh_m z
  · rw [hh_n z1]; exact s _ _ z2
def wOp (wr : D → D → (D → Prop) → Prop) (wa wb : WE) : WE := fun ρ Q => wa ρ fun d1 ρ1 => wb ρ1 fun d2 ρ2 => wr d1 d2 fun d => Q d ρ2
theorem snd_op {c : Cy} {r : R2} {wr : D → D → (D → Prop) → Prop} (hr : Rop c r wr) (ha : Snp c ta wa) (hb : Snp c tb wb) : Snd c (tOp r ta tb) (wOp wr wa wb) := fun {b ρ σ F M M0} R Qd Q hw k => by
  refine ha R _ _ hw fun d1 ρ1 x F1 M1 M01 q1 A1 r1 => ?_
  refine hb A1.rel _ _ q1 fun d2 ρ2 y F2 M2 M02 q2 A2 r2 => ?_
  refine hr (b := b) _ _ A2.rel.dj (r1.stay A2.same A2.ext) r2 q2 fun d v F' q s dj nf rv => ?_
  exact k d ρ2 v F' M2 M02 q ((A1.trans A2).trans (A2.rel.grow s dj)) rv
theorem de_op {op : Operator} {r : R2} {wr : D → D → (D → Prop) → Prop} (ho : OpR X (binaryOp op) r) (hr : Rop (cy X) r wr) (ha : DP X a ta wa) (hb : DP X b' tb wb) : DE X (.BinOp a op b' pos) (tOp r ta tb) (wOp wr wa wb) :=
  ⟨pe_op ho ha.pe hb.pe, snd_op hr ha.sn hb.sn⟩
theorem de_cmp {op : CmpOp} {r : R2} {wr : D → D → (D → Prop) → Prop} (ho : OpR X (compareOp op) r) (hr : Rop (cy X) r wr) (ha : DP X a ta wa) (hb : DP X b' tb wb) (hm : behindInMarks op b' = false) : DE X (.Compare a [op] [b'] pos) (tOp r ta tb) (wOp wr wa wb) :=
  ⟨pe_cmpR ho ha.pe hb.pe hm, snd_op hr ha.sn hb.sn⟩
/-- a bool's test -/
def wTst (w : WE) : WT := fun ρ Q => w ρ fun d ρ' => match d with
  | .bl k => Q k ρ'
  | _ => False
theorem snt_test {c : Cy} (h : Snd c te w) : Snt c (tTest te) (wTst w) := fun {b ρ σ F M M0} R Qd Q hw k => by
  refine h R _ _ hw fun d ρ' v F' M' M0' q A r => ?_
  cases d with
  | bl j => simp only [Dr] at r; exact ⟨j, r, k j ρ' F' M' M0' q A⟩
  | _ => exact q.elim
theorem snt_B {c : Cy} (h : Snd c te w) : Snt c (tB te) (wTst w) := fun {b ρ σ F M M0} R Qd Q hw k => by
  refine h R _ _ hw fun d ρ' v F' M' M0' q A r => ?_
  cases d with
  | bl j => simp only [Dr] at r; exact ⟨j, r, k j ρ' F' M' M0' q A⟩
  | _ => exact q.elim
theorem dt_cmp {op : CmpOp} {r : R2} {wr : D → D → (D → Prop) → Prop} (ho : OpR X (compareOp op) r) (hr : Rop (cy X) r wr) (ha : DP X a ta wa) (hb : DP X b' tb wb) (hm : behindInMarks op b' = false) : DT X (.Compare a [op] [b'] pos) (tTest (tOp r ta tb)) (wTst (wOp wr wa wb)) :=
  ⟨pt_cmpR ho ha.pe hb.pe hm, snt_test (snd_op hr ha.sn hb.sn)⟩
theorem dt_val (h : DE X e te w) (he : ∀ whole, isTrue e X.env whole = (do let v ← whole; standAt e.pos; holding [v] (truthy v)) := by intro _; rfl) : DT X e (tB te) (wTst w) := ⟨pt_val h.pe he, snt_B h.sn⟩
/-- a comparison a < b < c -/
def wChain (wr wr' : D → D → (D → Prop) → Prop) (wa wb wc : WE) : WE := fun ρ Q => wa ρ fun d1 ρ1 => wb ρ1 fun d2 ρ2 => wr d1 d2 fun d => match d with
  | .bl true => wc ρ2 fun d3 ρ3 => wr' d2 d3 fun d' => Q d' ρ3
  | .bl false => Q (.bl false) ρ2
  | _ => False
theorem snd_chain {c : Cy} {r r' : R2} {wr wr' : D → D → (D → Prop) → Prop} {tc : TE} {wc : WE} (hr : Rop c r wr) (hr' : Rop c r' wr') (ha : Snp c ta wa) (hb : Snp c tb wb) (hc : Snp c tc wc) : Snd c (tChain r r' ta tb tc) (wChain wr wr' wa wb wc) := fun {b ρ σ F M M0} R Qd Q hw k => by
  refine ha R _ _ hw fun d1 ρ1 x F1 M1 M01 q1 A1 r1 => ?_
  refine hb A1.rel _ _ q1 fun d2 ρ2 y F2 M2 M02 q2 A2 r2 => ?_
  refine hr (b := b) _ _ A2.rel.dj (r1.stay A2.same A2.ext) r2 q2 fun d v F3 q s dj nf rv => ?_
  have A3 := (A1.trans A2).trans (A2.rel.grow s dj)
  cases d with
  | bl j =>
    simp only [Dr] at rv
    refine ⟨j, rv, ?_⟩
    cases j with
    | true =>
      rw [if_pos rfl]
      refine hc A3.rel _ _ q fun d3 ρ3 z F4 M4 M04 q3 A4 r3 => ?_
      refine hr' (b := b) _ _ A4.rel.dj ((r2.stay s (A2.rel.grow s dj).ext).stay A4.same A4.ext) r3 q3 fun d' v' F5 q' s' dj' nf' rv' => ?_
      exact k d' ρ3 v' F5 M4 M04 q' ((A3.trans A4).trans (A4.rel.grow s' dj')) rv'
    | false =>
      rw [if_neg Bool.false_ne_true]
      exact k _ ρ2 _ F3 M2 M02 q A3 (by simp only [Dr])
  | _ => exact q.elim
theorem de_chain {op op' : CmpOp} {c' : Expr} {tc : TE} {wc : WE} {r r' : R2} {wr wr' : D → D → (D → Prop) → Prop} (ho : OpR X (compareOp op) r) (ho' : OpR X (compareOp op') r') (hr : Rop (cy X) r wr) (hr' : Rop (cy X) r' wr') (ha : DP X a ta wa) (hb : DP X b' tb wb) (hc : DP X c' tc wc)
    (h : PE X a ta → PE X b' tb → PE X c' tc → PE X (.Compare a [op, op'] [b', c'] pos) (tChain r r' ta tb tc) := by exact fun p q r => pe_chain (by assumption) (by assumption) p q r) : DE X (.Compare a [op, op'] [b', c'] pos) (tChain r r' ta tb tc) (wChain wr wr' wa wb wc) :=
  ⟨h ha.pe hb.pe hc.pe, snd_chain hr hr' ha.sn hb.sn hc.sn⟩
/-- operations on one value -/
def Ro1 (c : Cy) (r : V → Hp → VK → Prop) (wr : D → (D → Prop) → Prop) : Prop := ∀ {b : Option Addr} {F M : Hp} {x : V} {d1 : D} (Qd : D → Prop) (Q : VK), Dj F M → Rk c b F M x d1 → wr d1 Qd →
  (∀ d v F', Qd d → Same F F' → Dj F' M → Dr c F' v d → Q v (HH F' M)) → r x (HH F M) Q
def wUn (wr : D → (D → Prop) → Prop) (wa : WE) : WE := fun ρ Q => wa ρ fun d1 ρ1 => wr d1 fun d => Q d ρ1
theorem snd_un {c : Cy} {r : V → Hp → VK → Prop} {wr : D → (D → Prop) → Prop} (hr : Ro1 c r wr) (ha : Snp c ta wa) : Snd c (tUn r ta) (wUn wr wa) := fun {b ρ σ F M M0} R Qd Q hw k => by
  refine ha R _ _ hw fun d1 ρ1 x F1 M1 M01 q1 A1 r1 => ?_
  refine hr (b := b) _ _ A1.rel.dj r1 q1 fun d v F' q s dj rv => ?_
  exact k d ρ1 v F' M1 M01 q (A1.trans (A1.rel.grow s dj)) rv
theorem de_un {op : UnaryOp} {r : V → Hp → VK → Prop} {wr : D → (D → Prop) → Prop} (ho : UnR X (unaryOp op) r) (hr : Ro1 (cy X) r wr) (ha : DP X a ta wa) : DE X (.UnaryOp op a pos) (tUn r ta) (wUn wr wa) := ⟨pe_un ho ha.pe, snd_un hr ha.sn⟩

/-! ### and, or, not, if else -/
variable {tA tB' : TT} {wA wB : WT} {rest : List Expr}
def wAnd (t u : WT) : WT := fun ρ Q => t ρ fun k ρ1 => match k with
  | true => u ρ1 Q
  | false => Q false ρ1
def wOr (t u : WT) : WT := fun ρ Q => t ρ fun k ρ1 => match k with
  | true => Q true ρ1
  | false => u ρ1 Q
def wNot (t : WT) : WT := fun ρ Q => t ρ fun k ρ1 => Q (!k) ρ1
theorem dw_and1 (ha : DT X a tA wA) : DWt X (.BoolOp .And [a] pos) tA wA := ⟨pw_and1 ha.pe, ha.sn⟩
theorem dw_or1 (ha : DT X a tA wA) : DWt X (.BoolOp .Or [a] pos) tA wA := ⟨pw_or1 ha.pe, ha.sn⟩
theorem dw_and (ha : DT X a tA wA) (hb : DWt X (.BoolOp .And (b' :: rest) pos) tB' wB) : DWt X (.BoolOp .And (a :: b' :: rest) pos) (tAnd tA tB') (wAnd wA wB) := ⟨pw_and ha.pe hb.pe, fun {b ρ σ F M M0} R Qd Q hw k => by
  refine ha.sn R _ _ hw fun j ρ1 F1 M1 M01 q1 A1 => ?_
  cases j with
  | true =>
    rw [if_pos rfl]
    exact hb.sn A1.rel _ _ q1 fun j ρ2 F2 M2 M02 q2 A2 => k j ρ2 F2 M2 M02 q2 (A1.trans A2)
  | false =>
    rw [if_neg Bool.false_ne_true]
    exact k _ _ _ _ _ q1 A1⟩
theorem dw_or (ha : DT X a tA wA) (hb : DWt X (.BoolOp .Or (b' :: rest) pos) tB' wB) : DWt X (.BoolOp .Or (a :: b' :: rest) pos) (tOr tA tB') (wOr wA wB) := ⟨pw_or ha.pe hb.pe, fun {b ρ σ F M M0} R Qd Q hw k => by
  refine ha.sn R _ _ hw fun j ρ1 F1 M1 M01 q1 A1 => ?_
  cases j with
  | false =>
    rw [if_neg Bool.false_ne_true]
    exact hb.sn A1.rel _ _ q1 fun j ρ2 F2 M2 M02 q2 A2 => k j ρ2 F2 M2 M02 q2 (A1.trans A2)
  | true =>
    rw [if_pos rfl]
    exact k _ _ _ _ _ q1 A1⟩
theorem DWt.dt (h : DWt X e tA wA) : DT X e tA wA := ⟨h.pe.pt, h.sn⟩
theorem dt_not (ha : DT X a tA wA) : DT X (.UnaryOp .Not a pos) (tNot tA) (wNot wA) := ⟨pt_not ha.pe, fun {b ρ σ F M M0} R Qd Q hw k => ha.sn R _ _ hw fun j ρ1 F1 M1 M01 q1 A1 => k _ ρ1 F1 M1 M01 q1 A1⟩
/-- .. as values -/
def wAndV (wa wb : WE) : WE := fun ρ Q => wa ρ fun d ρ1 => match d with
  | .bl true => wb ρ1 Q
  | .bl false => Q (.bl false) ρ1
  | _ => False
def wOrV (wa wb : WE) : WE := fun ρ Q => wa ρ fun d ρ1 => match d with
  | .bl true => Q (.bl true) ρ1
  | .bl false => wb ρ1 Q
  | _ => False
def wNotV (wa : WE) : WE := fun ρ Q => wa ρ fun d ρ1 => match d with
  | .bl k => Q (.bl (!k)) ρ1
  | _ => False
theorem de_one {op} (h : DE X a ta wa) : DE X (.BoolOp op [a] pos) ta wa := ⟨pe_one h.pe, h.sn⟩
theorem de_and (ha : DE X a ta wa) (hb : DE X (.BoolOp .And (b' :: rest) pos) tb wb) : DE X (.BoolOp .And (a :: b' :: rest) pos) (tAndV ta tb) (wAndV wa wb) := ⟨pe_and ha.pe hb.pe, fun {b ρ σ F M M0} R Qd Q hw k => by
  refine ha.sn R _ _ hw fun d ρ1 v F1 M1 M01 q1 A1 r => ?_
  cases d with
  | bl j =>
    simp only [Dr] at r
    refine ⟨j, r, ?_⟩
    cases j with
    | true =>
      rw [if_pos rfl]
      exact hb.sn A1.rel _ _ q1 fun d ρ2 v F2 M2 M02 q2 A2 r2 => k d ρ2 v F2 M2 M02 q2 (A1.trans A2) r2
    | false =>
      rw [if_neg Bool.false_ne_true]
      exact k _ _ _ _ _ _ q1 A1 (by simp only [Dr])
  | _ => exact q1.elim⟩
theorem de_or (ha : DE X a ta wa) (hb : DE X (.BoolOp .Or (b' :: rest) pos) tb wb) : DE X (.BoolOp .Or (a :: b' :: rest) pos) (tOrV ta tb) (wOrV wa wb) := ⟨pe_or ha.pe hb.pe, fun {b ρ σ F M M0} R Qd Q hw k => by
  refine ha.sn R _ _ hw fun d ρ1 v F1 M1 M01 q1 A1 r => ?_
  cases d with
  | bl j =>
    simp only [Dr] at r
    refine ⟨j, r, ?_⟩
    cases j with
    | false =>
      rw [if_neg Bool.false_ne_true]
      exact hb.sn A1.rel _ _ q1 fun d ρ2 v F2 M2 M02 q2 A2 r2 => k d ρ2 v F2 M2 M02 q2 (A1.trans A2) r2
    | true =>
      rw [if_pos rfl]
      exact k _ _ _ _ _ _ q1 A1 (by simp only [Dr])
  | _ => exact q1.elim⟩
theorem de_not (ha : DE X a ta wa) : DE X (.UnaryOp .Not a pos) (tNotV ta) (wNotV wa) := ⟨pe_not ha.pe, fun {b ρ σ F M M0} R Qd Q hw k => by
  refine ha.sn R _ _ hw fun d ρ1 v F1 M1 M01 q1 A1 r => ?_
  cases d with
  | bl j => simp only [Dr] at r; exact ⟨j, r, k _ ρ1 _ F1 M1 M01 q1 A1 (by simp only [Dr])⟩
  | _ => exact q1.elim⟩
def wIfE (t : WT) (wa wb : WE) : WE := fun ρ Q => t ρ fun k ρ1 => match k with
  | true => wa ρ1 Q
  | false => wb ρ1 Q
theorem de_if {c' : Expr} (hc : DT X c' tA wA) (ha : DE X a ta wa) (hb : DE X b' tb wb) : DE X (.IfExp c' a b' pos) (tIf tA ta tb) (wIfE wA wa wb) := ⟨pe_ifExp hc.pe ha.pe hb.pe, fun {b ρ σ F M M0} R Qd Q hw k => by
  refine hc.sn R _ _ hw fun j ρ1 F1 M1 M01 q1 A1 => ?_
  cases j with
  | true =>
    rw [if_pos rfl]
    exact ha.sn A1.rel _ _ q1 fun d ρ2 v F2 M2 M02 q2 A2 r2 => k d ρ2 v F2 M2 M02 q2 (A1.trans A2) r2
  | false =>
    rw [if_neg Bool.false_ne_true]
    exact hb.sn A1.rel _ _ q1 fun d ρ2 v F2 M2 M02 q2 A2 r2 => k d ρ2 v F2 M2 M02 q2 (A1.trans A2) r2⟩

/-! ### arguments, displays -/
variable {es : List Expr} {t : TA} {wt : WA}
def waNil : WA := fun ρ Q => Q [] ρ
def waCons (w : WE) (wr : WA) : WA := fun ρ Q => w ρ fun d ρ1 => wr ρ1 fun ds ρ2 => Q (d :: ds) ρ2
theorem da_nil : DA X [] tNil waNil := ⟨pa_nil, fun {b ρ σ F M M0} R Qd Q hw k => k [] ρ [] F M M0 hw R.aft .nil⟩
theorem da_cons (ha : DE X e te w) (hr : DA X es t wt) (hs : starEach (e :: es) X.env = (false, eval e X.env) :: starEach es X.env := by rfl) : DA X (e :: es) (tCons te t) (waCons w wt) :=
  ⟨pa_cons ha.pe hr.pe hs, fun {b ρ σ F M M0} R Qd Q hw k => by
    refine ha.sn R _ _ hw fun d ρ1 v F1 M1 M01 q1 A1 r1 => ?_
    exact hr.sn A1.rel _ _ q1 fun ds ρ2 vs F2 M2 M02 q2 A2 r2 => k (d :: ds) ρ2 (v :: vs) F2 M2 M02 q2 (A1.trans A2) (.cons (r1.up A2.same) r2)⟩
def wTup (wt : WA) : WE := fun ρ Q => wt ρ fun ds ρ1 => ds.length ≤ sizeLine ∧ Q (.tup ds) ρ1
theorem de_tup {x1} (h : DA X es t wt) : DE X (.Tuple es x1 pos) (tTup t) (wTup wt) := ⟨pe_tup h.pe, fun {b ρ σ F M M0} R Qd Q hw k => by
  refine h.sn R _ _ hw fun ds ρ1 vs F1 M1 M01 q1 A1 r1 => ⟨by rw [r1.length]; exact q1.1, fun p hp => ?_⟩
  obtain ⟨hf, hm⟩ := hh_none hp
  rw [hh_updF hm]
  have s : Same F1 (upd F1 p (.tup vs)) := Same.updF hf
  refine k _ ρ1 _ _ M1 M01 q1.2 (A1.trans (A1.rel.grow s (A1.rel.dj.updF hm))) ?_
  simp only [Dr]
  exact ⟨p, vs, rfl, upd_same, r1.up s⟩⟩
def wfLst (wt : WA) : List Sl → (Sl → List Sl → Prop) → Prop := fun ρ Q => wt ρ fun ds ρ1 => ds.length ≤ sizeLine ∧ Q (.ol ds) ρ1
theorem df_lst (h : DA X es t wt) : DF X (.List es pos) (tLst t) (wfLst wt) := ⟨pe_lst h.pe, fun {b ρ σ F M M0} R Qd Q hw k => by
  refine h.sn R _ _ hw fun ds ρ1 vs F1 M1 M01 q1 A1 r1 => ⟨by rw [r1.length]; exact q1.1, fun p hp => ?_⟩
  obtain ⟨hf, hm⟩ := hh_none hp
  rw [hh_updM]
  exact k (.ol ds) ρ1 p _ F1 M1 M01 q1.2 A1 trivial ⟨vs, rfl, r1⟩ hf hm⟩
/-- a new own object, frozen at once -/
def wFz (wf : List Sl → (Sl → List Sl → Prop) → Prop) : WE := fun ρ Q => wf ρ fun sl ρ1 => Q (obD sl) ρ1
theorem DF.de {wf : List Sl → (Sl → List Sl → Prop) → Prop} (h : DF X e te wf) : DE X e te (wFz wf) := ⟨h.pe, fun {b ρ σ F M M0} R Qd Q hw k => by
  refine h.sn R _ _ hw fun sl ρ1 a o F1 M1 M01 q1 A1 hs r f m => ?_
  rw [hh_freeze m]
  have s : Same F1 (upd F1 a o) := Same.updF f
  exact k _ ρ1 _ _ M1 M01 q1 (A1.trans (A1.rel.grow s (A1.rel.dj.updF m))) ((r.leD (.of s)).dr upd_same)⟩
end
end DL

/-! Statements, loops, comprehensions, defs. -/
namespace DL
open PySem L2

structure EnD where
  nx : List Sl → Prop
  rt : D → List Sl → Prop
  bk : List Sl → Prop := fun _ => False
  ct : List Sl → Prop := fun _ => False
abbrev WS := List Sl → EnD → Prop
/-- the ends over heaps follow from the ends over data -/
structure Fin (c : Cy) (b : Option Addr) (F M0 : Hp) (E : EnD) (Dn : Ends) : Prop where
  nx : ∀ ρ σ F' M' M0', E.nx ρ → Same F F' → Rel c b ρ σ F' M' M0' → MR b M0 M0' → Dn.nx σ (HH F' M')
  bk : ∀ ρ σ F' M' M0', E.bk ρ → Same F F' → Rel c b ρ σ F' M' M0' → MR b M0 M0' → Dn.bk σ (HH F' M')
  ct : ∀ ρ σ F' M' M0', E.ct ρ → Same F F' → Rel c b ρ σ F' M' M0' → MR b M0 M0' → Dn.ct σ (HH F' M')
  rt : ∀ d v ρ σ F' M' M0', E.rt d ρ → Same F F' → Rel c b ρ σ F' M' M0' → MR b M0 M0' → Dr c F' v d → Dn.rt v (HH F' M')
def Sns (c : Cy) (ts : TS) (w : WS) : Prop := ∀ {b : Option Addr} {ρ : List Sl} {σ : St} {F M M0 : Hp}, Rel c b ρ σ F M M0 → ∀ (E : EnD) (Dn : Ends), w ρ E → Fin c b F M0 E Dn → ts Dn σ (HH F M)
structure DS (X : Cx) (s : Stmt) (ts : TS) (w : WS) : Prop where
  ps : PS X s ts
  sn : Sns (cy X) ts w
structure DSs (X : Cx) (s : List Stmt) (ts : TS) (w : WS) : Prop where
  ps : PSs X s ts
  sn : Sns (cy X) ts w
section
variable {c : Cy} {b : Option Addr} {F M M0 F1 M1 M01 : Hp} {ρ ρ1 : List Sl} {σ : St} {E : EnD} {Dn : Ends}
theorem Fin.on (f : Fin c b F M0 E Dn) (s : Same F F1) (m : MR b M0 M01) : Fin c b F1 M01 E Dn :=
  ⟨fun ρ σ F' M' M0' e s' r m' => f.nx ρ σ F' M' M0' e (s.trans s') r (m.trans m'), fun ρ σ F' M' M0' e s' r m' => f.bk ρ σ F' M' M0' e (s.trans s') r (m.trans m'),
    fun ρ σ F' M' M0' e s' r m' => f.ct ρ σ F' M' M0' e (s.trans s') r (m.trans m'), fun d v ρ σ F' M' M0' e s' R m' r => f.rt d v ρ σ F' M' M0' e (s.trans s') R (m.trans m') r⟩
/-- all own objects frozen -/
theorem RelE.frzAll : ∀ {ρ : List Sl} {σ : St} {F M : Hp}, RelE c b F M0 ρ σ M → Dj F M → ∃ F', Same F F' ∧ HH F M = HH F' M0 ∧ Dj F' M0
  | [], σ, F, M, h, dj => by
    obtain ⟨_, rfl⟩ := h
    exact ⟨F, Same.refl _, rfl, dj⟩
  | s1 :: ρ, σ, F, M, h, dj => by
    obtain ⟨v, σr, e, h⟩ := h
    have own : ∀ sl : Sl, (∃ a o M', v = some (.ref a) ∧ ObR c F sl o ∧ F a = none ∧ M' a = none ∧ M = upd M' a o ∧ RelE c b F M0 ρ σr M') → ∃ F', Same F F' ∧ HH F M = HH F' M0 ∧ Dj F' M0 := fun sl h => by
      obtain ⟨a, o, M', e1, r, f, m, e2, t⟩ := h
      have dj' : Dj F M' := fun x u q => dj x u (by rw [e2, upd_ne (ne_of_none q m)]; exact q)
      have s : Same F (upd F a o) := Same.updF f
      have t' : RelE c b (upd F a o) M0 ρ σr M' := t.leD (.of s) (fun x u q z => by rw [upd_ne (ne_of_none (t.sub _ _ q) m)]; exact z) (fun x u q z => by rw [upd_ne (ne_of_none q m)]; exact z)
      obtain ⟨F', h1, h2, h3⟩ := RelE.frzAll t' (dj'.updF m)
      exact ⟨F', s.trans h1, by rw [e2, hh_freeze m, h2], h3⟩
    cases s1 with
    | no => exact RelE.frzAll h dj
    | sh d => exact RelE.frzAll h.2 dj
    | bx => exact RelE.frzAll h.2 dj
    | ol ds => exact own (.ol ds) h
    | ok ks ds => exact own (.ok ks ds) h
    | ot ks ds => exact own (.ot ks ds) h
    | oi n fs ds => exact own (.oi n fs ds) h
    | od x t0 =>
      obtain ⟨Mo, M', e1, r, d, e2, t⟩ := h
      have dF : Dj F Mo := OTR.dj t0 r
      have s : Same F (HH F Mo) := dF.same
      have dj' : Dj (HH F Mo) M' := fun a o q => by
        rw [hh_n (d.mn q)]
        exact dj a o (by rw [e2]; exact d.f q)
      have t' : RelE c b (HH F Mo) M0 ρ σr M' := t.leD (.of s) (fun y u q z => by rw [hh_n (d.mn (t.sub _ _ q))]; exact z) (fun y u q z => by rw [hh_n (d.mn q)]; exact z)
      obtain ⟨F', h1, h2, h3⟩ := RelE.frzAll t' dj'
      exact ⟨F', s.trans h1, by rw [e2, hh_comm d, hh_assoc, h2], h3⟩
/-- a shared value comes to a slot -/
theorem Rel.set {x : V} {d : D} {i : Nat} {sl : Sl} (R : Rel c b ρ σ F M M0) (q : Dr c F x d) (e : ρ[i]? = some sl) :
    ∃ F' M', HH F M = HH F' M' ∧ Same F F' ∧ Rel c b (ρ.set i (.sh d)) (σ.set i (some x)) F' M' M0 := by
  by_cases hs : isOwn sl
  · obtain ⟨a, F', M', h1, h2, A, r⟩ := R.freeze e hs
    have hl : i < ρ.length := by
      rcases Nat.lt_or_ge i ρ.length with z | z
      · exact z
      · rw [List.getElem?_eq_none z] at e; cases e
    have t := RelE.setSh (q.up A.same) A.rel.env (List.getElem?_set_self hl) (fun z => z)
    rw [List.set_set] at t
    exact ⟨F', M', h2, A.same, A.rel.dj, t, A.rel.box⟩
  · exact ⟨F, M, rfl, Same.refl _, R.dj, R.env.setSh q e hs, R.box⟩
end

section
variable {X : Cx} {st : Stmt} {rest : List Stmt} {t u : TS} {wt wu : WS} {e : Expr} {te : TE} {w : WE} {pos : Pos}
def wNext : WS := fun ρ E => E.nx ρ
def wSeq (w1 w2 : WS) : WS := fun ρ E => w1 ρ { E with nx := fun ρ' => w2 ρ' E }
theorem dss_nil : DSs X [] tNext wNext := ⟨pss_nil, fun {b ρ σ F M M0} R E Dn hw f => f.nx ρ σ F M M0 hw (Same.refl _) R (MR.refl _ _)⟩
theorem sns_seq {c : Cy} (h1 : Sns c t wt) (h2 : Sns c u wu) : Sns c (tSeq t u) (wSeq wt wu) := fun {b ρ σ F M M0} R E Dn hw f =>
  h1 R _ { Dn with nx := u Dn } hw ⟨fun ρ' σ' F' M' M0' e s r m => h2 r E Dn e (f.on s m), f.bk, f.ct, f.rt⟩
theorem dss_cons (h1 : DS X st t wt) (h2 : DSs X rest u wu) : DSs X (st :: rest) (tSeq t u) (wSeq wt wu) := ⟨pss_cons h1.ps h2.ps, sns_seq h1.sn h2.sn⟩
theorem dss_one (h1 : DS X st t wt) : DSs X [st] t wt := ⟨pss_one h1.ps, h1.sn⟩
def wBreak : WS := fun ρ E => E.bk ρ
def wCont : WS := fun ρ E => E.ct ρ
theorem ds_pass : DS X (.Pass pos) tNext wNext := ⟨ps_pass, fun {b ρ σ F M M0} R E Dn hw f => f.nx ρ σ F M M0 hw (Same.refl _) R (MR.refl _ _)⟩
theorem ds_break : DS X (.Break pos) tBreak wBreak := ⟨ps_break, fun {b ρ σ F M M0} R E Dn hw f => f.bk ρ σ F M M0 hw (Same.refl _) R (MR.refl _ _)⟩
theorem ds_continue : DS X (.Continue pos) tCont wCont := ⟨ps_continue, fun {b ρ σ F M M0} R E Dn hw f => f.ct ρ σ F M M0 hw (Same.refl _) R (MR.refl _ _)⟩
theorem ds_doc {x j pos pos'} : DS X (.Expr (.Constant (.str x) j pos) pos') tNext wNext := ⟨ps_doc, fun {b ρ σ F M M0} R E Dn hw f => f.nx ρ σ F M M0 hw (Same.refl _) R (MR.refl _ _)⟩
def wDrop (w : WE) : WS := fun ρ E => w ρ fun _ ρ1 => E.nx ρ1
theorem ds_expr (he : DE X e te w) (hs : swapsWith e none pos.line X.env = pure false := by rfl) : DS X (.Expr e pos) (tDrop te) (wDrop w) := ⟨ps_expr he.pe hs, fun {b ρ σ F M M0} R E Dn hw f =>
  he.sn R _ _ hw fun d ρ1 v F1 M1 M01 q A r => f.nx ρ1 σ F1 M1 M01 q A.same A.rel A.mr⟩
def wRet (w : WE) : WS := fun ρ E => w ρ fun d ρ1 => E.rt d ρ1
theorem ds_ret (he : DE X e te w) : DS X (.Return (some e) pos) (tRet te) (wRet w) := ⟨ps_ret he.pe, fun {b ρ σ F M M0} R E Dn hw f =>
  he.sn R _ _ hw fun d ρ1 v F1 M1 M01 q A r => f.rt d v ρ1 σ F1 M1 M01 q A.same A.rel A.mr r⟩
def wRetN : WS := fun ρ E => E.rt .non ρ
theorem ds_retN : DS X (.Return none pos) tRetN wRetN := ⟨ps_retN, fun {b ρ σ F M M0} R E Dn hw f => f.rt .non .non ρ σ F M M0 hw (Same.refl _) R (MR.refl _ _) (by simp only [Dr])⟩
def wIf (wc : WT) (w1 w2 : WS) : WS := fun ρ E => wc ρ fun k ρ1 => match k with
  | true => w1 ρ1 E
  | false => w2 ρ1 E
theorem ds_if {c : Expr} {a b : List Stmt} {tc : TT} {wc : WT} (hc : DT X c tc wc) (ha : DSs X a t wt) (hb : DSs X b u wu) : DS X (.If c a b pos) (tIfS tc t u) (wIf wc wt wu) := ⟨ps_if hc.pe ha.ps hb.ps, fun {b ρ σ F M M0} R E Dn hw f => by
  refine hc.sn R _ _ hw fun k ρ1 F1 M1 M01 q A => ?_
  cases k with
  | true =>
    rw [if_pos rfl]
    exact ha.sn A.rel E Dn q (f.on A.same A.mr)
  | false =>
    rw [if_neg Bool.false_ne_true]
    exact hb.sn A.rel E Dn q (f.on A.same A.mr)⟩
/-! ### targets -/
abbrev WG := D → List Sl → (List Sl → Prop) → Prop
def Sng (c : Cy) (g : TG) (w : WG) (is : List Nat) : Prop := ∀ {b : Option Addr} {ρ : List Sl} {σ : St} {F M M0 : Hp} {v : V} {d : D}, Rel c b ρ σ F M M0 → Dr c F v d → ∀ (Qd : List Sl → Prop) (Q : St → Hp → Prop), w d ρ Qd →
  (∀ ρ' σ' F' M' M0', Qd ρ' → Same F F' → Ext b (HH F M) (HH F' M') → Rel c b ρ' σ' F' M' M0' → MR b M0 M0' → (∀ vs : List Nat, (∀ i ∈ is, i ∈ vs) → wipe σ' vs = wipe σ vs) → Q σ' (HH F' M')) → g v σ (HH F M) Q
structure DG (X : Cx) (e : Expr) (g : TG) (w : WG) (is : List Nat) : Prop where
  pg : PG X e g
  sn : Sng (cy X) g w is
theorem wipe_out {σ : St} {i : Nat} {x : Option V} : ∀ {vs : List Nat}, i ∉ vs → wipe (σ.set i x) vs = (wipe σ vs).set i x
  | [], _ => rfl
  | v :: vs, h => by
    have h1 : v ≠ i := fun e => h (by rw [e]; exact List.mem_cons_self)
    have h2 : i ∉ vs := fun e => h (List.mem_cons_of_mem _ e)
    unfold wipe
    rw [wipe_out h2, List.set_comm _ _ h1]
theorem wipe_in {σ : St} {i : Nat} {x : Option V} : ∀ {vs : List Nat}, i ∈ vs → wipe (σ.set i x) vs = wipe σ vs
  | [], h => absurd h (by simp)
  | v :: vs, h => by
    by_cases h2 : i ∈ vs
    · unfold wipe
      rw [wipe_in h2]
    · have e : i = v := (List.mem_cons.mp h).resolve_right h2
      subst e
      unfold wipe
      rw [wipe_out h2, List.set_set]
/-- a slot is stored -/
def wSt (i : Nat) (d : D) (ρ : List Sl) (Q : List Sl → Prop) : Prop := match ρ[i]? with
  | some _ => Q (ρ.set i (.sh d))
  | none => False
theorem sng_name {c : Cy} (i : Nat) : Sng c (gName i) (wSt i) [i] := fun {b ρ σ F M M0 v d} R r Qd Q hw k => by
  unfold wSt at hw
  cases e : ρ[i]? with
  | none => rw [e] at hw; exact hw.elim
  | some sl =>
    rw [e] at hw
    obtain ⟨F', M', eh, s, R'⟩ := R.set r e
    show Q (σ.set i (some v)) (HH F M)
    rw [eh]
    refine k _ _ F' M' M0 hw s ?_ R' (MR.refl _ _) fun vs hv => wipe_in (hv i (by simp))
    rw [eh]; exact Ext.refl _ _
theorem dg_name {i : Nat} {x : Str} (hN : X.N.Nodup) (hi : X.N[i]? = some x) (hx : Loc X.env.scope x) (hf : X.fn x = true ∨ X.env.scope.names.lookup x = some .local := by first | exact .inl rfl | exact .inr rfl | assumption) : DG X (.Name x pos) (gName i) (wSt i) [i] :=
  ⟨pg_name hN hi hx hf, sng_name i⟩
/-- several names -/
def gNames : List Nat → TGs
  | [] => gNil
  | i :: r => gCons (gName i) (gNames r)
def wStL : List Nat → List D → List Sl → (List Sl → Prop) → Prop
  | [], ds, ρ, Q => match ds with
    | [] => Q ρ
    | _ :: _ => False
  | i :: r, ds, ρ, Q => match ds with
    | [] => False
    | d :: ds => wSt i d ρ fun ρ1 => wStL r ds ρ1 Q
theorem sngs_names {c : Cy} : ∀ (is : List Nat) {b : Option Addr} {ρ : List Sl} {σ : St} {F M M0 : Hp} {vs : List V} {ds : List D}, Rel c b ρ σ F M M0 → DrL c F vs ds → ∀ (Qd : List Sl → Prop) (Q : St → Hp → Prop), wStL is ds ρ Qd →
    (∀ ρ' σ' F' M' M0', Qd ρ' → Same F F' → Ext b (HH F M) (HH F' M') → Rel c b ρ' σ' F' M' M0' → MR b M0 M0' → (∀ vs : List Nat, (∀ i ∈ is, i ∈ vs) → wipe σ' vs = wipe σ vs) → Q σ' (HH F' M')) → gNames is vs σ (HH F M) Q
  | [], b, ρ, σ, F, M, M0, vs, ds, R, r, Qd, Q, hw, k => by
    cases ds with
    | nil => exact ⟨r.nil_iff, k ρ σ F M M0 hw (Same.refl _) (Ext.refl _ _) R (MR.refl _ _) fun _ _ => rfl⟩
    | cons d ds => exact hw.elim
  | i :: is, b, ρ, σ, F, M, M0, vs, ds, R, r, Qd, Q, hw, k => by
    cases ds with
    | nil => exact hw.elim
    | cons d ds =>
      obtain ⟨v, vr, rfl, r1, r2⟩ := r.cons_iff
      refine ⟨v, vr, rfl, ?_⟩
      have hw : wSt i d ρ fun ρ1 => wStL is ds ρ1 Qd := hw
      refine sng_name i R r1 _ _ hw fun ρ1 σ1 F1 M1 M01 q s x R1 m z => ?_
      exact sngs_names is R1 (r2.up s) Qd Q q fun ρ2 σ2 F2 M2 M02 q2 s2 x2 R2 m2 z2 => k ρ2 σ2 F2 M2 M02 q2 (s.trans s2) (x.trans x2) R2 (m.trans m2) fun vs hv =>
        (z2 vs fun j hj => hv j (List.mem_cons_of_mem _ hj)).trans (z vs fun j hj => hv j (by rw [List.mem_singleton.mp hj]; exact List.mem_cons_self))
def wTp (is : List Nat) : WG := fun d ρ Q => match d with
  | .tup ds => ds.length = is.length ∧ wStL is ds ρ Q
  | _ => False
theorem sng_tup {c : Cy} (is : List Nat) {n : Nat} (hn : n = is.length) : Sng c (gTup c.K n (gNames is)) (wTp is) is := fun {b ρ σ F M M0 v d} R r Qd Q hw k => by
  cases d with
  | tup ds =>
    simp only [Dr] at r
    obtain ⟨a, vs, e, q, rl⟩ := r
    exact ⟨a, vs, e, SqT.of (R.dj.f q), by rw [rl.length, hn]; exact hw.1, sngs_names is R rl Qd Q hw.2 k⟩
  | _ => exact hw.elim
theorem dg_tup {es : List Expr} {k : Nat} (is : List Nat) (hc : X.calm = true) (h : PGs X es (gNames is)) (hn : (assignEach es X.env).length = is.length := by rfl) (hst : (assignEach es X.env).findIdx? (·.1) = none := by rfl) : DG X (.Tuple es k pos) (gTup X.K is.length (gNames is)) (wTp is) is :=
  ⟨pg_tup hc h hn hst, sng_tup (c := cy X) is rfl⟩
theorem gs_nil : PGs X [] (gNames []) := pgs_nil
theorem gs_cons {es : List Expr} {x : Str} {p : Pos} {i : Nat} {is : List Nat} (hN : X.N.Nodup) (hi : X.N[i]? = some x) (hx : Loc X.env.scope x) (hr : PGs X es (gNames is))
    (hs : (assignEach (.Name x p :: es) X.env).map (·.2) = assign (.Name x p) X.env :: (assignEach es X.env).map (·.2) := by rfl) (hf : X.fn x = true ∨ X.env.scope.names.lookup x = some .local := by first | exact .inl rfl | exact .inr rfl | assumption) : PGs X (.Name x p :: es) (gNames (i :: is)) :=
  pgs_cons (pg_name hN hi hx hf) hr hs
def wAsg (w : WE) (g : WG) : WS := fun ρ E => w ρ fun d ρ1 => g d ρ1 E.nx
theorem sns_asg {c : Cy} {g : TG} {wg : WG} {is : List Nat} (he : Snd c te w) (hg : Sng c g wg is) : Sns c (tAsg te g) (wAsg w wg) := fun {b ρ σ F M M0} R E Dn hw f =>
  he R _ _ hw fun d ρ1 v F1 M1 M01 q A r => hg A.rel r _ _ q fun ρ2 σ2 F2 M2 M02 q2 s x R2 m _ => f.nx ρ2 σ2 F2 M2 M02 q2 (A.same.trans s) R2 (A.mr.trans m)
theorem ds_asg {tg : Expr} {g : TG} {wg : WG} {is : List Nat} (he : DE X e te w) (hg : DG X tg g wg is) (hs : swapsWithSole [tg] e pos.line X.env = pure false := by rfl) (hw : swappedStores [tg] e X.env = pure none := by rfl)
    (h1 : (assignEach [tg] X.env).map (·.2) = [assign tg X.env] := by rfl) : DS X (.Assign [tg] e pos) (tAsg te g) (wAsg w wg) := ⟨ps_asg he.pe hg.pg hs hw h1, sns_asg he.sn hg.sn⟩
theorem ds_set {i : Nat} {x : Str} {pos' : Pos} (hN : X.N.Nodup) (hi : X.N[i]? = some x) (hx : Loc X.env.scope x) (he : DE X e te w) (hs : swapsWith e (some (.Name x pos')) pos.line X.env = pure false := by rfl) (hf : X.fn x = true ∨ X.env.scope.names.lookup x = some .local := by first | exact .inl rfl | exact .inr rfl | assumption) :
    DS X (.Assign [.Name x pos'] e pos) (tAsg te (gName i)) (wAsg w (wSt i)) := ⟨ps_set hN hi hx he.pe hs hf, sns_asg he.sn (sng_name i)⟩
/-- the name gets a new own object -/
def wAsgO (wf : List Sl → (Sl → List Sl → Prop) → Prop) (i : Nat) : WS := fun ρ E => wf ρ fun sl ρ1 => match ρ1[i]? with
  | some _ => E.nx (ρ1.set i sl)
  | none => False
theorem sns_asgO {c : Cy} {wf : List Sl → (Sl → List Sl → Prop) → Prop} {i : Nat} (he : Snf c te wf) : Sns c (tAsg te (gName i)) (wAsgO wf i) := fun {b ρ σ F M M0} R E Dn hw f =>
  he R _ _ hw fun sl ρ1 a o F1 M1 M01 q A hs r fr m => by
    cases e : ρ1[i]? with
    | none => simp only [e] at q
    | some s0 =>
      simp only [e] at q
      -- first forget what stood there
      have key : ∃ F' M', Same F1 F' ∧ HH F1 M1 = HH F' M' ∧ F' a = none ∧ M' a = none ∧ Dj F' M' ∧ RelE c b F' M01 (ρ1.set i .no) σ M' := by
        have es : σ.set i (σ[i]?.getD none) = σ := by
          cases h : σ[i]? with
          | none => rw [List.set_eq_of_length_le (List.getElem?_eq_none_iff.mp h)]
          | some x =>
            obtain ⟨hi, ei⟩ := List.getElem?_eq_some_iff.mp h
            show σ.set i x = σ
            rw [← ei]; exact List.set_getElem_self hi
        by_cases h0 : isOwn s0
        · obtain ⟨a', F', M', h1, h2, A', r'⟩ := A.rel.freeze e h0
          have hl : i < ρ1.length := by
            rcases Nat.lt_or_ge i ρ1.length with z | z
            · exact z
            · rw [List.getElem?_eq_none z] at e; cases e
          have t := RelE.forget (x := σ[i]?.getD none) A'.rel.env (List.getElem?_set_self hl) (fun z => z)
          rw [List.set_set, es] at t
          have hn : HH F' M' a = none := by rw [← h2, hh_n m]; exact fr
          obtain ⟨n1, n2⟩ := hh_none hn
          exact ⟨F', M', A'.same, h2, n1, n2, A'.rel.dj, t⟩
        · have t := RelE.forget (x := σ[i]?.getD none) A.rel.env e h0
          rw [es] at t
          exact ⟨F1, M1, Same.refl _, rfl, fr, m, A.rel.dj, t⟩
      obtain ⟨F', M', s, eh, n1, n2, dj, t⟩ := key
      have hl : i < ρ1.length := by
        rcases Nat.lt_or_ge i ρ1.length with z | z
        · exact z
        · rw [List.getElem?_eq_none z] at e; cases e
      have t2 := RelE.setOw hs (r.leD (.of s)) n1 t n2 (List.getElem?_set_self hl) (fun z => z)
      rw [List.set_set] at t2
      show Dn.nx (σ.set i (some (.ref a))) (HH F1 (upd M1 a o))
      rw [← hh_updM, eh, hh_updM]
      exact f.nx _ _ F' _ M01 q (A.same.trans s) ⟨dj.updM n1, t2, fun x z => (A.rel.box x z).leD (.of s)⟩ A.mr
theorem ds_setO {i : Nat} {x : Str} {pos' : Pos} {wf : List Sl → (Sl → List Sl → Prop) → Prop} (hN : X.N.Nodup) (hi : X.N[i]? = some x) (hx : Loc X.env.scope x) (he : DF X e te wf) (hs : swapsWith e (some (.Name x pos')) pos.line X.env = pure false := by rfl) (hf : X.fn x = true ∨ X.env.scope.names.lookup x = some .local := by first | exact .inl rfl | exact .inr rfl | assumption) :
    DS X (.Assign [.Name x pos'] e pos) (tAsg te (gName i)) (wAsgO wf i) := ⟨ps_set hN hi hx he.pe hs hf, sns_asgO he.sn⟩
/-- name op= e -/
def wAug (i : Nat) (wr : D → D → (D → Prop) → Prop) (w : WE) : WS := fun ρ E => match ρ[i]? with
  | some (.sh d0) => w ρ fun d ρ1 => wr d0 d fun d' => wSt i d' ρ1 E.nx
  | _ => False
theorem ds_aug {i : Nat} {x : Str} {op : Operator} {ti : TIp} {wr : D → D → (D → Prop) → Prop} {pos' : Pos} (hN : X.N.Nodup) (hi : X.N[i]? = some x) (hx : Loc X.env.scope x) (he : DE X e te w) (ho : PIp X op ti) (hr : Rop (cy X) ti wr) (hf : X.fn x = true ∨ X.env.scope.names.lookup x = some .local := by first | exact .inl rfl | exact .inr rfl | assumption) :
    DS X (.AugAssign (.Name x pos') op e pos) (tAug i te ti) (wAug i wr w) := ⟨ps_aug hN hi hx he.pe ho hf, fun {b ρ σ F M M0} R E Dn hw f => by
  unfold wAug at hw
  cases e : ρ[i]? with
  | none => rw [e] at hw; exact hw.elim
  | some sl =>
    rw [e] at hw
    cases sl with
    | sh d0 =>
      obtain ⟨x0, h1, h2⟩ := R.env.get e
      refine ⟨x0, h1, ?_⟩
      refine he.sn R _ _ hw fun d ρ1 v F1 M1 M01 q A r => ?_
      refine hr (b := b) _ _ A.rel.dj (Rk.of A.rel.dj (fun a o z => A.rel.nb z) (h2.up A.same)) (Rk.of A.rel.dj (fun a o z => A.rel.nb z) r) q fun d' v' F2 q' s dj _ r' => ?_
      have A2 := A.trans (A.rel.grow s dj)
      exact sng_name i A2.rel r' _ _ q' fun ρ2 σ2 F3 M3 M03 q2 s2 x2 R2 m2 _ => f.nx ρ2 σ2 F3 M3 M03 q2 (A2.same.trans s2) R2 (A2.mr.trans m2)
    | _ => exact hw.elim⟩
end

/-! ### loops -/
/-- what is walked yields these data -/
def ItOk (c : Cy) (J : It) (F : Hp) (ds : List D) : Prop := ∀ (F' M' : Hp), Same F F' → Dj F' M' → ∀ i, (∀ d, ds[i]? = some d → J.go i (HH F' M') ∧ ∀ x H3, J.yld i (HH F' M') x H3 → ∃ F3, H3 = HH F3 M' ∧ Same F' F3 ∧ Dj F3 M' ∧ Dr c F3 x d) ∧ (ds.length = i → J.stop i (HH F' M'))
def Sni (c : Cy) (wi : TI) (w : WA) : Prop := ∀ {b : Option Addr} {ρ : List Sl} {σ : St} {F M M0 : Hp}, Rel c b ρ σ F M M0 → ∀ (Qd : List D → List Sl → Prop) (Q : It → Hp → Prop), w ρ Qd →
  (∀ ds ρ' J F' M' M0', Qd ds ρ' → Aft c b F M M0 ρ' σ F' M' M0' → ItOk c J F' ds → Q J (HH F' M')) → wi σ (HH F M) Q
structure DI (X : Cx) (tg iter : Expr) (wi : TI) (w : WA) : Prop where
  pi : PI X tg iter wi
  sn : Sni (cy X) wi w
def wForL (wg : WG) (wb : WS) : List D → WS
  | [], ρ, E => E.nx ρ
  | d :: ds, ρ, E => wg d ρ fun ρ1 => wb ρ1 { nx := fun ρ2 => wForL wg wb ds ρ2 E, ct := fun ρ2 => wForL wg wb ds ρ2 E, bk := E.nx, rt := E.rt }
def wFor (wi : WA) (wg : WG) (wb : WS) : WS := fun ρ E => wi ρ fun ds ρ1 => wForL wg wb ds ρ1 E
theorem sns_for {c : Cy} {wi : TI} {g : TG} {tb : TS} {w : WA} {wg : WG} {wb : WS} {is : List Nat} (hi : Sni c wi w) (hg : Sng c g wg is) (hb : Sns c tb wb) : Sns c (tFor wi g tb) (wFor w wg wb) := fun {b ρ σ F M M0} R E Dn hw f => by
  refine hi R _ _ hw fun ds ρ1 J F1 M1 M01 q A it => ?_
  refine ⟨fun i m σ' H' => m = ds.length - i ∧ i ≤ ds.length ∧ ∃ ρ' F' M' M0', H' = HH F' M' ∧ Same F1 F' ∧ Rel c b ρ' σ' F' M' M0' ∧ MR b M01 M0' ∧ wForL wg wb (ds.drop i) ρ' E,
    ⟨ds.length, by simp, Nat.zero_le _, ρ1, F1, M1, M01, rfl, Same.refl _, A.rel, MR.refl _ _, q⟩, ?_⟩
  rintro i m σ' H' ⟨rfl, hil, ρ', F', M', M0', rfl, s, R', mr, hw'⟩
  by_cases hlt : i < ds.length
  · have ed : ds.drop i = ds[i] :: ds.drop (i + 1) := List.drop_eq_getElem_cons hlt
    rw [ed] at hw'
    have hd : ds[i]? = some ds[i] := List.getElem?_eq_getElem hlt
    refine .inr ⟨((it F' M' s R'.dj i).1 _ hd).1, fun σ2 H2 => i + 1 ≤ ds.length ∧ ∃ ρ' F' M' M0', H2 = HH F' M' ∧ Same F1 F' ∧ Rel c b ρ' σ2 F' M' M0' ∧ MR b M01 M0' ∧ wForL wg wb (ds.drop (i + 1)) ρ' E,
      fun σ2 H2 n2 => ⟨ds.length - (i + 1), by omega, rfl, n2.1, n2.2⟩, fun x H3 hy => ?_⟩
    obtain ⟨F3, rfl, s3, dj3, r3⟩ := ((it F' M' s R'.dj i).1 _ hd).2 x H3 hy
    have A3 := R'.grow s3 dj3
    refine hg A3.rel r3 _ _ hw' fun ρ4 σ4 F4 M4 M04 q4 s4 x4 R4 m4 _ => ?_
    have sAll := (s.trans s3).trans s4
    have mAll := mr.trans m4
    refine hb R4 _ { Dn with nx := _, ct := _, bk := Dn.nx } q4 ⟨fun ρ5 σ5 F5 M5 M05 e5 s5 R5 m5 => ⟨hlt, ρ5, F5, M5, M05, rfl, sAll.trans s5, R5, mAll.trans m5, e5⟩,
      fun ρ5 σ5 F5 M5 M05 e5 s5 R5 m5 => f.nx ρ5 σ5 F5 M5 M05 e5 ((A.same.trans sAll).trans s5) R5 ((A.mr.trans mAll).trans m5),
      fun ρ5 σ5 F5 M5 M05 e5 s5 R5 m5 => ⟨hlt, ρ5, F5, M5, M05, rfl, sAll.trans s5, R5, mAll.trans m5, e5⟩,
      fun d v ρ5 σ5 F5 M5 M05 e5 s5 R5 m5 r5 => f.rt d v ρ5 σ5 F5 M5 M05 e5 ((A.same.trans sAll).trans s5) R5 ((A.mr.trans mAll).trans m5) r5⟩
  · have e : i = ds.length := by omega
    subst e
    rw [List.drop_length] at hw'
    exact .inl ⟨(it F' M' s R'.dj _).2 rfl, f.nx ρ' σ' F' M' M0' hw' (A.same.trans s) R' (A.mr.trans mr)⟩
section
variable {X : Cx} {pos : Pos} {tg iter : Expr} {body : List Stmt} {wi : TI} {w : WA} {g : TG} {wg : WG} {tb : TS} {wb : WS}
theorem ds_for (hp : PassesOwn (model X.prog X.w) X.A X.env X.xe) (hc : X.calm = true) {is : List Nat} (hi : DI X tg iter wi w) (hg : DG X tg g wg is) (hb : DSs X body tb wb)
    (hs : ∀ x, foldedSetIterable iter X.env x = pure x := by intro _; rfl) : DS X (.For tg iter body [] pos) (tFor wi g tb) (wFor w wg wb) := ⟨ps_for hp hc hi.pi hg.pg hb.ps hs, sns_for hi.sn hg.sn hb.sn⟩
/-- over a frozen list -/
def wItL (w : WE) : WA := fun ρ Q => w ρ fun d ρ1 => match d with
  | .lst ds => Q ds ρ1
  | _ => False
theorem itl_ok {c : Cy} {F : Hp} {a : Addr} {vs : List V} {ds : List D} (h : F a = some (.lst vs)) (r : DrL c F vs ds) : ItOk c (Itl c.K a) F ds := fun F' M' s dj i => by
  have q : SqL c.K (HH F' M') a vs := SqL.of (dj.f (s _ _ h))
  refine ⟨fun d hd => ?_, fun e => ⟨vs, q, by rw [r.length]; omega⟩⟩
  obtain ⟨v, hv, rv⟩ := r.get hd
  refine ⟨⟨vs, v, q, hv⟩, fun x H3 hy => ?_⟩
  obtain ⟨rfl, hy⟩ := hy
  have e : x = v := Option.some.inj ((hy vs q).symm.trans hv)
  subst e
  exact ⟨F', rfl, Same.refl _, dj, rv.up s⟩
theorem di_list {e : Expr} {te : TE} {w : WE} (h : DE X e te w) : DI X tg e (iList X.K te) (wItL w) := ⟨pi_list h.pe, fun {b ρ σ F M M0} R Qd Q hw k => by
  refine h.sn R _ _ hw fun d ρ1 v F1 M1 M01 q A r => ?_
  cases d with
  | lst ds =>
    simp only [Dr] at r
    obtain ⟨a, vs, rfl, ha, rl⟩ := r
    exact ⟨a, rfl, ⟨vs, SqL.of (A.rel.dj.f ha)⟩, k ds ρ1 _ F1 M1 M01 q A (itl_ok (c := cy X) ha rl)⟩
  | _ => exact q.elim⟩
/-- over a tuple -/
def wItT (w : WE) : WA := fun ρ Q => w ρ fun d ρ1 => match d with
  | .tup ds => Q ds ρ1
  | _ => False
theorem itt_ok {c : Cy} {F : Hp} {a : Addr} {vs : List V} {ds : List D} (h : F a = some (.tup vs)) (r : DrL c F vs ds) : ItOk c (Itt c.K a) F ds := fun F' M' s dj i => by
  have q : SqT c.K (HH F' M') a vs := SqT.of (dj.f (s _ _ h))
  refine ⟨fun d hd => ?_, fun e => ⟨vs, q, by rw [r.length]; omega⟩⟩
  obtain ⟨v, hv, rv⟩ := r.get hd
  refine ⟨⟨vs, v, q, hv⟩, fun x H3 hy => ?_⟩
  obtain ⟨rfl, hy⟩ := hy
  have e : x = v := Option.some.inj ((hy vs q).symm.trans hv)
  subst e
  exact ⟨F', rfl, Same.refl _, dj, rv.up s⟩
theorem di_tup {e : Expr} {te : TE} {w : WE} (h : DE X e te w) : DI X tg e (iTup X.K te) (wItT w) := ⟨pi_tup h.pe, fun {b ρ σ F M M0} R Qd Q hw k => by
  refine h.sn R _ _ hw fun d ρ1 v F1 M1 M01 q A r => ?_
  cases d with
  | tup ds =>
    simp only [Dr] at r
    obtain ⟨a, vs, rfl, ha, rl⟩ := r
    exact ⟨a, rfl, ⟨vs, SqT.of (A.rel.dj.f ha)⟩, k ds ρ1 _ F1 M1 M01 q A (itt_ok (c := cy X) ha rl)⟩
  | _ => exact q.elim⟩
/-- over a range -/
def rangeD (lo hi : Int) : List D := (List.range (hi - lo).toNat).map fun i => D.int (lo + (i : Nat))
theorem itr_ok {c : Cy} {F : Hp} (lo : Int) (n : Nat) : ItOk c (Itr lo n) F ((List.range n).map fun i => D.int (lo + (i : Nat))) := fun F' M' s dj i => by
  refine ⟨fun d hd => ?_, fun e => ?_⟩
  · rw [List.getElem?_map] at hd
    have hi : i < n := by
      rcases Nat.lt_or_ge i n with z | z
      · exact z
      · rw [List.getElem?_eq_none (by simpa using z)] at hd; cases hd
    rw [List.getElem?_range hi] at hd
    have e : D.int (lo + (i : Nat)) = d := Option.some.inj hd
    subst e
    refine ⟨hi, fun x H3 hy => ?_⟩
    obtain ⟨rfl, rfl⟩ := hy
    exact ⟨F', rfl, Same.refl _, dj, by simp only [Dr]⟩
  · simp at e
    show n ≤ i
    omega
def wRg1 (wt : WA) : WA := fun ρ Q => wt ρ fun ds ρ1 => match ds with
  | [.int j] => (-(2 ^ 62) ≤ j ∧ j < 2 ^ 62) ∧ Q (rangeD 0 j) ρ1
  | _ => False
def wRg2 (wt : WA) : WA := fun ρ Q => wt ρ fun ds ρ1 => match ds with
  | [.int i, .int j] => (-(2 ^ 62) ≤ i ∧ i < 2 ^ 62 ∧ -(2 ^ 62) ≤ j ∧ j < 2 ^ 62) ∧ Q (rangeD i j) ρ1
  | _ => False
theorem di_range1 {a : Expr} {ta : TA} {wt : WA} {p pos : Pos} (hg : Gl X "range") (hm : X.mg "range" = none) (ha : DA X [a] ta wt) (hs : starEach [a] X.env = [(false, eval a X.env)] := by rfl) : DI X tg (.Call (.Name "range" p) [a] [] pos) (iRng1 ta) (wRg1 wt) :=
  ⟨pi_range1 hg hm ha.pe hs, fun {b ρ σ F M M0} R Qd Q hw k => by
    refine ha.sn R _ _ hw fun ds ρ1 vs F1 M1 M01 q A r => ?_
    match ds, q, r with
    | [.int j], ⟨⟨q1, q2⟩, q⟩, r =>
      obtain ⟨v, vr, rfl, r1, r2⟩ := r.cons_iff
      simp only [Dr] at r1
      have e2 := r2.nil_iff
      subst r1 e2
      refine ⟨j, rfl, q1, q2, k _ ρ1 _ F1 M1 M01 q A ?_⟩
      have h := itr_ok (c := cy X) (F := F1) 0 j.toNat
      unfold rangeD
      rw [Int.sub_zero]
      exact h⟩
theorem di_range2 {a a' : Expr} {ta : TA} {wt : WA} {p pos : Pos} (hg : Gl X "range") (hm : X.mg "range" = none) (ha : DA X [a, a'] ta wt) (hs : starEach [a, a'] X.env = [(false, eval a X.env), (false, eval a' X.env)] := by rfl) (hs2 : starEach [a'] X.env = [(false, eval a' X.env)] := by rfl) :
    DI X tg (.Call (.Name "range" p) [a, a'] [] pos) (iRng2 ta) (wRg2 wt) :=
  ⟨pi_range2 hg hm ha.pe hs hs2, fun {b ρ σ F M M0} R Qd Q hw k => by
    refine ha.sn R _ _ hw fun ds ρ1 vs F1 M1 M01 q A r => ?_
    match ds, q, r with
    | [.int i, .int j], ⟨q0, q⟩, r =>
      obtain ⟨v, vr, rfl, r1, r2⟩ := r.cons_iff
      obtain ⟨v', vr', rfl, r1', r2'⟩ := r2.cons_iff
      simp only [Dr] at r1 r1'
      have e2 := r2'.nil_iff
      subst r1 r1' e2
      exact ⟨i, j, rfl, q0, k _ ρ1 _ F1 M1 M01 q A (itr_ok (c := cy X) (F := F1) i (j - i).toNat)⟩⟩
/-- while: the invariant over the slots' data and a measure -/
def wWhile (wc : WT) (wb : WS) : WS := fun ρ E => ∃ W : Nat → List Sl → Prop, (∃ m, W m ρ) ∧ ∀ m ρ, W m ρ → wc ρ fun k ρ1 => match k with
  | true => wb ρ1 { E with nx := fun ρ2 => ∃ m', m' < m ∧ W m' ρ2, ct := fun ρ2 => ∃ m', m' < m ∧ W m' ρ2, bk := E.nx }
  | false => E.nx ρ1
theorem ds_while {c : Expr} {tc : TT} {wc : WT} (hp : PassesOwn (model X.prog X.w) X.A X.env X.xe) (hc : DT X c tc wc) (hb : DSs X body tb wb) : DS X (.While c body [] pos) (tWhile tc tb) (wWhile wc wb) := ⟨ps_while hp hc.pe hb.ps, fun {b ρ σ F M M0} R E Dn hw f => by
  obtain ⟨W, ⟨m0, w0⟩, turn⟩ := hw
  refine ⟨fun m σ' H' => ∃ ρ' F' M' M0', H' = HH F' M' ∧ Same F F' ∧ Rel (cy X) b ρ' σ' F' M' M0' ∧ MR b M0 M0' ∧ W m ρ', ⟨m0, ρ, F, M, M0, rfl, Same.refl _, R, MR.refl _ _, w0⟩, ?_⟩
  rintro m σ' H' ⟨ρ', F', M', M0', rfl, s, R', mr, wm⟩
  refine hc.sn R' _ _ (turn m ρ' wm) fun k ρ1 F1 M1 M01 q A => ?_
  cases k with
  | true =>
    rw [if_pos rfl]
    refine ⟨fun σ2 H2 => ∃ m', m' < m ∧ ∃ ρ' F' M' M0', H2 = HH F' M' ∧ Same F F' ∧ Rel (cy X) b ρ' σ2 F' M' M0' ∧ MR b M0 M0' ∧ W m' ρ', fun σ2 H2 ⟨m', l, h⟩ => ⟨m', l, h⟩, ?_⟩
    have sA := s.trans A.same
    have mA := mr.trans A.mr
    refine hb.sn A.rel _ { Dn with nx := _, ct := _, bk := Dn.nx } q ⟨fun ρ5 σ5 F5 M5 M05 ⟨m', l, e5⟩ s5 R5 m5 => ⟨m', l, ρ5, F5, M5, M05, rfl, sA.trans s5, R5, mA.trans m5, e5⟩,
      fun ρ5 σ5 F5 M5 M05 e5 s5 R5 m5 => f.nx ρ5 σ5 F5 M5 M05 e5 (sA.trans s5) R5 (mA.trans m5),
      fun ρ5 σ5 F5 M5 M05 ⟨m', l, e5⟩ s5 R5 m5 => ⟨m', l, ρ5, F5, M5, M05, rfl, sA.trans s5, R5, mA.trans m5, e5⟩,
      fun d v ρ5 σ5 F5 M5 M05 e5 s5 R5 m5 r5 => f.rt d v ρ5 σ5 F5 M5 M05 e5 (sA.trans s5) R5 (mA.trans m5) r5⟩
  | false =>
    rw [if_neg Bool.false_ne_true]
    exact f.nx ρ1 σ' F1 M1 M01 q (s.trans A.same) A.rel (mr.trans A.mr)⟩
end
end DL

/-! Comprehensions, defs, calls, instances. -/
namespace DL
open PySem PySem.Spec PyProof.Rows L2

/-! ### blocks of comprehensions -/
def wipeD (ρ : List Sl) : List Nat → List Sl
  | [] => ρ
  | v :: vs => (wipeD ρ vs).set v .no
def noOwnB (ρ : List Sl) (vs : List Nat) : Bool := vs.all fun i => match ρ[i]? with
  | some (.ol _) => false
  | some (.ok _ _) => false
  | some (.ot _ _) => false
  | some (.oi _ _ _) => false
  | some (.od _ _) => false
  | _ => true
theorem noOwn_of {ρ : List Sl} {vs : List Nat} (h : noOwnB ρ vs = true) : ∀ i ∈ vs, ∀ sl, ρ[i]? = some sl → ¬ isOwn sl := fun i hi sl e ho => by
  have q := List.all_eq_true.mp h i hi
  rw [e] at q
  cases sl <;> first | exact ho.elim | cases q
section
variable {c : Cy} {b : Option Addr} {F M M0 : Hp}
theorem wipeD_get {ρ : List Sl} {i : Nat} {sl : Sl} : ∀ {vs : List Nat}, (wipeD ρ vs)[i]? = some sl → sl = .no ∨ ρ[i]? = some sl
  | [], h => .inr h
  | v :: vs, h => by
    unfold wipeD at h
    by_cases e : v = i
    · subst e
      by_cases hl : v < (wipeD ρ vs).length
      · rw [List.getElem?_set_self hl] at h; exact .inl (Option.some.inj h).symm
      · rw [List.getElem?_eq_none (by simpa using hl)] at h; cases h
    · rw [List.getElem?_set_ne e] at h; exact wipeD_get h
theorem RelE.wipe {ρ : List Sl} {σ : L2.St} {M : Hp} (h : RelE c b F M0 ρ σ M) : ∀ {vs : List Nat}, (∀ i ∈ vs, ∀ sl, ρ[i]? = some sl → ¬ isOwn sl) → RelE c b F M0 (wipeD ρ vs) (wipe σ vs) M
  | [], _ => h
  | v :: vs, n => by
    have ih := RelE.wipe h (vs := vs) fun i hi => n i (List.mem_cons_of_mem _ hi)
    unfold wipeD L2.wipe
    cases e : (wipeD ρ vs)[v]? with
    | none =>
      have l1 := List.getElem?_eq_none_iff.mp e
      rw [List.set_eq_of_length_le l1, List.set_eq_of_length_le (by rw [ih.length]; exact l1)]
      exact ih
    | some sl =>
      refine ih.forget e ?_
      rcases wipeD_get e with z | z
      · rw [z]; exact fun q => q
      · exact n v List.mem_cons_self sl z
theorem RelE.unwipe : ∀ {vs : List Nat} {ρ : List Sl} {σ : L2.St} {M : Hp}, RelE c b F M0 ρ (L2.wipe σ vs) M → (∀ i ∈ vs, ∀ sl, ρ[i]? = some sl → ¬ isOwn sl) → ∃ ρ', ρ' = wipeD ρ vs.reverse ∧ RelE c b F M0 ρ' σ M
  | [], ρ, σ, M, h, _ => ⟨ρ, rfl, h⟩
  | v :: vs, ρ, σ, M, h, n => by
    unfold L2.wipe at h
    have h2 : RelE c b F M0 (ρ.set v .no) (L2.wipe σ vs) M := by
      cases e : ρ[v]? with
      | none =>
        have l1 := List.getElem?_eq_none_iff.mp e
        have l2 := h.length
        rw [List.length_set] at l2
        rw [List.set_eq_of_length_le l1]
        rw [List.set_eq_of_length_le (by omega)] at h
        exact h
      | some sl =>
        have t := h.forget (x := (L2.wipe σ vs)[v]?.getD none) e (n v List.mem_cons_self sl e)
        rw [List.set_set] at t
        have es : (L2.wipe σ vs).set v ((L2.wipe σ vs)[v]?.getD none) = L2.wipe σ vs := by
          cases q : (L2.wipe σ vs)[v]? with
          | none => exact List.set_eq_of_length_le (List.getElem?_eq_none_iff.mp q)
          | some x =>
            obtain ⟨hi, ei⟩ := List.getElem?_eq_some_iff.mp q
            show (L2.wipe σ vs).set v x = _
            rw [← ei]; exact List.set_getElem_self hi
        rw [es] at t
        exact t
    obtain ⟨ρ', e, t⟩ := RelE.unwipe h2 fun i hi sl q => by
      by_cases z : v = i
      · subst z
        by_cases hl : v < ρ.length
        · rw [List.getElem?_set_self hl] at q
          rw [← Option.some.inj q]; exact fun w => w
        · rw [List.getElem?_eq_none (by simpa using hl)] at q; cases q
      · rw [List.getElem?_set_ne z] at q
        exact n i (List.mem_cons_of_mem _ hi) sl q
    refine ⟨ρ', ?_, t⟩
    rw [e, List.reverse_cons]
    have ap : ∀ (us : List Nat) (τ : List Sl), wipeD (τ.set v .no) us = wipeD τ (us ++ [v]) := fun us τ => by
      induction us with
      | nil => rfl
      | cons u us ih => show (wipeD (τ.set v .no) us).set u .no = (wipeD τ (us ++ [v])).set u .no; rw [ih]
    exact ap _ _
def del (H : Hp) (x : Addr) : Hp := fun a => if a = x then none else H a
theorem del_same {H : Hp} {x : Addr} : del H x x = none := if_pos rfl
theorem del_ne {H : Hp} {x a : Addr} (h : a ≠ x) : del H x a = H a := if_neg h
theorem upd_del {H : Hp} {x : Addr} {o : HO} : upd (del H x) x o = upd H x o := by
  funext a
  by_cases e : a = x
  · subst e; rw [upd_same, upd_same]
  · rw [upd_ne e, upd_ne e, del_ne e]
theorem upd_self {H : Hp} {x : Addr} {o : HO} (h : H x = some o) : upd H x o = H := by
  funext a
  by_cases e : a = x
  · subst e; rw [upd_same, h]
  · rw [upd_ne e]
/-- a thing of the frame is taken away -/
theorem RelE.unframe {x : Addr} {u : HO} (hx : M0 x = some u) : ∀ {ρ : List Sl} {σ : L2.St} {M : Hp}, RelE c b F M0 ρ σ M → RelE c b F (del M0 x) ρ σ (del M x)
  | [], σ, M, h => ⟨h.1, by rw [h.2]⟩
  | s1 :: ρ, σ, M, h => by
    obtain ⟨v, σr, e, h⟩ := h
    refine ⟨v, σr, e, ?_⟩
    have own : ∀ sl : Sl, (∃ a o M', v = some (.ref a) ∧ ObR c F sl o ∧ F a = none ∧ M' a = none ∧ M = upd M' a o ∧ RelE c b F M0 ρ σr M') →
        ∃ a o M', v = some (.ref a) ∧ ObR c F sl o ∧ F a = none ∧ M' a = none ∧ del M x = upd M' a o ∧ RelE c b F (del M0 x) ρ σr M' := fun sl h => by
      obtain ⟨a, o, M', e1, r, f, m, e2, t⟩ := h
      have ne : a ≠ x := fun z => by
        subst z
        have := t.sub _ _ hx
        rw [m] at this; cases this
      refine ⟨a, o, del M' x, e1, r, f, by rw [del_ne ne]; exact m, ?_, RelE.unframe hx t⟩
      rw [e2]
      funext y
      by_cases ey : y = x
      · subst ey; rw [del_same, upd_ne ne.symm, del_same]
      · rw [del_ne ey]
        by_cases ea : y = a
        · subst ea; rw [upd_same, upd_same]
        · rw [upd_ne ea, upd_ne ea, del_ne ey]
    cases s1 with
    | no => exact RelE.unframe hx h
    | sh d => exact ⟨h.1, RelE.unframe hx h.2⟩
    | bx => exact ⟨h.1, RelE.unframe hx h.2⟩
    | ol ds => exact own (.ol ds) h
    | ok ks ds => exact own (.ok ks ds) h
    | ot ks ds => exact own (.ot ks ds) h
    | oi n fs ds => exact own (.oi n fs ds) h
    | od y t0 =>
      obtain ⟨Mo, M', e1, r, d, e2, t⟩ := h
      have mx : Mo x = none := d.mn (t.sub _ _ hx)
      refine ⟨Mo, del M' x, e1, r, fun a o q => ?_, ?_, RelE.unframe hx t⟩
      · by_cases z : a = x
        · rw [z]; exact del_same
        · rw [del_ne z]; exact d a o q
      · rw [e2]
        funext a
        by_cases z : a = x
        · rw [z, del_same, hh_n mx, del_same]
        · rw [del_ne z]
          cases q : Mo a with
          | some o => rw [hh_m q, hh_m q]
          | none => rw [hh_n q, hh_n q, del_ne z]
/-- a new thing p lies in the frame for a while -/
theorem Rel.lay {ρ : List Sl} {σ : L2.St} {p : Addr} {o : HO} (R : Rel c b ρ σ F M M0) (f : F p = none) (m : M p = none) : Rel c b ρ σ F (upd M p o) (upd M0 p o) := by
  have m0 : M0 p = none := by
    cases q : M0 p with
    | none => rfl
    | some u => rw [R.env.sub _ _ q] at m; cases m
  refine ⟨R.dj.updM f, R.env.frame (.inl m), fun a q => ?_⟩
  obtain ⟨da, ns, n, h1, h2, h3⟩ := R.box a q
  exact ⟨da, ns, n, by rw [upd_ne (ne_of_none h1 m0)]; exact h1, h2, h3⟩
theorem Rel.unlay {ρ : List Sl} {σ : L2.St} {p : Addr} {o : HO} (R : Rel c b ρ σ F M M0) (h : M0 p = some o) (nb : b ≠ some p) : Rel c b ρ σ F (del M p) (del M0 p) := by
  refine ⟨fun a u q => R.dj a u ?_, R.env.unframe h, fun a q => ?_⟩
  · by_cases e : a = p
    · subst e; rw [del_same] at q; cases q
    · rw [del_ne e] at q; exact q
  · obtain ⟨da, ns, n, h1, h2, h3⟩ := R.box a q
    have e : a ≠ p := fun e => nb (by rw [← e]; exact q)
    exact ⟨da, ns, n, by rw [del_ne e]; exact h1, h2, h3⟩
end

theorem wipe_idem (τ : L2.St) : ∀ us : List Nat, L2.wipe (L2.wipe τ us) us = L2.wipe τ us
  | [] => rfl
  | u :: us => by
    show (L2.wipe ((L2.wipe τ us).set u none) us).set u none = (L2.wipe τ us).set u none
    by_cases hu : u ∈ us
    · rw [wipe_in hu, wipe_idem τ us]
    · rw [wipe_out hu, wipe_idem τ us, List.set_set]
def wLcL (vs : List Nat) (wg : WG) (wt : WT) (we : WE) : List D → List Sl → List D → (List D → List Sl → Prop) → Prop
  | [], ρ, acc, Q => Q acc ρ
  | d :: ds, ρ, acc, Q => wg d ρ fun ρ1 => wt ρ1 fun k ρ2 => match k with
    | true => we ρ2 fun y ρ3 => noOwnB ρ3 vs = true ∧ wLcL vs wg wt we ds (wipeD ρ3 vs) (acc ++ [y]) Q
    | false => noOwnB ρ2 vs = true ∧ wLcL vs wg wt we ds (wipeD ρ2 vs) acc Q
def wLc (vs : List Nat) (wi : WA) (wg : WG) (wt : WT) (we : WE) : List Sl → (Sl → List Sl → Prop) → Prop := fun ρ Q => wi ρ fun ds ρ1 => ds.length ≤ sizeLine ∧ noOwnB ρ1 vs = true ∧
  wLcL vs wg wt we ds (wipeD ρ1 vs) [] fun acc ρ2 => noOwnB ρ2 vs = true ∧ Q (.ol acc) (wipeD ρ2 vs.reverse)
def wYes : WT := fun ρ Q => Q true ρ
theorem snt_yes {c : Cy} : Snt c tYes wYes := fun {b ρ σ F M M0} R Qd Q hw k => k true ρ F M M0 hw R.aft
theorem snf_lc {c : Cy} {vs : List Nat} {wi : TI} {g : TG} {tt : TT} {te : TE} {w : WA} {wg : WG} {wt : WT} {we : WE} {is : List Nat} (his : ∀ i ∈ is, i ∈ vs) (hi : Sni c wi w) (hg : Sng c g wg is) (ht : Snt c tt wt) (he : Snd c te we) : Snf c (tLc wi g tt te vs) (wLc vs w wg wt we) := fun {b ρ σ F M M0} R Qd Q hw k => by
  refine hi R _ _ hw fun ds ρ1 J F1 M1 M01 q A it => ?_
  obtain ⟨hlen, hno, q⟩ := q
  intro p hp
  obtain ⟨hpf, hpm⟩ := hh_none hp
  have nbp : b ≠ some p := fun e => by
    obtain ⟨_, _, _, h1, _⟩ := A.rel.box p e
    rw [A.rel.env.sub _ _ h1] at hpm; cases hpm
  refine ⟨fun i m H' => m = ds.length - i ∧ i ≤ ds.length ∧ ∃ (ρ' : List Sl) (F' M' M0' : Hp) (acc : List D) (us : List V), H' = HH F' (upd M' p (.lst us)) ∧ F' p = none ∧ M' p = none ∧ Same F1 F' ∧ Ext b (HH F1 M1) (HH F' M') ∧
      Rel c b ρ' (L2.wipe σ vs) F' M' M0' ∧ MR b M01 M0' ∧ DrL c F' us acc ∧ acc.length ≤ i ∧ wLcL vs wg wt we (ds.drop i) ρ' acc fun acc ρ2 => noOwnB ρ2 vs = true ∧ Qd (.ol acc) (wipeD ρ2 vs.reverse), ⟨ds.length, by simp, Nat.zero_le _, wipeD ρ1 vs, F1, M1, M01, [], [], hh_updM, hpf, hpm, Same.refl _, Ext.refl _ _,
      ⟨A.rel.dj, A.rel.env.wipe (noOwn_of hno), A.rel.box⟩, MR.refl _ _, .nil, Nat.zero_le _, q⟩, ?_⟩
  rintro i m H' ⟨rfl, hil, ρ', F', M', M0', acc, us, rfl, fp, mp, s, x, R', mr, dr, hal, hw'⟩
  by_cases hlt : i < ds.length
  · have ed : ds.drop i = ds[i] :: ds.drop (i + 1) := List.drop_eq_getElem_cons hlt
    rw [ed] at hw'
    have hd : ds[i]? = some ds[i] := List.getElem?_eq_getElem hlt
    have L := R'.lay (o := .lst us) fp mp
    refine .inr ⟨((it F' _ s L.dj i).1 _ hd).1, fun H2 => i + 1 ≤ ds.length ∧ ∃ (ρ' : List Sl) (F' M' M0' : Hp) (acc : List D) (us : List V), H2 = HH F' (upd M' p (.lst us)) ∧ F' p = none ∧ M' p = none ∧ Same F1 F' ∧ Ext b (HH F1 M1) (HH F' M') ∧
      Rel c b ρ' (L2.wipe σ vs) F' M' M0' ∧ MR b M01 M0' ∧ DrL c F' us acc ∧ acc.length ≤ i + 1 ∧ wLcL vs wg wt we (ds.drop (i + 1)) ρ' acc fun acc ρ2 => noOwnB ρ2 vs = true ∧ Qd (.ol acc) (wipeD ρ2 vs.reverse), fun H2 n2 => ⟨ds.length - (i + 1), by omega, rfl, n2.1, n2.2⟩, fun y H3 hy => ?_⟩
    obtain ⟨F3, rfl, s3, dj3, r3⟩ := ((it F' _ s L.dj i).1 _ hd).2 y H3 hy
    have A3 := L.grow s3 dj3
    -- what is to be shown of any later state
    have back : ∀ {F4 M4 M04 : Hp} {ρ4 : List Sl}, Same F' F4 → Ext b (HH F' (upd M' p (.lst us))) (HH F4 M4) → Rel c b ρ4 (L2.wipe σ vs) F4 M4 M04 → MR b (upd M0' p (.lst us)) M04 →
        M4 p = some (.lst us) ∧ F4 p = none ∧ Same F1 F4 ∧ Ext b (HH F1 M1) (HH F4 (del M4 p)) ∧ Rel c b ρ4 (L2.wipe σ vs) F4 (del M4 p) (del M04 p) ∧ MR b M01 (del M04 p) := fun {F4 M4 M04 ρ4} s4 x4 R4 m4 => by
      have e0 : M04 p = some (.lst us) := by rw [m4 p nbp, upd_same]
      have e1 := R4.env.sub _ _ e0
      have e2 := R4.dj _ _ e1
      refine ⟨e1, e2, s.trans s4, fun a o na qa => ?_, R4.unlay e0 nbp, fun a na => ?_⟩
      · have nap : a ≠ p := fun z => by rw [z, hp] at qa; cases qa
        have q1 : HH F' (upd M' p (.lst us)) a = some o := by rw [← hh_updM, upd_ne nap]; exact x a o na qa
        have q2 := x4 a o na q1
        rcases hh_some q2 with z | ⟨z1, z2⟩
        · exact hh_m (by rw [del_ne nap]; exact z)
        · rw [hh_n (by rw [del_ne nap]; exact z1)]; exact z2
      · by_cases e : a = p
        · subst e
          rw [del_same]
          cases z : M01 a with
          | none => rfl
          | some u => rw [A.rel.env.sub _ _ z] at hpm; cases hpm
        · rw [del_ne e, m4 a na, upd_ne e, mr a na]
    refine hg A3.rel r3 _ _ hw' fun ρ4 σ4 F4 M4 M04 q4 s4 x4 R4 m4 wz => ⟨(wz vs his).trans (wipe_idem σ vs), ?_⟩
    refine ht R4 _ _ q4 fun kk ρ5 F5 M5 M05 q5 A5 => ?_
    have sA := (s3.trans s4).trans A5.same
    have xA := (A3.ext.trans x4).trans A5.ext
    have mA := m4.trans A5.mr
    -- the slots of the block are forgotten
    have wr : ∀ {F6 M6 M06 : Hp} {ρ6 : List Sl}, Rel c b ρ6 σ4 F6 M6 M06 → noOwnB ρ6 vs = true → Rel c b (wipeD ρ6 vs) (L2.wipe σ vs) F6 M6 M06 := fun {F6 M6 M06 ρ6} R6 n6 => by
      have t := R6.env.wipe (noOwn_of n6)
      have e : L2.wipe σ4 vs = L2.wipe σ vs := by
        exact (wz vs his).trans (wipe_idem σ vs)
      rw [e] at t
      exact ⟨R6.dj, t, R6.box⟩
    cases kk with
    | true =>
      rw [if_pos rfl]
      refine he A5.rel _ _ q5 fun d ρ6 z F6 M6 M06 q6 A6 r6 => ?_
      obtain ⟨e1, e2, b3, b4, b5, b6⟩ := back (sA.trans A6.same) (xA.trans A6.ext) (wr A6.rel q6.1) (mA.trans A6.mr)
      refine ⟨us, hh_m e1, ?_, hlt, wipeD ρ6 vs, F6, del M6 p, del M06 p, acc ++ [d], us ++ [z], ?_, e2, del_same, b3, b4, b5, b6, (dr.up (sA.trans A6.same)).append (.cons r6 .nil), ?_, q6.2⟩
      · rw [dr.length]; omega
      · rw [hh_updM, upd_del]
      · rw [List.length_append, List.length_singleton]; omega
    | false =>
      rw [if_neg Bool.false_ne_true]
      obtain ⟨e1, e2, b3, b4, b5, b6⟩ := back sA xA (wr A5.rel q5.1) mA
      refine ⟨hlt, wipeD ρ5 vs, F5, del M5 p, del M05 p, acc, us, ?_, e2, del_same, b3, b4, b5, b6, dr.up sA, by omega, q5.2⟩
      rw [upd_del, upd_self e1]
  · have e : i = ds.length := by omega
    subst e
    rw [List.drop_length] at hw'
    refine .inl ⟨(it F' _ s (R'.dj.updM fp) _).2 rfl, ?_⟩
    obtain ⟨hn2, hq⟩ := hw'
    obtain ⟨ρ2, e2, t2⟩ := R'.env.unwipe (noOwn_of hn2)
    subst e2
    exact k _ _ p _ F' M' M0' hq ⟨A.same.trans s, A.ext.trans x, ⟨R'.dj, t2, R'.box⟩, A.mr.trans mr⟩ trivial ⟨us, rfl, dr⟩ fp mp
structure DTs (X : Cx) (ifs : List Expr) (t : TT) (w : WT) : Prop where
  pe : PTs X ifs t
  sn : Snt (cy X) t w
section
variable {X : Cx}
theorem dts_nil : DTs X [] tYes wYes := ⟨pts_nil, snt_yes⟩
theorem dts_one {e : Expr} {t : TT} {w : WT} (h : DT X e t w) : DTs X [e] t w := ⟨pts_one h.pe, h.sn⟩
theorem df_lc {elt tg iter : Expr} {ifs : List Expr} {scope : Scope} {own : List (Str × Nat)} {pos : Pos} {wi : TI} {g : TG} {tt : TT} {te : TE} {w : WA} {wg : WG} {wt : WT} {we : WE} {is : List Nat} (hc : X.calm = true) (hN : X.N.Nodup) (hi : DI X tg iter wi w) (ok : BlkOk X.N X.env.scope scope own)
    (hg0 : DG (X.blk {} (fun _ => none) scope (compEnvC scope [] 0 X.env) []) tg g wg is) (ht0 : DTs (X.blk {} (fun _ => none) scope (compEnvC scope [] 0 X.env) []) ifs tt wt) (he0 : DE (X.blk {} (fun _ => none) scope (compEnvC scope [] 0 X.env) []) elt te we)
    (hg : ∀ (s : Shared) (H : Hp) (C : Addr) (cl : List (Str × Addr)) (fp : List Addr), DG (X.blk s H scope (compEnvC scope cl C X.env) fp) tg g wg is) (ht : ∀ (s : Shared) (H : Hp) (C : Addr) (cl : List (Str × Addr)) (fp : List Addr), DTs (X.blk s H scope (compEnvC scope cl C X.env) fp) ifs tt wt)
    (he : ∀ (s : Shared) (H : Hp) (C : Addr) (cl : List (Str × Addr)) (fp : List Addr), DE (X.blk s H scope (compEnvC scope cl C X.env) fp) elt te we) (his : ∀ i ∈ is, i ∈ own.map (·.2) := by decide) (hs : ∀ x, foldedSetIterable iter X.env x = pure x := by intro _; rfl) :
    DF X (.ListComp elt [⟨tg, iter, ifs, 0⟩] scope pos) (tLc wi g tt te (own.map (·.2))) (wLc (own.map (·.2)) w wg wt we) :=
  ⟨pe_lc hc hN hi.pi ok (fun s H C cl fp => (hg s H C cl fp).pg) (fun s H C cl fp => (ht s H C cl fp).pe) (fun s H C cl fp => (he s H C cl fp).pe) hs,
    snf_lc (c := cy X) his hi.sn hg0.sn ht0.sn he0.sn⟩
/-- name = [..], a local: the new list stays own, or is shared -/
theorem ds_setLcO {i : Nat} {y : Str} {py : Pos} {elt tg iter : Expr} {ifs : List Expr} {scope : Scope} {own : List (Str × Nat)} {pos spos : Pos} {wi : TI} {g : TG} {tt : TT} {te : TE} {w : WA} {wg : WG} {wt : WT} {we : WE} {is : List Nat} (hc : X.calm = true) (hN : X.N.Nodup) (hy : X.N[i]? = some y) (hyl : X.env.scope.names.lookup y = some .local)
    (hsw : swapsWith (.ListComp elt [⟨tg, iter, ifs, 0⟩] scope pos) (some (.Name y py)) spos.line X.env = pure true) (hi : DI X tg iter wi w) (ok : BlkOk X.N X.env.scope scope own)
    (hg0 : DG (X.blk {} (fun _ => none) scope (compEnvC scope [] 0 X.env) []) tg g wg is) (ht0 : DTs (X.blk {} (fun _ => none) scope (compEnvC scope [] 0 X.env) []) ifs tt wt) (he0 : DE (X.blk {} (fun _ => none) scope (compEnvC scope [] 0 X.env) []) elt te we)
    (hg : ∀ (s : Shared) (H : Hp) (C : Addr) (cl : List (Str × Addr)) (fp : List Addr), DG (X.blk s H scope (compEnvC scope cl C X.env) fp) tg g wg is) (ht : ∀ (s : Shared) (H : Hp) (C : Addr) (cl : List (Str × Addr)) (fp : List Addr), DTs (X.blk s H scope (compEnvC scope cl C X.env) fp) ifs tt wt)
    (he : ∀ (s : Shared) (H : Hp) (C : Addr) (cl : List (Str × Addr)) (fp : List Addr), DE (X.blk s H scope (compEnvC scope cl C X.env) fp) elt te we) (his : ∀ i ∈ is, i ∈ own.map (·.2) := by decide) (hs : ∀ x, foldedSetIterable iter X.env x = pure x := by intro _; rfl) :
    DS X (.Assign [.Name y py] (.ListComp elt [⟨tg, iter, ifs, 0⟩] scope pos) spos) (tAsg (tLc wi g tt te (own.map (·.2))) (gName i)) (wAsgO (wLc (own.map (·.2)) w wg wt we) i) :=
  ⟨ps_setLc hc hN hy hyl hsw hi.pi ok (fun s H C cl fp => (hg s H C cl fp).pg) (fun s H C cl fp => (ht s H C cl fp).pe) (fun s H C cl fp => (he s H C cl fp).pe) hs,
    sns_asgO (snf_lc (c := cy X) his hi.sn hg0.sn ht0.sn he0.sn)⟩
theorem ds_setLc {i : Nat} {y : Str} {py : Pos} {elt tg iter : Expr} {ifs : List Expr} {scope : Scope} {own : List (Str × Nat)} {pos spos : Pos} {wi : TI} {g : TG} {tt : TT} {te : TE} {w : WA} {wg : WG} {wt : WT} {we : WE} {is : List Nat} (hc : X.calm = true) (hN : X.N.Nodup) (hy : X.N[i]? = some y) (hyl : X.env.scope.names.lookup y = some .local)
    (hsw : swapsWith (.ListComp elt [⟨tg, iter, ifs, 0⟩] scope pos) (some (.Name y py)) spos.line X.env = pure true) (hi : DI X tg iter wi w) (ok : BlkOk X.N X.env.scope scope own)
    (hg0 : DG (X.blk {} (fun _ => none) scope (compEnvC scope [] 0 X.env) []) tg g wg is) (ht0 : DTs (X.blk {} (fun _ => none) scope (compEnvC scope [] 0 X.env) []) ifs tt wt) (he0 : DE (X.blk {} (fun _ => none) scope (compEnvC scope [] 0 X.env) []) elt te we)
    (hg : ∀ (s : Shared) (H : Hp) (C : Addr) (cl : List (Str × Addr)) (fp : List Addr), DG (X.blk s H scope (compEnvC scope cl C X.env) fp) tg g wg is) (ht : ∀ (s : Shared) (H : Hp) (C : Addr) (cl : List (Str × Addr)) (fp : List Addr), DTs (X.blk s H scope (compEnvC scope cl C X.env) fp) ifs tt wt)
    (he : ∀ (s : Shared) (H : Hp) (C : Addr) (cl : List (Str × Addr)) (fp : List Addr), DE (X.blk s H scope (compEnvC scope cl C X.env) fp) elt te we) (his : ∀ i ∈ is, i ∈ own.map (·.2) := by decide) (hs : ∀ x, foldedSetIterable iter X.env x = pure x := by intro _; rfl) :
    DS X (.Assign [.Name y py] (.ListComp elt [⟨tg, iter, ifs, 0⟩] scope pos) spos) (tAsg (tLc wi g tt te (own.map (·.2))) (gName i)) (wAsg (wFz (wLc (own.map (·.2)) w wg wt we)) (wSt i)) :=
  ⟨ps_setLc hc hN hy hyl hsw hi.pi ok (fun s H C cl fp => (hg s H C cl fp).pg) (fun s H C cl fp => (ht s H C cl fp).pe) (fun s H C cl fp => (he s H C cl fp).pe) hs,
    sns_asg (df_lc (pos := pos) hc hN hi ok hg0 ht0 he0 hg ht he his hs).de.sn (sng_name i)⟩
end

/-! ### defs -/
def ArgsD (c : Cy) (b : Option Addr) (F : Hp) : List Sl → List V → Prop
  | [], vs => vs = []
  | s :: r, vs => ∃ v vr, vs = v :: vr ∧ (match s with
    | .sh d => Dr c F v d
    | .bx => ∃ a, b = some a ∧ v = .ref a
    | _ => False) ∧ ArgsD c b F r vr
/-- a def's promise, of data alone -/
abbrev WFn := List Sl → (D → Prop) → Prop
def spF (c : Cy) (wf : WFn) : Sp := fun vs H Q _ => ∃ (b : Option Addr) (F M : Hp) (as : List Sl) (Qd : D → Prop), H = HH F M ∧ Dj F M ∧ (∀ a, b = some a → Box F M a) ∧ ArgsD c b F as vs ∧ wf as Qd ∧
  ∀ d v F' M', Qd d → Same F F' → Dj F' M' → (∀ a, b = some a → Box F' M' a) → MR b M M' → Dr c F' v d → Q v (HH F' M')
def startD (N : List Str) (as : List Sl) : List Sl := as ++ List.replicate (N.length - as.length) .no
section
variable {c : Cy} {b : Option Addr} {F M M0 : Hp}
theorem ArgsD.length : ∀ {as : List Sl} {vs : List V}, ArgsD c b F as vs → vs.length = as.length
  | [], vs, h => by rw [show vs = [] from h]; rfl
  | s :: r, vs, h => by
    obtain ⟨v, vr, rfl, _, t⟩ := h
    rw [List.length_cons, List.length_cons, ArgsD.length t]
theorem rel_nos : ∀ (n : Nat), RelE c b F M (List.replicate n .no) (List.replicate n none) M
  | 0 => ⟨rfl, rfl⟩
  | n + 1 => ⟨none, List.replicate n none, rfl, rel_nos n⟩
theorem ArgsD.rel {n : Nat} : ∀ {as : List Sl} {vs : List V}, ArgsD c b F as vs → RelE c b F M (as ++ List.replicate n .no) (vs.map some ++ List.replicate n none) M
  | [], vs, h => by rw [show vs = [] from h]; exact rel_nos n
  | s :: r, vs, h => by
    obtain ⟨v, vr, rfl, q, t⟩ := h
    refine ⟨some v, vr.map some ++ List.replicate n none, rfl, ?_⟩
    cases s with
    | sh d => exact ⟨⟨v, rfl, q⟩, ArgsD.rel t⟩
    | bx => obtain ⟨a, e1, e2⟩ := q; exact ⟨⟨a, e1, by rw [e2]⟩, ArgsD.rel t⟩
    | _ => exact q.elim
/-- behind a call -/
theorem Rel.after {ρ : List Sl} {σ : L2.St} {F' M' : Hp} (R : Rel c b ρ σ F M M0) (s : Same F F') (dj : Dj F' M') (bx : ∀ a, b = some a → Box F' M' a) (mr : MR b M M') : ∃ M0', Aft c b F M M0 ρ σ F' M' M0' := by
  have key : ∃ M0', RelE c b F M0' ρ σ M' ∧ MR b M0 M0' ∧ ∀ a, b = some a → M0' a = M' a := by
    cases b with
    | none =>
      have e : M' = M := funext fun a => mr a (fun z => nomatch z)
      rw [e]
      exact ⟨M0, R.env, MR.refl _ _, fun a z => nomatch z⟩
    | some a =>
      obtain ⟨da, ns, n, h1, h2, h3⟩ := bx a rfl
      obtain ⟨_, _, _, k1, _⟩ := R.box a rfl
      have e : M' = upd M a (.lst [.ref da, .int n]) := by
        funext x
        by_cases z : x = a
        · rw [z, upd_same, h1]
        · rw [upd_ne z]; exact mr x fun q => z (Option.some.inj q).symm
      refine ⟨upd M0 a (.lst [.ref da, .int n]), ?_, fun x q => upd_ne fun z => q (by rw [z]), fun x q => ?_⟩
      · rw [e]; exact R.env.frame (.inr (by rw [k1]; rfl))
      · rw [← Option.some.inj q, upd_same, h1]
  obtain ⟨M0', t, m, ha⟩ := key
  refine ⟨M0', s, fun a o na q => ?_, ⟨dj, t.leD (.of s) (fun a o q _ => dj a o (t.sub _ _ q)) (fun a o q _ => dj a o q), fun a q => ?_⟩, m⟩
  · rcases hh_some q with z | ⟨z1, z2⟩
    · exact hh_m (by rw [mr a na]; exact z)
    · rw [hh_n (by rw [mr a na]; exact z1)]; exact s _ _ z2
  · obtain ⟨da, ns, n, h1, h2, h3⟩ := bx a q
    exact ⟨da, ns, n, by rw [ha a q]; exact h1, h2, h3⟩
end
abbrev WAs := List Sl → (List Sl → List Sl → Prop) → Prop
def Snas (c : Cy) (ta : TA) (w : WAs) : Prop := ∀ {b : Option Addr} {ρ : List Sl} {σ : L2.St} {F M M0 : Hp}, Rel c b ρ σ F M M0 → ∀ (Qd : List Sl → List Sl → Prop) (Q : List V → Hp → Prop), w ρ Qd →
  (∀ as ρ' vs F' M' M0', Qd as ρ' → Aft c b F M M0 ρ' σ F' M' M0' → ArgsD c b F' as vs → Q vs (HH F' M')) → ta σ (HH F M) Q
structure DAs (X : Cx) (es : List Expr) (ta : TA) (w : WAs) : Prop where
  pe : PA X es ta
  sn : Snas (cy X) ta w
theorem ArgsD.up {c : Cy} {b : Option Addr} {F G : Hp} (s : Same F G) : ∀ {as : List Sl} {vs : List V}, ArgsD c b F as vs → ArgsD c b G as vs
  | [], vs, h => h
  | x :: r, vs, h => by
    obtain ⟨v, vr, rfl, q, t⟩ := h
    refine ⟨v, vr, rfl, ?_, ArgsD.up s t⟩
    cases x with
    | sh d => exact Dr.up s q
    | bx => exact q
    | _ => exact q.elim
def asNil : WAs := fun ρ Q => Q [] ρ
def asCons (w : WE) (wr : WAs) : WAs := fun ρ Q => w ρ fun d ρ1 => wr ρ1 fun as ρ2 => Q (.sh d :: as) ρ2
def asBox (i : Nat) (wr : WAs) : WAs := fun ρ Q => ρ[i]? = some .bx ∧ wr ρ fun as ρ2 => Q (.bx :: as) ρ2
section
variable {X : Cx} {e : Expr} {es : List Expr} {te : TE} {t : TA} {w : WE} {wt : WAs} {pos : Pos}
theorem das_nil : DAs X [] tNil asNil := ⟨pa_nil, fun {b ρ σ F M M0} R Qd Q hw k => k [] ρ [] F M M0 hw R.aft rfl⟩
theorem das_cons (ha : DE X e te w) (hr : DAs X es t wt) (hs : starEach (e :: es) X.env = (false, eval e X.env) :: starEach es X.env := by rfl) : DAs X (e :: es) (tCons te t) (asCons w wt) :=
  ⟨pa_cons ha.pe hr.pe hs, fun {b ρ σ F M M0} R Qd Q hw k => by
    refine ha.sn R _ _ hw fun d ρ1 v F1 M1 M01 q1 A1 r1 => ?_
    exact hr.sn A1.rel _ _ q1 fun as ρ2 vs F2 M2 M02 q2 A2 r2 => k (.sh d :: as) ρ2 (v :: vs) F2 M2 M02 q2 (A1.trans A2) ⟨v, vs, rfl, r1.up A2.same, r2⟩⟩
theorem das_box (i : Nat) {x : Str} {pos : Pos} (hr : DAs X es t wt) (hN : X.N[i]? = some x := by rfl) (hv : Vis X.env.scope x := by first | exact Or.inl rfl | exact Or.inr (Or.inl rfl) | exact Or.inr (Or.inr rfl)) (hd : (x == ("__debug__" : Str)) = false := by decide)
    (hcd : (x == ("__classdict__" : Str)) = false := by decide) (hs : starEach (.Name x pos :: es) X.env = (false, eval (.Name x pos) X.env) :: starEach es X.env := by rfl) : DAs X (.Name x pos :: es) (tCons (tVar i) t) (asBox i wt) :=
  ⟨pa_cons (pe_var hN hv hd hcd) hr.pe hs, fun {b ρ σ F M M0} R Qd Q hw k => by
    obtain ⟨e, hw⟩ := hw
    obtain ⟨a, h1, h2⟩ := R.env.getB e
    refine ⟨.ref a, h2, ?_⟩
    exact hr.sn R _ _ hw fun as ρ2 vs F2 M2 M02 q2 A2 r2 => k (.bx :: as) ρ2 (.ref a :: vs) F2 M2 M02 q2 A2 ⟨.ref a, vs, rfl, ⟨a, h1, rfl⟩, r2⟩⟩
def wCall (wf : WFn) (wa : WAs) : WE := fun ρ Q => wa ρ fun as ρ1 => wf as fun d => Q d ρ1
theorem snd_call {c : Cy} {E : XK} {wf : WFn} (ha : Snas c t wt) : Snd c (tCall (spF c wf) [] E t) (wCall wf wt) := fun {b ρ σ F M M0} R Qd Q hw k => by
  refine ha R _ _ hw fun as ρ1 vs F1 M1 M01 q1 A1 r1 => ?_
  rw [List.append_nil]
  refine ⟨b, F1, M1, as, _, rfl, A1.rel.dj, fun a z => ?_, r1, q1, fun d v F' M' q s dj bx mr r => ?_⟩
  · obtain ⟨da, ns, n, h1, h2, h3⟩ := A1.rel.box a z
    exact ⟨da, ns, n, A1.rel.env.sub _ _ h1, h2, h3⟩
  · obtain ⟨M0', A2⟩ := A1.rel.after s dj bx mr
    exact k d ρ1 v F' M' M0' q (A1.trans A2) r
variable {CX : CXT} {k : Nat} {f : Addr} {fd : FuncData} {ps : List Str} {x : Str} {p : Pos}
theorem de_call {wf : WFn} (G : FnOk X.prog X.w X.K X.mg X.base CX0 k f fd ps (spF (cy X) wf)) (hr : Room k X.A) (hg : Gl X x) (hm : X.mg x = some (.ref f)) (hk : PySem.W.keepIn X.K (.ref f) = true) (hb : Binds X.K fd ps [])
    (ha : DAs X (e :: es) t wt) (hdb : (x == ("__debug__" : Str)) = false := by decide) (he : starEach (e :: es) X.env = (false, eval e X.env) :: starEach es X.env := by rfl) (hpl : (backTo pos (starEach es X.env)).any (·.1) = false := by rfl) :
    DE X (.Call (.Name x p) (e :: es) [] pos) (tCall (spF (cy X) wf) [] E0 t) (wCall wf wt) := ⟨pe_call G hr hg hm hk hb .nil pass0 ha.pe hdb he hpl, snd_call ha.sn⟩
end
section
variable {P : Program} {w : World} {K : PySem.W.Frag} {mg : Str → Option Value} {base : Heap}
/-- THE RULE: a def's promise of data by its body's term -/
theorem fun_okD {x qual : Str} {st : Stmt} {f : Addr} {fd : FuncData} {N ps : List Str} {k : Nat} {wf : WFn} (F : Fun K x qual st f fd) (S : FnScope N ps (defScope st)) (len : ∀ as Qd, wf as Qd → as.length = ps.length)
    (hbody : ∀ (cdv : Value) (A : Around) (outer : List Env) (s : Shared) (H : Hp) (E : XK), Room k (A.deeper (envOfC qual (defScope st) s.heap.objs.size f cdv)) →
      ∃ t ws, DSs (cxOf CX0 P w K mg base N qual (defScope st) f cdv A outer s H E).nox (defBody st) t ws ∧ ∀ as Qd, wf as Qd → ws (startD N as) { nx := fun _ => Qd .non, rt := fun d _ => Qd d }) :
    FnOk P w K mg base CX0 (k + 1) f fd ps (spF ⟨K, mg⟩ wf) := by
  refine F.ok S (fun vs H Q E h => ?_) (fun cdv A outer s H vs Q E hr h => ?_)
  · obtain ⟨b, F, M, as, Qd, _, _, _, ar, hw, _⟩ := h
    rw [ar.length, len as Qd hw]
  · obtain ⟨b, F, M, as, Qd, rfl, dj, bx, ar, hw, hq⟩ := h
    obtain ⟨t, ws, hd, hp⟩ := hbody cdv A outer s (HH F M) E hr
    refine ⟨t, hd.ps, ?_⟩
    have R : Rel ⟨K, mg⟩ b (startD N as) (L2.start N vs) F M M := by
      refine ⟨dj, ?_, bx⟩
      unfold startD L2.start
      rw [ar.length]
      exact ar.rel
    refine hd.sn R _ _ (hp as Qd hw) ⟨fun ρ' σ' F' M' M0' e s' R' m' => ?_, fun _ _ _ _ _ z => z.elim, fun _ _ _ _ _ z => z.elim, fun d v ρ' σ' F' M' M0' e s' R' m' r => ?_⟩
    rotate_left
    · obtain ⟨F2, s2, eh, dj2⟩ := R'.env.frzAll R'.dj
      rw [eh]
      exact hq d v F2 M0' e (s'.trans s2) dj2 (fun a z => (R'.box a z).leD (.of s2)) m' (r.up s2)
    obtain ⟨F2, s2, eh, dj2⟩ := R'.env.frzAll R'.dj
    show Q .non (HH F' M')
    rw [eh]
    exact hq .non .non F2 M0' e (s'.trans s2) dj2 (fun a z => (R'.box a z).leD (.of s2)) m' (by simp only [Dr])
end
end DL

/-! Operations on data. -/
namespace DL
open PySem PySem.Spec PyProof.Rows L2

/-! ### numbers, texts, lists -/
section
variable {c : Cy} {X : Cx}
theorem Dr.int_of {F : Hp} {v : V} {i : Int} (h : Dr c F v (.int i)) : v = .int i := by simpa only [Dr] using h
theorem Dr.str_of {F : Hp} {v : V} {i : Str} (h : Dr c F v (.str i)) : v = .str i := by simpa only [Dr] using h
theorem Dr.bl_of {F : Hp} {v : V} {i : Bool} (h : Dr c F v (.bl i)) : v = .bl i := by simpa only [Dr] using h
theorem Dr.non_of {F : Hp} {v : V} (h : Dr c F v .non) : v = .non := by simpa only [Dr] using h
theorem Dr.of_int {F : Hp} {i : Int} : Dr c F (.int i) (.int i) := by simp only [Dr]
theorem Dr.of_str {F : Hp} {i : Str} : Dr c F (.str i) (.str i) := by simp only [Dr]
theorem Dr.of_bl {F : Hp} {i : Bool} : Dr c F (.bl i) (.bl i) := by simp only [Dr]
theorem Dr.of_non {F : Hp} : Dr c F .non .non := by simp only [Dr]
theorem Rk.int_of {b : Option Addr} {F M : Hp} {v : V} {i : Int} (h : Rk c b F M v (.int i)) : v = .int i := Dr.int_of (c := c) (F := F) h
theorem Rk.str_of {b : Option Addr} {F M : Hp} {v : V} {i : Str} (h : Rk c b F M v (.str i)) : v = .str i := Dr.str_of (c := c) (F := F) h
theorem Rk.bl_of {b : Option Addr} {F M : Hp} {v : V} {i : Bool} (h : Rk c b F M v (.bl i)) : v = .bl i := Dr.bl_of (c := c) (F := F) h
theorem Rk.non_of {b : Option Addr} {F M : Hp} {v : V} (h : Rk c b F M v .non) : v = .non := Dr.non_of (c := c) (F := F) h
theorem Rk.tup_of {b : Option Addr} {F M : Hp} {v : V} {ds : List D} (h : Rk c b F M v (.tup ds)) : ∃ a vs, v = .ref a ∧ F a = some (.tup vs) ∧ DrL c F vs ds := by
  have h : Dr c F v (.tup ds) := h
  simpa only [Dr] using h
theorem Rk.scr_of {b : Option Addr} {F M : Hp} {v : V} {ds : List D} (h : Rk c b F M v (.scr ds)) : ∃ a vs, v = .ref a ∧ SqL c.K F a vs ∧ DrL c F vs ds := by
  have h : Dr c F v (.scr ds) := h
  simpa only [Dr] using h

def dI2 (g : Int → Int → D) : D → D → (D → Prop) → Prop
  | .int i, .int j, Q => Q (g i j)
  | _, _, _ => False
def dI2C (C : Int → Int → Prop) (g : Int → Int → D) : D → D → (D → Prop) → Prop
  | .int i, .int j, Q => C i j ∧ Q (g i j)
  | _, _, _ => False
theorem rop_I0 {g : Int → Int → V} {gd : Int → Int → D} (h : ∀ i j F, Dr c F (g i j) (gd i j)) : Rop c (rI0 g) (dI2 gd) := fun {b F M x y d1 d2} Qd Q dj r1 r2 hw k => by
  cases d1 with
  | int i =>
    cases d2 with
    | int j => exact ⟨i, j, r1.int_of, r2.int_of, k _ _ F hw (Same.refl _) dj (fun _ f _ => f) (h i j F)⟩
    | _ => exact hw.elim
  | _ => exact hw.elim
theorem rop_I {C : Int → Int → Prop} {g : Int → Int → V} {gd : Int → Int → D} (h : ∀ i j F, Dr c F (g i j) (gd i j)) : Rop c (rI C g) (dI2C C gd) := fun {b F M x y d1 d2} Qd Q dj r1 r2 hw k => by
  cases d1 with
  | int i =>
    cases d2 with
    | int j => exact ⟨i, j, r1.int_of, r2.int_of, hw.1, k _ _ F hw.2 (Same.refl _) dj (fun _ f _ => f) (h i j F)⟩
    | _ => exact hw.elim
  | _ => exact hw.elim
abbrev dSub := dI2 fun i j => D.int (i - j)
abbrev dMul := dI2C CMul fun i j => D.int (i * j)
abbrev dMod := dI2C (fun _ j => 0 < j) fun i j => D.int (i % j)
abbrev dFdiv := dI2C CDiv fun i j => D.int (i / j)
abbrev dPow := dI2C CPow fun i j => D.int (i ^ j.toNat)
abbrev dLt := dI2 fun i j => D.bl (decide (i < j))
abbrev dLe := dI2 fun i j => D.bl (decide (i ≤ j))
abbrev dGt := dI2 fun i j => D.bl (decide (j < i))
abbrev dGe := dI2 fun i j => D.bl (decide (j ≤ i))
theorem rop_sub : Rop c (rI0 fun i j => .int (i - j)) dSub := rop_I0 fun _ _ _ => .of_int
theorem rop_mul : Rop c (rI CMul fun i j => .int (i * j)) dMul := rop_I fun _ _ _ => .of_int
theorem rop_mod : Rop c (rI (fun _ j => 0 < j) fun i j => .int (i % j)) dMod := rop_I fun _ _ _ => .of_int
theorem rop_fdiv : Rop c (rI CDiv fun i j => .int (i / j)) dFdiv := rop_I fun _ _ _ => .of_int
theorem rop_pow : Rop c (rI CPow fun i j => .int (i ^ j.toNat)) dPow := rop_I fun _ _ _ => .of_int
theorem rop_lt : Rop c (rI0 fun i j => .bl (decide (i < j))) dLt := rop_I0 fun _ _ _ => .of_bl
theorem rop_le : Rop c (rI0 fun i j => .bl (decide (i ≤ j))) dLe := rop_I0 fun _ _ _ => .of_bl
theorem rop_gt : Rop c (rI0 fun i j => .bl (decide (j < i))) dGt := rop_I0 fun _ _ _ => .of_bl
theorem rop_ge : Rop c (rI0 fun i j => .bl (decide (j ≤ i))) dGe := rop_I0 fun _ _ _ => .of_bl
/-- + -/
def dAdd : D → D → (D → Prop) → Prop
  | .int i, .int j, Q => Q (.int (i + j))
  | .str s, .str t, Q => s.length + t.length ≤ sizeLine ∧ Q (.str (s ++ t))
  | .lst a, .lst b, Q => a.length + b.length ≤ sizeLine ∧ Q (.lst (a ++ b))
  | _, _, _ => False
def rAddU : R2 := fun x y H Q => rI0 (fun i j => .int (i + j)) x y H Q ∨ (fun x y H Q => ∃ i j, x = .str i ∧ y = .str j ∧ i.length + j.length ≤ sizeLine ∧ Q (.str (i ++ j)) H) x y H Q ∨ rCat x y H Q
theorem op_addU : OpR X (binaryOp .Add) rAddU := OpR.or op_add (OpR.or op_add_str op_cat)
theorem Rk.lst_of {b : Option Addr} {F M : Hp} {v : V} {ds : List D} (h : Rk c b F M v (.lst ds)) : ∃ a vs, v = .ref a ∧ b ≠ some a ∧ HH F M a = some (.lst vs) ∧ DrL c F vs ds := h
theorem rop_add : Rop c rAddU dAdd := fun {b F M x y d1 d2} Qd Q dj r1 r2 hw k => by
  cases d1 with
  | int i =>
    cases d2 with
    | int j => exact .inl ⟨i, j, r1.int_of, r2.int_of, k _ _ F hw (Same.refl _) dj (fun _ f _ => f) .of_int⟩
    | _ => exact hw.elim
  | str i =>
    cases d2 with
    | str j => exact .inr (.inl ⟨i, j, r1.str_of, r2.str_of, hw.1, k _ _ F hw.2 (Same.refl _) dj (fun _ f _ => f) .of_str⟩)
    | _ => exact hw.elim
  | lst ds =>
    cases d2 with
    | lst es =>
      obtain ⟨a, vs, rfl, _, h1, q1⟩ := r1.lst_of
      obtain ⟨a', vs', rfl, _, h2, q2⟩ := r2.lst_of
      refine .inr (.inr ⟨a, a', vs, vs', rfl, rfl, h1, h2, by rw [q1.length, q2.length]; exact hw.1, fun p hp => ?_⟩)
      obtain ⟨hf, hm⟩ := hh_none hp
      rw [hh_updF hm]
      have s : Same F (upd F p (.lst (vs ++ vs'))) := Same.updF hf
      refine k _ _ _ hw.2 s (dj.updF hm) (fun x f m => ?_) ?_
      · by_cases e : x = p
        · rw [e, hm] at m; cases m
        · rw [upd_ne e]; exact f
      · simp only [Dr]
        exact ⟨p, _, rfl, upd_same, (q1.append q2).up s⟩
    | _ => exact hw.elim
  | _ => exact hw.elim

/-! ### equality -/
mutual
def toPy : D → PyData
  | .non => .none
  | .bl b => .bool b
  | .int i => .int i
  | .str s => .str s
  | .lst xs => .list (toPyL xs)
  | .tup xs => .tuple (toPyL xs)
  | .scr xs => .list (toPyL xs)
  | .dk _ _ => .none
  | .dt _ _ => .none
  | .ins _ _ _ => .none
def toPyL : List D → List PyData
  | [] => []
  | d :: ds => toPy d :: toPyL ds
end
mutual
/-- data that == tells apart: no dicts, no instances, texts of signs -/
def okD : D → Bool
  | .non => true
  | .bl _ => true
  | .int _ => true
  | .str s => PyData.strOk s
  | .lst xs => okDL xs
  | .tup xs => okDL xs
  | _ => false
def okDL : List D → Bool
  | [] => true
  | d :: ds => okD d && okDL ds
end
mutual
def depD : D → Nat
  | .lst xs => depDL xs + 1
  | .tup xs => depDL xs + 1
  | _ => 0
def depDL : List D → Nat
  | [] => 0
  | d :: ds => max (depD d) (depDL ds)
end
theorem toPyL_map : ∀ ds : List D, toPyL ds = ds.map toPy
  | [] => by simp only [toPyL, List.map_nil]
  | d :: ds => by simp only [toPyL, List.map_cons, toPyL_map ds]
mutual
theorem okD_lay : ∀ (d : D), okD d = true → (toPy d).canLay0 = true
  | .non, _ => by simp only [toPy, PyData.canLay0]
  | .bl _, _ => by simp only [toPy, PyData.canLay0]
  | .int _, _ => by simp only [toPy, PyData.canLay0]
  | .str s, h => by simpa only [toPy, PyData.canLay0, okD] using h
  | .lst xs, h => by simp only [toPy, PyData.canLay0]; exact okDL_lay xs (by simpa only [okD] using h)
  | .tup xs, h => by simp only [toPy, PyData.canLay0]; exact okDL_lay xs (by simpa only [okD] using h)
  | .scr _, h => by simp [okD] at h
  | .dk _ _, h => by simp [okD] at h
  | .dt _ _, h => by simp [okD] at h
  | .ins _ _ _, h => by simp [okD] at h
theorem okDL_lay : ∀ (ds : List D), okDL ds = true → PyData.canLayAll0 (toPyL ds) = true
  | [], _ => by simp only [toPyL, PyData.canLayAll0]
  | d :: ds, h => by
    simp only [okDL, Bool.and_eq_true] at h
    simp only [toPyL, PyData.canLayAll0, Bool.and_eq_true]
    exact ⟨okD_lay d h.1, okDL_lay ds h.2⟩
end
mutual
theorem depD_py : ∀ (d : D), okD d = true → (toPy d).depth = depD d
  | .non, _ => by simp only [toPy, PyData.depth, depD]
  | .bl _, _ => by simp only [toPy, PyData.depth, depD]
  | .int _, _ => by simp only [toPy, PyData.depth, depD]
  | .str s, h => by simp only [toPy, PyData.depth, depD]
  | .lst xs, h => by simp only [toPy, PyData.depth, depD, depDL_py xs (by simpa only [okD] using h)]
  | .tup xs, h => by simp only [toPy, PyData.depth, depD, depDL_py xs (by simpa only [okD] using h)]
  | .scr _, h => by simp [okD] at h
  | .dk _ _, h => by simp [okD] at h
  | .dt _ _, h => by simp [okD] at h
  | .ins _ _ _, h => by simp [okD] at h
theorem depDL_py : ∀ (ds : List D), okDL ds = true → PyData.depthAll (toPyL ds) = depDL ds
  | [], _ => by simp only [toPyL, PyData.depthAll, depDL]
  | d :: ds, h => by
    simp only [okDL, Bool.and_eq_true] at h
    simp only [toPyL, PyData.depthAll, depDL, depD_py d h.1, depDL_py ds h.2]
end
mutual
theorem Dr.dp {K : PySem.W.Frag} {F H : Hp} (s : Same F H) : ∀ (d : D) {v : V}, okD d = true → Dr c F v d → Dp K H v (toPy d)
  | .non, v, _, h => by rw [h.non_of, toPy]; exact .non
  | .bl _, v, _, h => by rw [h.bl_of, toPy]; exact .bl _
  | .int _, v, _, h => by rw [h.int_of, toPy]; exact .int _
  | .str _, v, _, h => by rw [h.str_of, toPy]; exact .str _
  | .lst xs, v, ok, h => by
    simp only [Dr] at h
    obtain ⟨a, vs, rfl, q, r⟩ := h
    rw [toPy]
    exact .lst (SqL.of (s _ _ q)) (DrL.dp s xs (by simpa only [okD] using ok) r)
  | .tup xs, v, ok, h => by
    simp only [Dr] at h
    obtain ⟨a, vs, rfl, q, r⟩ := h
    rw [toPy]
    exact .tup (SqT.of (s _ _ q)) (DrL.dp s xs (by simpa only [okD] using ok) r)
  | .scr _, v, h, _ => by simp [okD] at h
  | .dk _ _, v, h, _ => by simp [okD] at h
  | .dt _ _, v, h, _ => by simp [okD] at h
  | .ins _ _ _, v, h, _ => by simp [okD] at h
theorem DrL.dp {K : PySem.W.Frag} {F H : Hp} (s : Same F H) : ∀ (ds : List D) {vs : List V}, okDL ds = true → DrL c F vs ds → DpAll K H vs (toPyL ds)
  | [], vs, _, h => by rw [h.nil_iff, toPyL]; exact .nil
  | d :: ds, vs, ok, h => by
    obtain ⟨v, vr, rfl, q, r⟩ := h.cons_iff
    simp only [okDL, Bool.and_eq_true] at ok
    rw [toPyL]
    exact .cons (Dr.dp s d ok.1 q) (DrL.dp s ds ok.2 r)
end
theorem Rk.dp {K : PySem.W.Frag} {b : Option Addr} {F M : Hp} {v : V} {d : D} (dj : Dj F M) (ok : okD d = true) (h : Rk c b F M v d) : Dp K (HH F M) v (toPy d) := by
  cases d with
  | lst ds =>
    obtain ⟨a, vs, rfl, _, q, r⟩ := h
    rw [toPy]
    exact .lst (SqL.of q) (DrL.dp dj.same ds (by simpa only [okD] using ok) r)
  | dk _ _ => simp [okD] at ok
  | dt _ _ => simp [okD] at ok
  | ins _ _ _ => simp [okD] at ok
  | scr _ => simp [okD] at ok
  | non => exact Dr.dp (c := c) dj.same _ ok h
  | bl _ => exact Dr.dp (c := c) dj.same _ ok h
  | int _ => exact Dr.dp (c := c) dj.same _ ok h
  | str _ => exact Dr.dp (c := c) dj.same _ ok h
  | tup _ => exact Dr.dp (c := c) dj.same _ ok h
def shD (d : D) : Prop := okD d = true ∧ depD d ≤ 64
theorem shD.shaped {d : D} (h : shD d) : SeqAt.shaped (toPy d) = true := by
  show ((toPy d).canLay0 && decide ((toPy d).depth ≤ 64)) = true
  rw [Bool.and_eq_true]
  exact ⟨okD_lay d h.1, decide_eq_true (by rw [depD_py d h.1]; exact h.2)⟩
mutual
/-- Python's == on data without dicts -/
def eqD : D → D → Bool
  | .non, .non => true
  | .bl a, .bl b => a == b
  | .bl a, .int j => (if a then 1 else 0) == j
  | .int i, .bl b => i == (if b then 1 else 0)
  | .int i, .int j => i == j
  | .str x, .str y => x == y
  | .lst xs, .lst ys => eqDL xs ys
  | .tup xs, .tup ys => eqDL xs ys
  | _, _ => false
def eqDL : List D → List D → Bool
  | [], [] => true
  | x :: xs, y :: ys => eqD x y && eqDL xs ys
  | _, _ => false
end
mutual
theorem eqD_py : ∀ (d e : D), okD d = true → okD e = true → PyData.eqv (toPy d) (toPy e) = eqD d e := fun d e h1 h2 => by
  cases d <;> cases e <;> first
    | (simp [okD] at h1; done)
    | (simp [okD] at h2; done)
    | (simp only [toPy, PyData.eqv, eqD]; done)
    | (simp only [toPy, PyData.eqv, eqD]; exact eqDL_py _ _ (by simpa only [okD] using h1) (by simpa only [okD] using h2))
theorem eqDL_py : ∀ (ds es : List D), okDL ds = true → okDL es = true → PyData.eqvAll (toPyL ds) (toPyL es) = eqDL ds es
  | [], [], _, _ => by simp only [toPyL, PyData.eqvAll, eqDL]
  | [], _ :: _, _, _ => by simp only [toPyL, PyData.eqvAll, eqDL]
  | _ :: _, [], _, _ => by simp only [toPyL, PyData.eqvAll, eqDL]
  | d :: ds, e :: es, h1, h2 => by
    simp only [okDL, Bool.and_eq_true] at h1 h2
    simp only [toPyL, PyData.eqvAll, eqDL, eqD_py d e h1.1 h2.1, eqDL_py ds es h1.2 h2.2]
end
def rEqU (K : PySem.W.Frag) : R2 := fun x y H Q => rEq x y H Q ∨ rEqD K x y H Q
def rNeU (K : PySem.W.Frag) : R2 := fun x y H Q => rNe x y H Q ∨ rNeD K x y H Q
theorem op_eqU (hu : X.A.units + 64 < cLine) : OpR X (compareOp .Eq) (rEqU X.K) := OpR.or op_eq (op_eqD hu)
theorem op_neU (hu : X.A.units + 64 < cLine) : OpR X (compareOp .NotEq) (rNeU X.K) := OpR.or op_ne (op_neD hu)
def dEqB (g : Bool → Bool) : D → D → (D → Prop) → Prop
  | .int i, .int j, Q => Q (.bl (g (decide (i = j))))
  | .str i, .str j, Q => Q (.bl (g (decide (i = j))))
  | .bl i, .bl j, Q => Q (.bl (g (decide (i = j))))
  | .non, .non, Q => Q (.bl (g true))
  | .non, .int _, Q => Q (.bl (g false))
  | .int _, .non, Q => Q (.bl (g false))
  | .str _, .int _, Q => Q (.bl (g false))
  | .int _, .str _, Q => Q (.bl (g false))
  | d, e, Q => (shD d ∧ shD e) ∧ Q (.bl (g (eqD d e)))
abbrev dEq := dEqB id
abbrev dNe := dEqB not
theorem rop_eqG {g : Bool → Bool} {K : PySem.W.Frag} {r1 r2 : R2} (h1 : ∀ x y H (Q : VK), scal x y = true → Q (.bl (g (decide (x = y)))) H → r1 x y H Q) (h2 : ∀ x y H (Q : VK) d e, Dp K H x d → Dp K H y e → SeqAt.shaped d = true → SeqAt.shaped e = true → Q (.bl (g (PyData.eqv d e))) H → r2 x y H Q) :
    Rop c (fun x y H Q => r1 x y H Q ∨ r2 x y H Q) (dEqB g) := fun {b F M x y d1 d2} Qd Q dj q1 q2 hw k => by
  have deep : (shD d1 ∧ shD d2) ∧ Qd (.bl (g (eqD d1 d2))) → r1 x y (HH F M) Q ∨ r2 x y (HH F M) Q := fun ⟨⟨a, b⟩, q⟩ =>
    .inr (h2 x y _ Q _ _ (q1.dp dj a.1) (q2.dp dj b.1) a.shaped b.shaped (by rw [eqD_py d1 d2 a.1 b.1]; exact k _ _ F q (Same.refl _) dj (fun _ f _ => f) .of_bl))
  cases d1 with
  | int i =>
    cases d2 with
    | int j => rw [q1.int_of, q2.int_of]; exact .inl (h1 _ _ _ _ rfl (by rw [show decide (V.int i = V.int j) = decide (i = j) by simp]; exact k _ _ F hw (Same.refl _) dj (fun _ f _ => f) .of_bl))
    | non => rw [q1.int_of, q2.non_of]; exact .inl (h1 _ _ _ _ rfl (by rw [show decide (V.int i = V.non) = false by simp]; exact k _ _ F hw (Same.refl _) dj (fun _ f _ => f) .of_bl))
    | str j => rw [q1.int_of, q2.str_of]; exact .inl (h1 _ _ _ _ rfl (by rw [show decide (V.int i = V.str j) = false by simp]; exact k _ _ F hw (Same.refl _) dj (fun _ f _ => f) .of_bl))
    | _ => exact deep hw
  | str i =>
    cases d2 with
    | str j => rw [q1.str_of, q2.str_of]; exact .inl (h1 _ _ _ _ rfl (by rw [show decide (V.str i = V.str j) = decide (i = j) by simp]; exact k _ _ F hw (Same.refl _) dj (fun _ f _ => f) .of_bl))
    | int j => rw [q1.str_of, q2.int_of]; exact .inl (h1 _ _ _ _ rfl (by rw [show decide (V.str i = V.int j) = false by simp]; exact k _ _ F hw (Same.refl _) dj (fun _ f _ => f) .of_bl))
    | _ => exact deep hw
  | bl i =>
    cases d2 with
    | bl j => rw [q1.bl_of, q2.bl_of]; exact .inl (h1 _ _ _ _ rfl (by rw [show decide (V.bl i = V.bl j) = decide (i = j) by simp]; exact k _ _ F hw (Same.refl _) dj (fun _ f _ => f) .of_bl))
    | _ => exact deep hw
  | non =>
    cases d2 with
    | non => rw [q1.non_of, q2.non_of]; exact .inl (h1 _ _ _ _ rfl (by rw [show decide (V.non = V.non) = true by simp]; exact k _ _ F hw (Same.refl _) dj (fun _ f _ => f) .of_bl))
    | int j => rw [q1.non_of, q2.int_of]; exact .inl (h1 _ _ _ _ rfl (by rw [show decide (V.non = V.int j) = false by simp]; exact k _ _ F hw (Same.refl _) dj (fun _ f _ => f) .of_bl))
    | _ => exact deep hw
  | _ => exact deep hw
theorem rop_eq : Rop (cy X) (rEqU X.K) dEq := rop_eqG (g := id) (fun x y H Q h q => ⟨h, q⟩) (fun x y H Q d e a b s t q => ⟨d, e, a, b, s, t, q⟩)
theorem rop_ne : Rop (cy X) (rNeU X.K) dNe := rop_eqG (g := not) (fun x y H Q h q => ⟨h, q⟩) (fun x y H Q d e a b s t q => ⟨d, e, a, b, s, t, q⟩)

/-! ### is None, is True -/
def dIsB (g : Bool → Bool) : D → D → (D → Prop) → Prop
  | .bl a, .bl b, Q => Q (.bl (g (decide (a = b))))
  | .non, .non, Q => Q (.bl (g true))
  | _, .non, Q => Q (.bl (g false))
  | _, _, _ => False
def rIsU : R2 := fun x y H Q => (y = .non ∧ Q (.bl (decide (x = .non))) H) ∨ rIsB x y H Q
def rNotU : R2 := fun x y H Q => (y = .non ∧ Q (.bl (!decide (x = .non))) H) ∨ rNotB x y H Q
theorem op_isU : OpR X (compareOp .Is) rIsU := OpR.or op_isN op_isBl
theorem op_notU : OpR X (compareOp .IsNot) rNotU := OpR.or op_notN op_notBl
theorem Rk.ne_non {b : Option Addr} {F M : Hp} {x : V} : ∀ {d : D}, Rk c b F M x d → d ≠ .non → x ≠ .non
  | .non, _, n => (n rfl).elim
  | .bl _, h, _ => by rw [h.bl_of]; exact fun z => nomatch z
  | .int _, h, _ => by rw [h.int_of]; exact fun z => nomatch z
  | .str _, h, _ => by rw [h.str_of]; exact fun z => nomatch z
  | .lst _, h, _ => by obtain ⟨a, vs, rfl, _⟩ := h; exact fun z => nomatch z
  | .tup _, h, _ => by obtain ⟨a, vs, rfl, _⟩ := h.tup_of; exact fun z => nomatch z
  | .scr _, h, _ => by obtain ⟨a, vs, rfl, _⟩ := h.scr_of; exact fun z => nomatch z
  | .dk _ _, h, _ => by obtain ⟨a, vs, rfl, _⟩ := h; exact fun z => nomatch z
  | .dt _ _, h, _ => by obtain ⟨a, vs, rfl, _⟩ := h; exact fun z => nomatch z
  | .ins _ _ _, h, _ => by obtain ⟨a, vs, _, _, rfl, _⟩ := h; exact fun z => nomatch z
theorem rop_isG {g : Bool → Bool} {r1 r2 : R2} (h1 : ∀ x H (Q : VK), Q (.bl (g (decide (x = .non)))) H → r1 x .non H Q) (h2 : ∀ a b H (Q : VK), Q (.bl (g (decide (a = b)))) H → r2 (.bl a) (.bl b) H Q) :
    Rop c (fun x y H Q => r1 x y H Q ∨ r2 x y H Q) (dIsB g) := fun {b F M x y d1 d2} Qd Q dj q1 q2 hw k => by
  have no : d2 = .non → d1 ≠ .non → Qd (.bl (g false)) → r1 x y (HH F M) Q ∨ r2 x y (HH F M) Q := fun e n q => by
    subst e
    rw [q2.non_of]
    refine .inl (h1 _ _ _ ?_)
    rw [decide_eq_false (q1.ne_non n)]
    exact k _ _ F q (Same.refl _) dj (fun _ f _ => f) .of_bl
  cases d2 with
  | non =>
    cases d1 with
    | non =>
      rw [q1.non_of, q2.non_of]
      refine .inl (h1 _ _ _ ?_)
      rw [show decide (V.non = V.non) = true by simp]
      exact k _ _ F hw (Same.refl _) dj (fun _ f _ => f) .of_bl
    | bl _ => exact no rfl (fun z => nomatch z) hw
    | int _ => exact no rfl (fun z => nomatch z) hw
    | str _ => exact no rfl (fun z => nomatch z) hw
    | lst _ => exact no rfl (fun z => nomatch z) hw
    | tup _ => exact no rfl (fun z => nomatch z) hw
    | scr _ => exact no rfl (fun z => nomatch z) hw
    | dk _ _ => exact no rfl (fun z => nomatch z) hw
    | dt _ _ => exact no rfl (fun z => nomatch z) hw
    | ins _ _ _ => exact no rfl (fun z => nomatch z) hw
  | bl j =>
    cases d1 with
    | bl i => rw [q1.bl_of, q2.bl_of]; exact .inr (h2 _ _ _ _ (k _ _ F hw (Same.refl _) dj (fun _ f _ => f) .of_bl))
    | _ => exact hw.elim
  | _ => cases d1 <;> exact hw.elim
abbrev dIs := dIsB id
abbrev dNotIs := dIsB not
theorem rop_is : Rop c rIsU dIs := rop_isG (g := id) (r1 := fun x y H Q => y = .non ∧ Q (.bl (decide (x = .non))) H) (r2 := rIsB) (fun x H Q q => ⟨rfl, q⟩) (fun a b H Q q => ⟨a, b, rfl, rfl, q⟩)
theorem rop_notIs : Rop c rNotU dNotIs := rop_isG (g := not) (r1 := fun x y H Q => y = .non ∧ Q (.bl (!decide (x = .non))) H) (r2 := rNotB) (fun x H Q q => ⟨rfl, q⟩) (fun a b H Q q => ⟨a, b, rfl, rfl, q⟩)
theorem ro1_neg : Ro1 c (rU fun i => .int (-i)) (fun d Q => match d with | .int i => Q (.int (-i)) | _ => False) := fun {b F M x d1} Qd Q dj r1 hw k => by
  cases d1 with
  | int i => exact ⟨i, r1.int_of, k _ _ F hw (Same.refl _) dj .of_int⟩
  | _ => exact hw.elim

/-! ### dicts: what stands at a key -/
section
variable {κ : Type} [DecidableEq κ]
def alD : List κ → List D → κ → Option D
  | k :: ks, d :: ds, x => if k = x then some d else alD ks ds x
  | _, _, _ => none
theorem alD_val {F : Hp} : ∀ {ps : List (κ × V)} {ds : List D} {k : κ}, DrL c F (ps.map (·.2)) ds → (∀ d, alD (ps.map (·.1)) ds k = some d → ∃ v, valV ps k = some v ∧ Dr c F v d) ∧ (alD (ps.map (·.1)) ds k = none → valV ps k = none)
  | [], ds, k, h => by
    have e := h.length
    cases ds with
    | nil => exact ⟨fun d z => by simp [alD] at z, fun _ => rfl⟩
    | cons d ds => simp at e
  | p :: ps, ds, k, h => by
    cases ds with
    | nil => have e := h.length; simp at e
    | cons d ds =>
      obtain ⟨v, vr, e, q, r⟩ := h.cons_iff
      have e1 : p.2 = v := by injection e
      have e2 : ps.map (·.2) = vr := by injection e
      subst e1 e2
      have ih := alD_val (k := k) r
      by_cases z : p.1 = k
      · rw [valV_pos z]
        refine ⟨fun d' hd => ⟨p.2, rfl, ?_⟩, fun hn => ?_⟩
        · rw [List.map_cons, alD, if_pos z] at hd
          rw [← Option.some.inj hd]; exact q
        · rw [List.map_cons, alD, if_pos z] at hn; cases hn
      · rw [valV_neg z, List.map_cons, alD, if_neg z]
        exact ih
end
/-- a key -/
def keyD : D → Option Key
  | .int i => some (.inl i)
  | .str s => some (.inr s)
  | _ => none
def keysD : List D → Option (List Key)
  | [] => some []
  | d :: ds => match keyD d, keysD ds with
    | some k, some ks => some (k :: ks)
    | _, _ => none
theorem keyD_v {F : Hp} {v : V} : ∀ {d : D} {k : Key}, keyD d = some k → Dr c F v d → v = kV k
  | .int i, k, e, h => by rw [h.int_of]; cases e; rfl
  | .str i, k, e, h => by rw [h.str_of]; cases e; rfl
  | .non, k, e, _ => nomatch e
  | .bl _, k, e, _ => nomatch e
  | .lst _, k, e, _ => nomatch e
  | .tup _, k, e, _ => nomatch e
  | .scr _, k, e, _ => nomatch e
  | .dk _ _, k, e, _ => nomatch e
  | .dt _ _, k, e, _ => nomatch e
  | .ins _ _ _, k, e, _ => nomatch e
theorem keysD_v {F : Hp} : ∀ {ds : List D} {vs : List V} {ks : List Key}, keysD ds = some ks → DrL c F vs ds → vs = ks.map kV
  | [], vs, ks, e, h => by rw [h.nil_iff]; cases e; rfl
  | d :: ds, vs, ks, e, h => by
    obtain ⟨v, vr, rfl, q, r⟩ := h.cons_iff
    unfold keysD at e
    cases e1 : keyD d with
    | none => rw [e1] at e; cases e
    | some k =>
      cases e2 : keysD ds with
      | none => rw [e1, e2] at e; cases e
      | some kr =>
        rw [e1, e2] at e; cases e
        rw [keyD_v e1 q, keysD_v e2 r]; rfl
/-- what the dict holds at the key -/
def getD' : D → D → Option (Option D)
  | .dk ks ds, y => (keyD y).map fun k => alD ks ds k
  | .dt ks ds, .tup ys => (keysD ys).map fun k => alD ks ds k
  | _, _ => none
theorem getD_DGet {b : Option Addr} {F M : Hp} {x y : V} {d e : D} {o : Option D} (dj : Dj F M) (r1 : Rk c b F M x d) (r2 : Rk c b F M y e) (h : getD' d e = some o) : ∃ a ov, x = .ref a ∧ DGet (HH F M) a y ov ∧
    (∀ z, o = some z → ∃ v, ov = some v ∧ Dr c F v z) ∧ (o = none → ov = none) := by
  cases d with
  | dk ks ds =>
    obtain ⟨a, ps, rfl, _, q, k, r⟩ := r1
    obtain ⟨kk, hk, e1⟩ := Option.map_eq_some_iff.mp (show (keyD e).map (fun k => alD ks ds k) = some o from h)
    subst k
    have ev : y = kV kk := by
      cases e with
      | int i => rw [r2.int_of]; cases hk; rfl
      | str i => rw [r2.str_of]; cases hk; rfl
      | _ => cases hk
    have al := alD_val (c := c) (k := kk) r
    refine ⟨a, valV ps kk, rfl, .inl ⟨ps, kk, q, ev, rfl⟩, fun z hz => al.1 z (by rw [← hz]; exact e1), fun hn => al.2 (by rw [← hn]; exact e1)⟩
  | dt ks ds =>
    obtain ⟨a, ps, rfl, _, q, k, r⟩ := r1
    cases e with
    | tup ys =>
      obtain ⟨kk, hk, e1⟩ := Option.map_eq_some_iff.mp (show (keysD ys).map (fun k => alD ks ds k) = some o from h)
      subst k
      obtain ⟨bb, vs, rfl, hb, rb⟩ := r2.tup_of
      have ev := keysD_v hk rb
      have al := alD_val (c := c) (k := kk) r
      refine ⟨a, valV ps kk, rfl, .inr ⟨ps, kk, bb, q, rfl, by rw [← ev]; exact dj.f hb, rfl⟩, fun z hz => al.1 z (by rw [← hz]; exact e1), fun hn => al.2 (by rw [← hn]; exact e1)⟩
    | _ => cases h
  | _ => cases h

/-! ### x[i] -/
def rIxD : R2 := fun x y H Q => ∃ a v, x = .ref a ∧ DGet H a y (some v) ∧ Q v H
theorem ix_dict (hu : X.A.units + 1 < cLine) : IxR X rIxD := by
  intro value slice pins s σ H x y v u Q I rx ry h hs
  obtain ⟨a, w, rfl, g, q⟩ := h
  cases rx
  have hT := dict_typeIs I g
  have h₂ : wpAny (model X.prog X.w) X.A (getItem (.ref a) u) (EP X pins σ Q) X.xe s := d_getItem hu I g ry fun w' s' I' rw' => ⟨w, H, I', rw', q⟩
  unfold subscriptTail
  refine wpAny_bind ?_
  rw [getitemInPython_of_ne hT.not_modules]
  refine wpAny_bind (wpAny_specialOf hT PySem.F.slot_dict_getitem.lookup ?_)
  have fin : wpAny (model X.prog X.w) X.A (subscripted slice false (.ref a) u) (fun r s₃ => wpAny (model X.prog X.w) X.A (letTemporaryGo value (.ref a) r >>= fun _ => pure r) (EP X pins σ Q) X.xe s₃) X.xe s := by
    rw [hs]
    exact wpAny_operating (wpAny_mono h₂ (fun r s₃ h₃ => wpAny_bind (wpAny_letTemporaryGo (wpAny_pure h₃))) fun _ _ x => x)
  first
    | exact wpAny_pure (wpAny_bind fin)
    | exact wpAny_bind (wpAny_pure (wpAny_bind fin))
    | exact wpAny_bind fin
def rIxU (K : PySem.W.Frag) : R2 := fun x y H Q => rIx K x y H Q ∨ rIxD x y H Q
theorem ix_U (hu : X.A.units + 1 < cLine) : IxR X (rIxU X.K) := IxR.or ix_seq (ix_dict hu)
def dIx : D → D → (D → Prop) → Prop
  | .lst ds, .int i, Q => ∃ d, atI ds i = some d ∧ Q d
  | .tup ds, .int i, Q => ∃ d, atI ds i = some d ∧ Q d
  | .scr ds, .int i, Q => ∃ d, atI ds i = some d ∧ Q d
  | .str z, .int i, Q => z.length ≤ sizeLine ∧ ∃ n, atI z.cps.toList i = some n ∧ Q (.str ⟨#[n]⟩)
  | x, y, Q => ∃ d, getD' x y = some (some d) ∧ Q d
theorem atI_drl {F : Hp} {vs : List V} {ds : List D} {i : Int} {d : D} (r : DrL c F vs ds) (h : atI ds i = some d) : ∃ v, atI vs i = some v ∧ Dr c F v d := by
  unfold atI at h ⊢
  rw [r.length]
  cases e : ixN ds.length i with
  | none => rw [e] at h; cases h
  | some j =>
    rw [e] at h
    obtain ⟨v, h1, h2⟩ := r.get (i := j) h
    exact ⟨v, h1, h2⟩
theorem rop_ix : Rop (cy X) (rIxU X.K) dIx := fun {b F M x y d1 d2} Qd Q dj q1 q2 hw k => by
  have dict : (∃ d, getD' d1 d2 = some (some d) ∧ Qd d) → rIxU X.K x y (HH F M) Q := fun ⟨d, e, q⟩ => by
    obtain ⟨a, ov, e1, g, h1, _⟩ := getD_DGet dj q1 q2 e
    obtain ⟨v, e2, r⟩ := h1 d rfl
    subst e2
    exact .inr ⟨a, v, e1, g, k _ _ F q (Same.refl _) dj (fun _ f _ => f) r⟩
  cases d1 with
  | lst ds =>
    cases d2 with
    | int i =>
      obtain ⟨d, e, q⟩ := hw
      obtain ⟨a, vs, rfl, _, h1, r⟩ := q1.lst_of
      obtain ⟨v, hv, rv⟩ := atI_drl r e
      exact .inl (.inl ⟨a, vs, i, v, rfl, q2.int_of, SqL.of h1, hv, k _ _ F q (Same.refl _) dj (fun _ f _ => f) rv⟩)
    | _ => exact dict hw
  | tup ds =>
    cases d2 with
    | int i =>
      obtain ⟨d, e, q⟩ := hw
      obtain ⟨a, vs, rfl, h1, r⟩ := q1.tup_of
      obtain ⟨v, hv, rv⟩ := atI_drl r e
      exact .inl (.inr (.inl ⟨a, vs, i, v, rfl, q2.int_of, SqT.of (dj.f h1), hv, k _ _ F q (Same.refl _) dj (fun _ f _ => f) rv⟩))
    | _ => exact dict hw
  | scr ds =>
    cases d2 with
    | int i =>
      obtain ⟨d, e, q⟩ := hw
      obtain ⟨a, vs, rfl, h1, r⟩ := q1.scr_of
      obtain ⟨v, hv, rv⟩ := atI_drl r e
      exact .inl (.inl ⟨a, vs, i, v, rfl, q2.int_of, dj.same.seq h1, hv, k _ _ F q (Same.refl _) dj (fun _ f _ => f) rv⟩)
    | _ => exact dict hw
  | str z =>
    cases d2 with
    | int i =>
      obtain ⟨hz, n, e, q⟩ := hw
      exact .inl (.inr (.inr ⟨z, i, n, q1.str_of, q2.int_of, hz, e, k _ _ F q (Same.refl _) dj (fun _ f _ => f) .of_str⟩))
    | _ => exact dict hw
  | non => exact dict (by cases d2 <;> exact hw)
  | bl _ => exact dict (by cases d2 <;> exact hw)
  | int _ => exact dict (by cases d2 <;> exact hw)
  | dk _ _ => exact dict (by cases d2 <;> exact hw)
  | dt _ _ => exact dict (by cases d2 <;> exact hw)
  | ins _ _ _ => exact dict (by cases d2 <;> exact hw)
theorem de_ix {a b' : Expr} {ta tb : TE} {wa wb : WE} {pos : Pos} (hu : X.A.units + 1 < cLine) (ha : DP X a ta wa) (hb : DP X b' tb wb) (hs : PlainIx b') : DE X (.Subscript a b' pos) (tOp (rIxU X.K) ta tb) (wOp dIx wa wb) :=
  ⟨pe_ix (ix_U hu) ha.pe hb.pe hs, snd_op rop_ix ha.sn hb.sn⟩

/-! ### in -/
def flatD : D → Bool
  | .non => true
  | .bl _ => true
  | .int _ => true
  | .str _ => true
  | _ => false
theorem flatD_v {F : Hp} {v : V} : ∀ {d : D}, flatD d = true → Dr c F v d → flatV v = true
  | .non, _, h => by rw [h.non_of]; rfl
  | .bl _, _, h => by rw [h.bl_of]; rfl
  | .int _, _, h => by rw [h.int_of]; rfl
  | .str _, _, h => by rw [h.str_of]; rfl
  | .lst _, e, _ => nomatch e
  | .tup _, e, _ => nomatch e
  | .scr _, e, _ => nomatch e
  | .dk _ _, e, _ => nomatch e
  | .dt _ _, e, _ => nomatch e
  | .ins _ _ _, e, _ => nomatch e
theorem flatDL_v {F : Hp} : ∀ {ds : List D} {vs : List V}, ds.all flatD = true → DrL c F vs ds → vs.all flatV = true
  | [], vs, _, h => by rw [h.nil_iff]; rfl
  | d :: ds, vs, e, h => by
    obtain ⟨v, vr, rfl, q, r⟩ := h.cons_iff
    rw [List.all_cons, Bool.and_eq_true] at e
    rw [List.all_cons, flatD_v e.1 q, flatDL_v e.2 r]; rfl
theorem eqV_D {F : Hp} {u v : V} {d e : D} (h1 : flatD d = true) (h2 : flatD e = true) (q1 : Dr c F u d) (q2 : Dr c F v e) : eqV u v = eqD d e := by
  cases d with
  | non => rw [q1.non_of]; cases e with
    | non => rw [q2.non_of]; simp only [eqD]; rfl
    | bl _ => rw [q2.bl_of]; simp only [eqD]; rfl
    | int _ => rw [q2.int_of]; simp only [eqD]; rfl
    | str _ => rw [q2.str_of]; simp only [eqD]; rfl
    | _ => cases h2
  | bl _ => rw [q1.bl_of]; cases e with
    | non => rw [q2.non_of]; simp only [eqD]; rfl
    | bl _ => rw [q2.bl_of]; simp only [eqD]; rfl
    | int _ => rw [q2.int_of]; simp only [eqD]; rfl
    | str _ => rw [q2.str_of]; simp only [eqD]; rfl
    | _ => cases h2
  | int _ => rw [q1.int_of]; cases e with
    | non => rw [q2.non_of]; simp only [eqD]; rfl
    | bl _ => rw [q2.bl_of]; simp only [eqD]; rfl
    | int _ => rw [q2.int_of]; simp only [eqD]; rfl
    | str _ => rw [q2.str_of]; simp only [eqD]; rfl
    | _ => cases h2
  | str _ => rw [q1.str_of]; cases e with
    | non => rw [q2.non_of]; simp only [eqD]; rfl
    | bl _ => rw [q2.bl_of]; simp only [eqD]; rfl
    | int _ => rw [q2.int_of]; simp only [eqD]; rfl
    | str _ => rw [q2.str_of]; simp only [eqD]; rfl
    | _ => cases h2
  | _ => cases h1
theorem inV_D {F : Hp} {x : V} {d : D} (hd : flatD d = true) (q : Dr c F x d) : ∀ {ds : List D} {vs : List V}, ds.all flatD = true → DrL c F vs ds → inV x vs = ds.any fun z => eqD z d
  | [], vs, _, h => by rw [h.nil_iff]; rfl
  | e :: ds, vs, f, h => by
    obtain ⟨v, vr, rfl, qe, r⟩ := h.cons_iff
    rw [List.all_cons, Bool.and_eq_true] at f
    have ih := inV_D hd q f.2 r
    unfold inV at ih ⊢
    rw [List.any_cons, List.any_cons, ih, eqV_D f.1 hd qe q]
theorem any_py {d : D} (hd : okD d = true) : ∀ (ds : List D), okDL ds = true → (toPyL ds).any (fun z => PyData.eqv z (toPy d)) = ds.any fun z => eqD z d
  | [], _ => by simp only [toPyL, List.any_nil]
  | e :: ds, h => by
    simp only [okDL, Bool.and_eq_true] at h
    simp only [toPyL, List.any_cons, any_py hd ds h.2, eqD_py e d h.1 hd]
def rInDict (g : Bool → Bool) : R2 := fun x y H Q => ∃ a o, y = .ref a ∧ DGet H a x o ∧ Q (.bl (g o.isSome)) H
theorem op_inDict (hu : X.A.units + 1 < cLine) : OpR X (compareOp .In) (rInDict id) := by
  intro pins s σ H x y v u Q I rx ry h
  obtain ⟨a, o, rfl, g, q⟩ := h
  cases ry
  exact d_in hu I g rx fun s' I' => ⟨.bl _, H, I', rfl, q⟩
theorem op_notInDict (hu : X.A.units + 1 < cLine) : OpR X (compareOp .NotIn) (rInDict not) := by
  intro pins s σ H x y v u Q I rx ry h
  obtain ⟨a, o, rfl, g, q⟩ := h
  cases ry
  exact d_notIn hu I g rx fun s' I' => ⟨.bl _, H, I', rfl, q⟩
/-- x in a list, a tuple, a dict, a text -/
def dInB (g : Bool → Bool) : D → D → (D → Prop) → Prop
  | x, .lst ds, Q => ((flatD x = true ∧ ds.all flatD = true) ∨ (shD x ∧ shD (.lst ds))) ∧ Q (.bl (g (ds.any fun z => eqD z x)))
  | x, .tup ds, Q => (flatD x = true ∧ ds.all flatD = true) ∧ Q (.bl (g (ds.any fun z => eqD z x)))
  | .str s, .str z, Q => ∃ n, s = ⟨#[n]⟩ ∧ Q (.bl (g (decide (n ∈ z.cps.toList))))
  | x, y, Q => ∃ o, getD' y x = some o ∧ Q (.bl (g o.isSome))
def rInG (g : Bool → Bool) (rf rd : R2) : R2 := fun x y H Q => rf x y H Q ∨ rd x y H Q ∨ rInDict g x y H Q ∨ (fun x y H Q => ∃ (n : Nat) (z : Str), x = .str ⟨#[n]⟩ ∧ y = .str z ∧ Q (.bl (g (decide (n ∈ z.cps.toList)))) H) x y H Q
theorem rop_inG {g : Bool → Bool} {rf rd : R2} (hf : ∀ (x : V) (p : Addr) (xs : List V) (H : Hp) (Q : VK), (SqL X.K H p xs ∨ SqT X.K H p xs) → flatV x = true → xs.all flatV = true → Q (.bl (g (inV x xs))) H → rf x (.ref p) H Q)
    (hd : ∀ (x y : V) (H : Hp) (Q : VK) d ds, Dp X.K H x d → Dp X.K H y (.list ds) → SeqAt.shaped d = true → SeqAt.shaped (.list ds) = true → Q (.bl (g (ds.any fun z => PyData.eqv z d))) H → rd x y H Q) : Rop (cy X) (rInG g rf rd) (dInB g) := fun {b F M x y d1 d2} Qd Q dj q1 q2 hw k => by
  have fin : ∀ {t : Bool}, Qd (.bl t) → Q (.bl t) (HH F M) := fun q => k _ _ F q (Same.refl _) dj (fun _ f _ => f) .of_bl
  have dict : (∃ o, getD' d2 d1 = some o ∧ Qd (.bl (g o.isSome))) → rInG g rf rd x y (HH F M) Q := fun ⟨o, e, q⟩ => by
    obtain ⟨a, ov, e1, g1, h1, h2⟩ := getD_DGet dj q2 q1 e
    have es : o.isSome = ov.isSome := by
      cases o with
      | none => rw [h2 rfl]; rfl
      | some z => obtain ⟨v, hv, _⟩ := h1 z rfl; rw [hv]; rfl
    exact .inr (.inr (.inl ⟨a, ov, e1, g1, by rw [← es]; exact fin q⟩))
  have flat : ∀ {a : Addr} {vs : List V} {ds : List D}, y = .ref a → (SqL X.K (HH F M) a vs ∨ SqT X.K (HH F M) a vs) → DrL (cy X) F vs ds → flatD d1 = true → ds.all flatD = true → Qd (.bl (g (ds.any fun z => eqD z d1))) → rInG g rf rd x y (HH F M) Q := fun {a vs ds} e hs r f1 f2 q => by
    subst e
    have q1' : Dr (cy X) F x d1 := by cases d1 <;> first | exact q1 | cases f1
    exact .inl (hf _ _ _ _ _ hs (flatD_v f1 q1') (flatDL_v f2 r) (by rw [inV_D f1 q1' f2 r]; exact fin q))
  cases d2 with
  | lst ds =>
    have hw : ((flatD d1 = true ∧ ds.all flatD = true) ∨ (shD d1 ∧ shD (.lst ds))) ∧ Qd (.bl (g (ds.any fun z => eqD z d1))) := by cases d1 <;> exact hw
    obtain ⟨hc, q⟩ := hw
    obtain ⟨a, vs, e, _, h1, r⟩ := q2.lst_of
    rcases hc with ⟨f1, f2⟩ | ⟨s1, s2⟩
    · exact flat e (.inl (SqL.of h1)) r f1 f2 q
    · have ok2 : okDL ds = true := by simpa only [okD] using s2.1
      refine .inr (.inl (hd _ _ _ _ (toPy d1) (toPyL ds) (q1.dp dj s1.1) ?_ s1.shaped ?_ ?_))
      · have := q2.dp (K := X.K) dj s2.1; rwa [toPy] at this
      · have := s2.shaped; rwa [toPy] at this
      · rw [any_py s1.1 ds ok2]; exact fin q
  | tup ds =>
    have hw : (flatD d1 = true ∧ ds.all flatD = true) ∧ Qd (.bl (g (ds.any fun z => eqD z d1))) := by cases d1 <;> exact hw
    obtain ⟨⟨f1, f2⟩, q⟩ := hw
    obtain ⟨a, vs, e, h1, r⟩ := q2.tup_of
    exact flat e (.inr (SqT.of (dj.f h1))) r f1 f2 q
  | str z =>
    cases d1 with
    | str s =>
      obtain ⟨n, e, q⟩ := hw
      subst e
      exact .inr (.inr (.inr ⟨n, z, q1.str_of, q2.str_of, fin q⟩))
    | _ => exact dict hw
  | non => exact dict (by cases d1 <;> exact hw)
  | bl _ => exact dict (by cases d1 <;> exact hw)
  | int _ => exact dict (by cases d1 <;> exact hw)
  | scr _ => exact dict (by cases d1 <;> exact hw)
  | dk _ _ => exact dict (by cases d1 <;> exact hw)
  | dt _ _ => exact dict (by cases d1 <;> exact hw)
  | ins _ _ _ => exact dict (by cases d1 <;> exact hw)
abbrev dIn := dInB id
abbrev dNotIn := dInB not
def rInU (K : PySem.W.Frag) : R2 := rInG id (rIn K false) (rInD K)
def rNotInU (K : PySem.W.Frag) : R2 := rInG not (rIn K true) (rNotInD K)
theorem op_inU (hu : X.A.units + 65 < cLine) : OpR X (compareOp .In) (rInU X.K) := OpR.or op_in_seq (OpR.or (op_inD hu) (OpR.or (op_inDict (by omega)) op_in_sign))
theorem op_notInU (hu : X.A.units + 65 < cLine) : OpR X (compareOp .NotIn) (rNotInU X.K) := OpR.or op_notIn_seq (OpR.or (op_notInD hu) (OpR.or (op_notInDict (by omega)) op_notIn_sign))
theorem rop_in : Rop (cy X) (rInU X.K) dIn := rop_inG (g := id) (fun x p xs H Q h f1 f2 q => ⟨p, xs, rfl, h, f1, f2, by rw [if_neg Bool.false_ne_true]; exact q⟩) (fun x y H Q d ds a b s t q => ⟨d, ds, a, b, s, t, q⟩)
theorem rop_notIn : Rop (cy X) (rNotInU X.K) dNotIn := rop_inG (g := not) (fun x p xs H Q h f1 f2 q => ⟨p, xs, rfl, h, f1, f2, by rw [if_pos rfl]; exact q⟩) (fun x y H Q d ds a b s t q => ⟨d, ds, a, b, s, t, q⟩)
end
end DL

/-! Defs that use repr: they are called where no repr is under way. The law's own end. -/
namespace DL
open PySem PySem.Spec PyProof.Rows L2

/-- as FnOk, where no repr is under way; nothing is raised -/
structure FnG (P : Program) (w : World) (K : PySem.W.Frag) (mg : Str → Option Value) (base : Heap) (k : Nat) (f : Addr) (fd : FuncData) (ps : List Str) (sp : Sp) : Prop where
  len : ∀ vs H Q E, sp vs H Q E → vs.length = ps.length
  run : ∀ (A : Around) (outer : List Env) (s : Shared) (H : Hp) (args : Args) (us : List Value) (vs : List V) (Q : VK),
    Room k A → A.guards = some [] → Env0 P w K mg base A outer s H → BindsTo s fd args (ps.zip us) → Vals vs us → sp vs H Q E0 →
    codeAny (model P w) A (.call (.ref f) args) (fun r s' => ∃ u, r = .ok (.ret u) ∧ CE outer P w H s Q u s') s
theorem FnG.of {P : Program} {w : World} {K : PySem.W.Frag} {mg : Str → Option Value} {base : Heap} {k : Nat} {f : Addr} {fd : FuncData} {ps : List Str} {sp : Sp} (h : FnOk P w K mg base CX0 k f fd ps sp) : FnG P w K mg base k f fd ps sp := by
  refine ⟨h.len, fun A outer s H args us vs Q hr _ e0 hb hv hs => ?_⟩
  refine codeAny_mono (h.run A outer s H args us vs Q E0 hr e0 hb hv hs) fun r s' q => ?_
  match r, q with
  | .ok (.ret u), q => exact ⟨u, rfl, q⟩
theorem FnG.mono {P : Program} {w : World} {K : PySem.W.Frag} {mg : Str → Option Value} {base : Heap} {j k : Nat} {f : Addr} {fd : FuncData} {ps : List Str} {sp : Sp} (h : FnG P w K mg base j f fd ps sp) (hjk : j ≤ k) : FnG P w K mg base k f fd ps sp :=
  ⟨h.len, fun A outer s H args us vs Q hr => h.run A outer s H args us vs Q (hr.mono hjk)⟩

section
variable {P : Program} {w : World} {K : PySem.W.Frag} {mg : Str → Option Value} {base : Heap}
/-- a def of the text by its body, no repr under way -/
theorem fnG_of {x qual : Str} {st : Stmt} {f : Addr} {fd : FuncData} {N ps : List Str} {k : Nat} {sp : Sp} (F : Fun K x qual st f fd) (S : FnScope N ps (defScope st)) (len : ∀ vs H Q E, sp vs H Q E → vs.length = ps.length)
    (body : ∀ (cdv : Value) (A : Around) (outer : List Env) (s : Shared) (H : Hp) (vs : List V) (Q : VK), Room k (A.deeper (envOfC qual (defScope st) s.heap.objs.size f cdv)) → (A.deeper (envOfC qual (defScope st) s.heap.objs.size f cdv)).guards = some [] → sp vs H Q E0 →
      ∃ t, PSs (cxOf CX0 P w K mg base N qual (defScope st) f cdv A outer s H E0).nox (defBody st) t ∧ t { nx := fun _ H' => Q .non H', rt := Q } (L2.start N vs) H) : FnG P w K mg base (k + 1) f fd ps sp := by
  obtain ⟨oc, od, kV, doc, pm, an, cdv, ct, osl, rfl, look, hcode⟩ := F.ex
  refine ⟨len, fun A outer s H args us vs Q hr hgd e0 hb rv hsp => ?_⟩
  have hlen := len vs H Q E0 hsp
  have kin : K.In s.heap := e0.mod.kin.keeps fun y o q => (e0.bs y o q).1
  have lim : s.heap.NoLimit := e0.mod.nolimit.keeps fun y o q => (e0.bs y o q).1
  have kinds : ∀ y ∈ ps.zip us, (defScope st).names.lookup y.1 = some .local ∨
      ((defScope st).names.lookup y.1 = some .cell ∧ ((cellsFrom (s.heap.objs.size + 1) (defScope st).names []).lookup y.1).isSome = true) := by
    rintro ⟨n, v⟩ hy
    have hn := (List.of_mem_zip hy).1
    exact (S.par n hn).elim (fun q => .inl q) fun q => .inr ⟨q, PySem.W.cellsFrom_some _ _ _ (.inl q)⟩
  refine codeAny_call_function hr.depth (kin _ _ look) rfl S.co S.gen rfl
    (PySem.W.codeRec_of kin hcode) (hb _ _ _ _ ?_)
  refine wpAny_newFunctionEnv_cells S.kind kinds
    fun env he s1 x => ?_
  subst he
  refine ⟨lim.keeps x.toInCall.keep, codeAny_func ?_⟩
  obtain ⟨t, ht, hq⟩ := body cdv A outer s H vs Q (hr.deeper _) hgd hsp
  have I0 := inv_start (CX := CX0) (E := E0) (P := P) (w := w) (mg := mg) (base := base) (f := f) (cd := cdv) (qual := qual) (A := A) (outer := outer) S hr.hd e0 hlen rv x
  refine wpAny_mono (ht.run [] s1 _ H _ (I0.wish _) hq) (fun fl s' hs => ?_)
    fun _ _ z => z.elim
  match fl, hs with
  | .ret u, ⟨v, σ', H', J, r, q⟩ => exact ⟨u, rfl, v, H', J.os, J.bare, J.base, J.hok, r, q⟩
  | .next, ⟨σ', H', J, q⟩ => exact ⟨.none, rfl, .non, H', J.os, J.bare, J.base, J.hok, rfl, q⟩
  | .brk, ⟨_, _, _, q⟩ => exact q.elim
  | .cont, ⟨_, _, _, q⟩ => exact q.elim
end
section
variable {X : Cx} {k : Nat} {f : Addr} {fd : FuncData} {ps : List Str} {sp : Sp} {x : Str} {p pos : Pos} {e : Expr} {es : List Expr} {t : TA}
theorem peG_call (G : FnG X.prog X.w X.K X.mg X.base k f fd ps sp) (hr : Room k X.A) (hgd : X.A.guards = some []) (hg : Gl X x) (hm : X.mg x = some (.ref f)) (hk : PySem.W.keepIn X.K (.ref f) = true) (hb : Binds X.K fd ps [])
    (ha : PA X (e :: es) t) (hdb : (x == ("__debug__" : Str)) = false := by decide) (he : starEach (e :: es) X.env = (false, eval e X.env) :: starEach es X.env := by rfl) (hpl : (backTo pos (starEach es X.env)).any (·.1) = false := by rfl) :
    PE X (.Call (.Name x p) (e :: es) [] pos) (tCall sp [] E0 t) := by
  refine ⟨fun pins s σ H Q I h => wpAny_Call_Name_kw (ld_glob I hg hm ?_ hdb)⟩
  refine PySem.W.callWith_K (h₀ := X.base) I.ok.mod.kin hk
    (thn (ha.run pos pins s σ H _ I h) fun us s1 ⟨vs, H1, I1, r, q⟩ => ⟨I1.kIn, ?_⟩) he hpl
  have q : sp (vs ++ []) H1 Q E0 := q
  rw [List.append_nil] at q
  have hl : (us ++ []).length = ps.length := by
    rw [List.append_nil, ← r.length]
    exact G.len _ _ _ _ q
  have hb1 := hb s1 us I1.kIn hl
  rw [List.append_nil] at hb1
  refine wpAny_call (codeAny_mono (G.run X.A X.stack s1 H1 ⟨us, []⟩ us vs Q hr hgd I1.env0 hb1 r q) ?_)
  rintro res s' ⟨u, rfl, hq⟩
  exact I1.after hq
theorem de_callG {wt : WAs} {wf : WFn} (G : FnG X.prog X.w X.K X.mg X.base k f fd ps (spF (cy X) wf)) (hr : Room k X.A) (hgd : X.A.guards = some []) (hg : Gl X x) (hm : X.mg x = some (.ref f)) (hk : PySem.W.keepIn X.K (.ref f) = true) (hb : Binds X.K fd ps [])
    (ha : DAs X (e :: es) t wt) (hdb : (x == ("__debug__" : Str)) = false := by decide) (he : starEach (e :: es) X.env = (false, eval e X.env) :: starEach es X.env := by rfl) (hpl : (backTo pos (starEach es X.env)).any (·.1) = false := by rfl) :
    DE X (.Call (.Name x p) (e :: es) [] pos) (tCall (spF (cy X) wf) [] E0 t) (wCall wf wt) := ⟨peG_call G hr hgd hg hm hk hb ha.pe hdb he hpl, snd_call ha.sn⟩
end
section
variable {P : Program} {w : World} {K : PySem.W.Frag} {mg : Str → Option Value} {base : Heap}
/-- what a body's reading over data asks at its start -/
theorem start_rel {N : List Str} {b : Option Addr} {F M : Hp} {as : List Sl} {vs : List V} (dj : Dj F M) (bx : ∀ a, b = some a → Box F M a) (ar : ArgsD ⟨K, mg⟩ b F as vs) : Rel ⟨K, mg⟩ b (startD N as) (L2.start N vs) F M M := by
  refine ⟨dj, ?_, bx⟩
  unfold startD L2.start
  rw [ar.length]
  exact ar.rel
theorem fin_rt {c : Cy} {b : Option Addr} {F M : Hp} {Q : VK} {Qd : D → Prop} (hq : ∀ d v F' M', Qd d → Same F F' → Dj F' M' → (∀ a, b = some a → Box F' M' a) → MR b M M' → Dr c F' v d → Q v (HH F' M')) :
    Fin c b F M { nx := fun _ => Qd .non, rt := fun d _ => Qd d } { nx := fun _ H' => Q .non H', rt := Q } := by
  refine ⟨fun ρ' σ' F' M' M0' e s' R' m' => ?_, fun _ _ _ _ _ z => z.elim, fun _ _ _ _ _ z => z.elim, fun d v ρ' σ' F' M' M0' e s' R' m' r => ?_⟩
  rotate_left
  · obtain ⟨F2, s2, eh, dj2⟩ := R'.env.frzAll R'.dj
    rw [eh]
    exact hq d v F2 M0' e (s'.trans s2) dj2 (fun a z => (R'.box a z).leD (.of s2)) m' (r.up s2)
  obtain ⟨F2, s2, eh, dj2⟩ := R'.env.frzAll R'.dj
  show Q .non (HH F' M')
  rw [eh]
  exact hq .non .non F2 M0' e (s'.trans s2) dj2 (fun a z => (R'.box a z).leD (.of s2)) m' .of_non
theorem fun_okG {x qual : Str} {st : Stmt} {f : Addr} {fd : FuncData} {N ps : List Str} {k : Nat} {wf : WFn} (F : Fun K x qual st f fd) (S : FnScope N ps (defScope st)) (len : ∀ as Qd, wf as Qd → as.length = ps.length)
    (hbody : ∀ (cdv : Value) (A : Around) (outer : List Env) (s : Shared) (H : Hp), Room k (A.deeper (envOfC qual (defScope st) s.heap.objs.size f cdv)) → (A.deeper (envOfC qual (defScope st) s.heap.objs.size f cdv)).guards = some [] →
      ∃ t ws, DSs (cxOf CX0 P w K mg base N qual (defScope st) f cdv A outer s H E0).nox (defBody st) t ws ∧ ∀ as Qd, wf as Qd → ws (startD N as) { nx := fun _ => Qd .non, rt := fun d _ => Qd d }) :
    FnG P w K mg base (k + 1) f fd ps (spF ⟨K, mg⟩ wf) := by
  refine fnG_of F S (fun vs H Q E h => ?_) (fun cdv A outer s H vs Q hr hgd h => ?_)
  · obtain ⟨b, F, M, as, Qd, _, _, _, ar, hw, _⟩ := h
    rw [ar.length, len as Qd hw]
  · obtain ⟨b, F, M, as, Qd, rfl, dj, bx, ar, hw, hq⟩ := h
    obtain ⟨t, ws, hd, hp⟩ := hbody cdv A outer s (HH F M) hr hgd
    exact ⟨t, hd.ps, hd.sn (start_rel dj bx ar) _ _ (hp as Qd hw) (fin_rt hq)⟩
end

/-! ### the law's end -/
/-- the law's promise: a list of at most 63 ints, True -/
def spLaw (K : PySem.W.Frag) : Sp := fun vs H Q _ => ∃ (a : Addr) (ns : List Int), vs = [.ref a] ∧ SqL K H a (ns.map V.int) ∧ ns.length ≤ 63 ∧ ∀ H', Q (.bl true) H'
theorem ints_vals {ns : List Int} : ∀ {us : List Value}, IntsAre us ns → Vals (ns.map V.int) us := by
  induction ns with
  | nil => intro us h; cases h; exact .nil
  | cons n ns ih => intro us h; cases h with | cons _ t r => exact .cons ⟨t, rfl⟩ (ih r)
theorem lawG_call {P : Program} {w : World} {K : PySem.W.Frag} {mg mb : Str → Option Value} {k : Nat} {fa a : Addr} {fd : FuncData} {x : Str} {s₁ : Shared} {vs : List Value} {ns : List Int}
    (KX : K.In s₁.heap) (hns : s₁.heap.Ns mainGlobals mg) (hb : s₁.heap.Ns builtinsNs mb) (hbb : ∀ x : Str, x ≠ "__name__" → mb x = bootBuiltins x) (hlim : s₁.heap.NoLimit) (hg : s₁.gens = #[])
    (ha : s₁.heap.get? a = some { cls := .type "list", data := .seq vs.toArray }) (hi : IntsAre vs ns) (hl : ns.length ≤ 63) (hr : Room k callerA)
    (F : ∀ base : Heap, K.In base → base.Ns mainGlobals mg → FnG P w K mg base k fa fd [x] (spLaw K)) (hbind : ∀ (s : Shared) (u : Value), BindsTo s fd ⟨[u], []⟩ [(x, u)]) :
    codeAny (model P w) callerA (.call (.ref fa) ⟨[.ref a], []⟩) (fun r s' => r = .ok (.ret (.bool true)) ∧ OldK s₁.heap s'.heap ∧ s'.os = s₁.os ∧ AllBare s'.gens) s₁ := by
  have rv := ints_vals hi
  have hz : ns.length ≤ sizeLine := Nat.le_trans hl (by decide)
  -- what may be tracked: the script alone
  have main : ∀ H : Hp, (∀ b u, H b = some u → b = a ∧ ∃ o xs, u = .frz o (.lst xs)) → SqL K H a (ns.map V.int) → HOk P w H s₁.heap → ((H a).isSome = true → K.lookup a = none) →
      codeAny (model P w) callerA (.call (.ref fa) ⟨[.ref a], []⟩) (fun r s' => r = .ok (.ret (.bool true)) ∧ OldK s₁.heap s'.heap ∧ s'.os = s₁.os ∧ AllBare s'.gens) s₁ := by
    intro H only hS hok hK
    have isDict : ∀ {b : Addr} {o : Obj} {es : Array DictEntry} {ep : Nat}, s₁.heap.get? b = some o → o.data = .dict es ep → H b = none := by
      intro b o es ep e d
      cases q : H b with
      | none => rfl
      | some u =>
        rw [(only b u q).1, ha] at e
        cases e
        exact absurd (show Data.seq vs.toArray _ = Data.dict es ep from d) (fun z => nomatch z)
    have ns2 : ∀ {b : Addr} {m : Str → Option Value}, s₁.heap.Ns b m → (hidT s₁.heap H).Ns b m := by
      rintro b m ⟨o, es, ep, e, d, r⟩
      exact ⟨o, es, ep, hidT_get e (isDict e d), d, r⟩
    have kin2 : K.In (hidT s₁.heap H) := by
      intro b o e
      refine hidT_get (KX b o e) ?_
      cases q : H b with
      | none => rfl
      | some u =>
        have eb := (only b u q).1
        rw [eb] at q e
        rw [hK (by rw [q]; rfl)] at e
        cases e
    have hM : Mod K mg (hidT s₁.heap H) := by
      obtain ⟨mc, l1, l2⟩ := hlim
      exact ⟨kin2, ns2 hns, ⟨mb, ns2 hb, hbb⟩, ⟨mc, ns2 l1, l2⟩⟩
    have noFr : ∀ b : Addr, b ∉ frs ([] : List Env) := fun b z => by cases z
    have e0 : Env0 P w K mg (hidT s₁.heap H) callerA [] s₁ H :=
      ⟨rfl, hM, fun b o e => of_hidT e, Nat.le_of_eq (hidT_size _ _), trivial, fun b z => absurd z (noFr b), hok, .of_eq hg⟩
    refine codeAny_mono ((F _ kin2 (ns2 hns)).run callerA [] s₁ H ⟨[.ref a], []⟩ [.ref a] [.ref a] (fun v _ => v = .bl true) hr rfl e0 (hbind s₁ (.ref a)) (.cons rfl .nil) ⟨a, ns, rfl, hS, hl, fun _ => rfl⟩) ?_
    rintro r s' ⟨u, rfl, v, H', os, bare, un, hok', r', q⟩
    have q : v = .bl true := q
    subst q
    have eu : u = Value.bool true := r'
    subst eu
    refine ⟨rfl, OldK.of_keep fun b o e => ?_, os, bare⟩
    cases q : H b with
    | none => exact un.keep b o e q (noFr b) (by simp)
    | some u =>
      obtain ⟨_, ob, xs, rfl⟩ := only b u q
      have k1 := (hok b _ q).1
      have k2 := (hok' b _ (un.frzs b ob _ q)).1
      rw [e] at k1
      cases k1
      exact k2
  cases hk : K.lookup a with
  | some o =>
    have e := KX a o hk
    rw [ha] at e
    cases e
    refine main (fun _ => none) (fun b u z => nomatch z) ?_ (fun b u z => nomatch z) (fun z => nomatch z)
    refine .inr ⟨_, vs.toArray, _, hk, rfl, rfl, rfl, ?_, by simpa using rv⟩
    rw [List.size_toArray, ← rv.length, List.length_map]
    exact hz
  | none =>
    refine main (upd (fun _ => none) a (.frz { cls := .type "list", data := .seq vs.toArray } (.lst (ns.map V.int)))) (fun b u z => ?_) (.inl (.inr ⟨_, upd_same⟩)) (fun b u z => ?_) (fun _ => hk)
    · by_cases e : b = a
      · subst e
        rw [upd_same] at z
        exact ⟨rfl, _, _, (Option.some.inj z).symm⟩
      · rw [upd_ne e] at z; cases z
    · by_cases e : b = a
      · subst e
        rw [upd_same] at z
        cases z
        exact ⟨ha, by rw [List.length_map]; exact hz, vs, _, rv, ha⟩
      · rw [upd_ne e] at z; cases z
theorem walkG {l : PySem.W.OpenLaw} {k : Nat} {q : Program} {loose : List Str} {XP : (Str → Option Value) → Heap → Prop} {YP : World → Heap → Prop} {d : DefRec} {K : Params → PySem.W.Frag} {x : Str}
    (hn : l.most = some 63) (hdf : d.params.defaults = []) (hr : Room k callerA) (hY : ∀ (w : World) (h : Heap), YP w h → (K w.params).In h)
    (F : ∀ (w : World) (mg : Str → Option Value) (fa : Addr) (h : Heap), (K w.params).In h → h.Ns mainGlobals mg → mg d.name = some (.ref fa) →
      ∃ fd : FuncData, (∀ (s : Shared) (u : Value), BindsTo s fd ⟨[u], []⟩ [(x, u)]) ∧
        ∀ base : Heap, (K w.params).In base → base.Ns mainGlobals mg → FnG l.prog w (K w.params) mg base k fa fd [x] (spLaw (K w.params))) :
    PySem.W.WalkO q loose XP YP l.row.toRowW d [] (fun f vs => PySem.call f vs) := by
  refine Att.attach_call hn hdf fun w s₀ s₁ mg mb fa o pm cd doc a vs ns G Y ho hd hcd hmg hobj hints hlen hg => ?_
  have kin := hY w _ Y
  obtain ⟨fd, hb, hF⟩ := F w mg fa _ kin G.T.g hmg
  exact lawG_call kin G.T.g G.T.b G.T.builtins G.T.nolimit hg hobj hints hlen hr hF hb
end DL

/-! Built-ins, methods, own objects that change, the box of digits. -/
namespace DL
open PySem PySem.Spec PyProof.Rows L2

section
variable {c : Cy} {X : Cx} {e a a' : Expr} {te ta tb : TE} {w wa wb : WE} {x : Str} {p pos : Pos}
/-! ### built-ins of one value -/
theorem de_b1 {id : String} {r : List V → Hp → VK → Prop} {wr : D → (D → Prop) → Prop} (hc : CallR X (.builtin id) r) (hr : Ro1 (cy X) (fun x H Q => r [x] H Q) wr) (hg : Gl X x) (hm : X.mg x = none) (hv : bootBuiltins x = some (.builtin id)) (ha : DP X a ta wa)
    (hn : x ≠ "__name__" := by decide) (hdb : (x == ("__debug__" : Str)) = false := by decide) (he : starEach (a :: []) X.env = (false, eval a X.env) :: starEach [] X.env := by rfl) (hpl : (backTo pos (starEach [] X.env)).any (·.1) = false := by rfl) :
    DE X (.Call (.Name x p) [a] [] pos) (tCB r (tCons ta tNil)) (wUn wr wa) := ⟨pe_callB hc hg hm hv (pa_cons ha.pe pa_nil he) hn hdb he hpl, fun {b ρ σ F M M0} R Qd Q hw k => snd_un (c := cy X) hr ha.sn R Qd Q hw k⟩
theorem de_t1 {T : String} {r : List V → Hp → VK → Prop} {wr : D → (D → Prop) → Prop} (hc : CallR X (.type T) r) (hr : Ro1 (cy X) (fun x H Q => r [x] H Q) wr) (hg : Gl X x) (hm : X.mg x = none) (hv : bootBuiltins x = some (.type T)) (ha : DP X a ta wa)
    (hn : x ≠ "__name__" := by decide) (hdb : (x == ("__debug__" : Str)) = false := by decide) (he : starEach (a :: []) X.env = (false, eval a X.env) :: starEach [] X.env := by rfl) (hpl : (backTo pos (starEach [] X.env)).any (·.1) = false := by rfl) :
    DE X (.Call (.Name x p) [a] [] pos) (tCB r (tCons ta tNil)) (wUn wr wa) := ⟨pe_callTy hc hg hm hv (pa_cons ha.pe pa_nil he) hn hdb he hpl, fun {b ρ σ F M M0} R Qd Q hw k => snd_un (c := cy X) hr ha.sn R Qd Q hw k⟩
theorem de_b2 {id : String} {r : List V → Hp → VK → Prop} {wr : D → D → (D → Prop) → Prop} (hc : CallR X (.builtin id) r) (hr : Rop (cy X) (fun x y H Q => r [x, y] H Q) wr) (hg : Gl X x) (hm : X.mg x = none) (hv : bootBuiltins x = some (.builtin id)) (ha : DP X a ta wa) (hb : DP X a' tb wb)
    (hn : x ≠ "__name__" := by decide) (hdb : (x == ("__debug__" : Str)) = false := by decide) (he : starEach (a :: [a']) X.env = (false, eval a X.env) :: starEach [a'] X.env := by rfl) (hpl : (backTo pos (starEach [a'] X.env)).any (·.1) = false := by rfl)
    (he2 : starEach (a' :: []) X.env = (false, eval a' X.env) :: starEach [] X.env := by rfl) :
    DE X (.Call (.Name x p) [a, a'] [] pos) (tCB r (tCons ta (tCons tb tNil))) (wOp wr wa wb) := ⟨pe_callB hc hg hm hv (pa_cons ha.pe (pa_cons hb.pe pa_nil he2) he) hn hdb he hpl, fun {b ρ σ F M M0} R Qd Q hw k => snd_op (c := cy X) hr ha.sn hb.sn R Qd Q hw k⟩
/-- len -/
def dLen : D → (D → Prop) → Prop
  | .lst ds, Q => Q (.int ds.length)
  | .tup ds, Q => Q (.int ds.length)
  | .scr ds, Q => Q (.int ds.length)
  | .str z, Q => z.length ≤ sizeLine ∧ Q (.int z.length)
  | .dk ks _, Q => Q (.int ks.length)
  | _, _ => False
theorem call_lenR : CallR X (.builtin "len") (fun xs H Q => ∃ a kvs, xs = [V.ref a] ∧ Rd H a (.dK kvs) ∧ Q (.int kvs.length) H) := by
  intro pins s σ H xs us Q I r h
  obtain ⟨a, kvs, rfl, ha, q⟩ := h
  obtain ⟨u, rfl, ru⟩ := vals1 r
  cases ru
  exact d_len I ha fun t s' I' => ⟨.int kvs.length, H, I', ⟨t, rfl⟩, q⟩
def rLenU (K : PySem.W.Frag) : List V → Hp → VK → Prop := fun xs H Q => (∃ x n, xs = [x] ∧ LenV K x H n ∧ Q (.int n) H) ∨ ∃ a kvs, xs = [V.ref a] ∧ Rd H a (.dK kvs) ∧ Q (.int kvs.length) H
theorem call_lenU : CallR X (.builtin "len") (rLenU X.K) := CallR.or call_len call_lenR
theorem ro1_len : Ro1 (cy X) (fun x H Q => rLenU X.K [x] H Q) dLen := fun {b F M x d1} Qd Q dj r1 hw k => by
  cases d1 with
  | lst ds =>
    obtain ⟨a, vs, rfl, _, h, r⟩ := r1.lst_of
    exact .inl ⟨_, ds.length, rfl, .inl ⟨vs, SqL.of h, by rw [r.length]⟩, k _ _ F hw (Same.refl _) dj .of_int⟩
  | tup ds =>
    obtain ⟨a, vs, rfl, h, r⟩ := r1.tup_of
    exact .inl ⟨_, ds.length, rfl, .inr ⟨vs, SqT.of (dj.f h), by rw [r.length]⟩, k _ _ F hw (Same.refl _) dj .of_int⟩
  | scr ds =>
    obtain ⟨a, vs, rfl, h, r⟩ := r1.scr_of
    exact .inl ⟨_, ds.length, rfl, .inl ⟨vs, dj.same.seq h, by rw [r.length]⟩, k _ _ F hw (Same.refl _) dj .of_int⟩
  | str z => rw [r1.str_of]; exact .inl ⟨_, z.length, rfl, ⟨hw.1, rfl⟩, k _ _ F hw.2 (Same.refl _) dj .of_int⟩
  | dk ks ds =>
    obtain ⟨a, ps, rfl, _, h, e, r⟩ := r1
    refine .inr ⟨a, ps, rfl, h, ?_⟩
    have el : ps.length = ks.length := by rw [← e, List.length_map]
    rw [el]
    exact k _ _ F hw (Same.refl _) dj .of_int
  | _ => exact hw.elim
/-- int(n), int(flag) -/
def dInt : D → (D → Prop) → Prop
  | .int i, Q => Q (.int i)
  | .bl b, Q => Q (.int (if b then 1 else 0))
  | _, _ => False
theorem ro1_int : Ro1 (cy X) (fun x H Q => (∃ i, [x] = [V.int i] ∧ Q (.int i) H) ∨ ∃ k, [x] = [V.bl k] ∧ Q (.int (if k then 1 else 0)) H) dInt := fun {b F M x d1} Qd Q dj r1 hw k => by
  cases d1 with
  | int i => rw [r1.int_of]; exact .inl ⟨i, rfl, k _ _ F hw (Same.refl _) dj .of_int⟩
  | bl i => rw [r1.bl_of]; exact .inr ⟨i, rfl, k _ _ F hw (Same.refl _) dj .of_int⟩
  | _ => exact hw.elim
/-- sum, max, min of a list of ints -/
def dSum : D → (D → Prop) → Prop
  | .lst ds, Q => ∃ ns : List Int, ds = ns.map D.int ∧ Q (.int ns.sum)
  | _, _ => False
theorem Rk.ints {b : Option Addr} {F M : Hp} {v : V} {ns : List Int} (h : Rk c b F M v (.lst (ns.map D.int))) : ∃ a, v = .ref a ∧ HH F M a = some (.lst (ns.map V.int)) := by
  obtain ⟨a, vs, rfl, _, q, r⟩ := h.lst_of
  rw [r.ints] at q
  exact ⟨a, rfl, q⟩
theorem ro1_sum : Ro1 (cy X) (fun x H Q => rSum X.K [x] H Q) dSum := fun {b F M x d1} Qd Q dj r1 hw k => by
  cases d1 with
  | lst ds =>
    obtain ⟨ns, rfl, q⟩ := hw
    obtain ⟨a, rfl, h⟩ := r1.ints
    exact ⟨a, ns, rfl, SqL.of h, k _ _ F q (Same.refl _) dj .of_int⟩
  | _ => exact hw.elim
def dMaxL : D → (D → Prop) → Prop
  | .lst ds, Q => ∃ ns : List Int, ds = ns.map D.int ∧ 0 < ns.length ∧ ∀ m, m ∈ ns → (∀ y, y ∈ ns → y ≤ m) → Q (.int m)
  | _, _ => False
theorem ro1_maxL : Ro1 (cy X) (fun x H Q => rMax X.K [x] H Q) dMaxL := fun {b F M x d1} Qd Q dj r1 hw k => by
  cases d1 with
  | lst ds =>
    obtain ⟨ns, rfl, hn, q⟩ := hw
    obtain ⟨a, rfl, h⟩ := r1.ints
    exact ⟨a, ns, rfl, SqL.of h, hn, fun m hm hle => k _ _ F (q m hm hle) (Same.refl _) dj .of_int⟩
  | _ => exact hw.elim
def dMinL : D → (D → Prop) → Prop
  | .lst ds, Q => ∃ ns : List Int, ds = ns.map D.int ∧ 0 < ns.length ∧ ∀ m, m ∈ ns → (∀ y, y ∈ ns → m ≤ y) → Q (.int m)
  | _, _ => False
theorem ro1_minL : Ro1 (cy X) (fun x H Q => rMin X.K [x] H Q) dMinL := fun {b F M x d1} Qd Q dj r1 hw k => by
  cases d1 with
  | lst ds =>
    obtain ⟨ns, rfl, hn, q⟩ := hw
    obtain ⟨a, rfl, h⟩ := r1.ints
    exact ⟨a, ns, rfl, SqL.of h, hn, fun m hm hle => k _ _ F (q m hm hle) (Same.refl _) dj .of_int⟩
  | _ => exact hw.elim
def dAny : D → (D → Prop) → Prop
  | .lst ds, Q => ∃ bs : List Bool, ds = bs.map D.bl ∧ Q (.bl (bs.any id))
  | _, _ => False
theorem DrL.bls {F : Hp} : ∀ {ns : List Bool} {vs : List V}, DrL c F vs (ns.map D.bl) → vs = ns.map V.bl
  | [], vs, h => h.nil_iff
  | n :: ns, vs, h => by
    obtain ⟨u, vr, rfl, r, t⟩ := h.cons_iff
    rw [r.bl_of, DrL.bls t]; rfl
theorem ro1_any : Ro1 (cy X) (fun x H Q => rAny X.K [x] H Q) dAny := fun {b F M x d1} Qd Q dj r1 hw k => by
  cases d1 with
  | lst ds =>
    obtain ⟨ns, rfl, q⟩ := hw
    obtain ⟨a, vs, rfl, _, h, r⟩ := r1.lst_of
    rw [r.bls] at h
    exact ⟨a, ns, rfl, SqL.of h, k _ _ F q (Same.refl _) dj .of_bl⟩
  | _ => exact hw.elim
/-- abs, max, min of two -/
def dAbs : D → (D → Prop) → Prop
  | .int i, Q => Q (.int (if i < 0 then -i else i))
  | _, _ => False
theorem ro1_abs : Ro1 c (fun x H Q => ∃ i, [x] = [V.int i] ∧ Q (.int (if i < 0 then -i else i)) H) dAbs := fun {b F M x d1} Qd Q dj r1 hw k => by
  cases d1 with
  | int i => rw [r1.int_of]; exact ⟨i, rfl, k _ _ F hw (Same.refl _) dj .of_int⟩
  | _ => exact hw.elim
abbrev dMax2 := dI2 fun i j => D.int (if j > i then j else i)
abbrev dMin2 := dI2 fun i j => D.int (if j < i then j else i)
theorem rop_max2 : Rop c (fun x y H Q => ∃ i j, [x, y] = [V.int i, V.int j] ∧ Q (.int (if j > i then j else i)) H) dMax2 := fun {b F M x y d1 d2} Qd Q dj r1 r2 hw k => by
  cases d1 with
  | int i =>
    cases d2 with
    | int j => rw [r1.int_of, r2.int_of]; exact ⟨i, j, rfl, k _ _ F hw (Same.refl _) dj (fun _ f _ => f) .of_int⟩
    | _ => exact hw.elim
  | _ => exact hw.elim
theorem rop_min2 : Rop c (fun x y H Q => ∃ i j, [x, y] = [V.int i, V.int j] ∧ Q (.int (if j < i then j else i)) H) dMin2 := fun {b F M x y d1 d2} Qd Q dj r1 r2 hw k => by
  cases d1 with
  | int i =>
    cases d2 with
    | int j => rw [r1.int_of, r2.int_of]; exact ⟨i, j, rfl, k _ _ F hw (Same.refl _) dj (fun _ f _ => f) .of_int⟩
    | _ => exact hw.elim
  | _ => exact hw.elim
/-- ord -/
def dOrd : D → (D → Prop) → Prop
  | .str z, Q => z.length = 1 ∧ Q (.int (z.cps.getD 0 0 : Nat))
  | _, _ => False
theorem ro1_ord : Ro1 c (fun x H Q => ∃ z, [x] = [V.str z] ∧ z.length = 1 ∧ Q (.int (z.cps.getD 0 0 : Nat)) H) dOrd := fun {b F M x d1} Qd Q dj r1 hw k => by
  cases d1 with
  | str z => rw [r1.str_of]; exact ⟨z, rfl, hw.1, k _ _ F hw.2 (Same.refl _) dj .of_int⟩
  | _ => exact hw.elim
/-- str(n) -/
def dStrI : D → (D → Prop) → Prop
  | .int i, Q => i.natAbs.log2 < 1920 ∧ Q (.str (toString i))
  | .str s, Q => Q (.str s)
  | _, _ => False
theorem ro1_strI : Ro1 c (fun x H Q => (∃ i, [x] = [V.int i] ∧ i.natAbs.log2 < 1920 ∧ Q (.str (toString i)) H) ∨ ∃ s, [x] = [V.str s] ∧ Q (.str s) H) dStrI := fun {b F M x d1} Qd Q dj r1 hw k => by
  cases d1 with
  | int i => rw [r1.int_of]; exact .inl ⟨i, rfl, hw.1, k _ _ F hw.2 (Same.refl _) dj .of_str⟩
  | str i => rw [r1.str_of]; exact .inr ⟨i, rfl, k _ _ F hw (Same.refl _) dj .of_str⟩
  | _ => exact hw.elim
theorem call_strU : CallR X (.type "str") (fun xs H Q => (∃ i, xs = [V.int i] ∧ i.natAbs.log2 < 1920 ∧ Q (.str (toString i)) H) ∨ ∃ s, xs = [V.str s] ∧ Q (.str s) H) := CallR.or call_str_int SkE.call_str_str
/-- a new list, frozen -/
theorem new_lst {F M : Hp} {vs : List V} {ds : List D} {p : Addr} {Q : VK} {Qd : D → Prop} (dj : Dj F M) (r : DrL c F vs ds) (hp : HH F M p = none) (q : Qd (.lst ds)) (k : ∀ d v F', Qd d → Same F F' → Dj F' M → Dr c F' v d → Q v (HH F' M)) :
    Q (.ref p) (upd (HH F M) p (.lst vs)) := by
  obtain ⟨hf, hm⟩ := hh_none hp
  rw [hh_updF hm]
  refine k _ _ _ q (Same.updF hf) (dj.updF hm) ?_
  simp only [Dr]
  exact ⟨p, vs, rfl, upd_same, r.up (Same.updF hf)⟩
theorem new_tup {F M : Hp} {vs : List V} {ds : List D} {p : Addr} {Q : VK} {Qd : D → Prop} (dj : Dj F M) (r : DrL c F vs ds) (hp : HH F M p = none) (q : Qd (.tup ds)) (k : ∀ d v F', Qd d → Same F F' → Dj F' M → Dr c F' v d → Q v (HH F' M)) :
    Q (.ref p) (upd (HH F M) p (.tup vs)) := by
  obtain ⟨hf, hm⟩ := hh_none hp
  rw [hh_updF hm]
  refine k _ _ _ q (Same.updF hf) (dj.updF hm) ?_
  simp only [Dr]
  exact ⟨p, vs, rfl, upd_same, r.up (Same.updF hf)⟩
/-- list(x): a list or tuple -/
def dList : D → (D → Prop) → Prop
  | .lst ds, Q => Q (.lst ds)
  | .tup ds, Q => Q (.lst ds)
  | .scr ds, Q => Q (.lst ds)
  | _, _ => False
theorem ro1_list : Ro1 (cy X) (fun x H Q => ∃ p ys, [x] = [V.ref p] ∧ (SqL X.K H p ys ∨ SqT X.K H p ys) ∧ ∀ l, H l = none → Q (.ref l) (upd H l (.lst ys))) dList := fun {b F M x d1} Qd Q dj r1 hw k => by
  cases d1 with
  | lst ds =>
    obtain ⟨a, vs, rfl, _, h, r⟩ := r1.lst_of
    exact ⟨a, vs, rfl, .inl (SqL.of h), fun l hl => new_lst dj r hl hw k⟩
  | tup ds =>
    obtain ⟨a, vs, rfl, h, r⟩ := r1.tup_of
    exact ⟨a, vs, rfl, .inr (SqT.of (dj.f h)), fun l hl => new_lst dj r hl hw k⟩
  | scr ds =>
    obtain ⟨a, vs, rfl, h, r⟩ := r1.scr_of
    exact ⟨a, vs, rfl, .inl (dj.same.seq h), fun l hl => new_lst dj r hl hw k⟩
  | _ => exact hw.elim
/-- sorted of ints -/
def dSortI : D → (D → Prop) → Prop
  | .lst ds, Q => ∃ ns : List Int, ds = ns.map D.int ∧ ∀ ms : List Int, ms.Perm ns → ms.Pairwise (· ≤ ·) → Q (.lst (ms.map D.int))
  | _, _ => False
theorem ro1_sortI : Ro1 (cy X) (fun x H Q => rSortedI X.K [x] H Q) dSortI := fun {b F M x d1} Qd Q dj r1 hw k => by
  cases d1 with
  | lst ds =>
    obtain ⟨ns, rfl, q⟩ := hw
    obtain ⟨a, rfl, h⟩ := r1.ints
    exact ⟨a, ns, rfl, SqL.of h, fun ms p hp hs hn => new_lst (c := cy X) dj (DrL.of_ints ms) hn (q ms hp hs) k⟩
  | _ => exact hw.elim
/-- repr, where none is under way -/
def rRepr (K : PySem.W.Frag) : List V → Hp → VK → Prop := fun xs H Q => ∃ x d, xs = [x] ∧ Dp K H x d ∧ d.showable = true ∧ d.hasDict = false ∧ d.depth ≤ 60 ∧ d.shown.length ≤ sizeLine ∧ Q (.str d.shown) H
theorem call_repr (hgd : X.A.guards = some []) (hu : X.A.units + 64 < cLine) : CallR X (.builtin "repr") (rRepr X.K) := by
  intro pins s σ H xs us Q I r h
  obtain ⟨x, d, rfl, hd, hs, hn, hdp, hz, q⟩ := h
  obtain ⟨u, rfl, ru⟩ := vals1 r
  have fin : ∀ (h' : Heap) (t : Tok) (tk : Nat), (∀ b o, s.heap.get? b = some o → h'.get? b = some o) → EP X pins σ Q (.str d.shown t) { s with heap := h', toks := tk } := fun h' t tk hk => ⟨.str d.shown, H, I.kept hk, ⟨t, rfl⟩, q⟩
  cases hd with
  | non => cases ru; exact PySem.P.repr_of_none (fin _ _ _ fun _ _ e => e)
  | bl b => cases ru; exact PySem.P.repr_of_bool (fin _ _ _ fun _ _ e => e)
  | int i =>
    obtain ⟨t, rfl⟩ := ru
    exact PySem.P.repr_of_int (by simpa [PyData.showable] using hs) (fin _ _ _ fun _ _ e => e)
  | str z =>
    obtain ⟨t, rfl⟩ := ru
    exact PySem.P.repr_of_str (fin _ _ _ fun _ _ e => e) (by simpa only [PyData.shown] using hz)
  | lst h1 h2 =>
    obtain ⟨as, hr⟩ := Dp.reads I _ _ u (.lst h1 h2) ru
    cases ru
    exact repr_of_reads' hr hs (PyData.noDict_hsm hn) hgd (by omega) (fun _ _ e => e) (fun h' t tk hk => fin h' t tk hk) hz
  | tup h1 h2 =>
    obtain ⟨as, hr⟩ := Dp.reads I _ _ u (.tup h1 h2) ru
    cases ru
    exact repr_of_reads' hr hs (PyData.noDict_hsm hn) hgd (by omega) (fun _ _ e => e) (fun h' t tk hk => fin h' t tk hk) hz
/-- data that repr shows -/
structure Shw (d : D) : Prop where
  ok : okD d = true
  dep : depD d ≤ 60
  sh : (toPy d).showable = true
  sz : (toPy d).shown.length ≤ sizeLine
def dRepr : D → (D → Prop) → Prop := fun d Q => Shw d ∧ Q (.str (toPy d).shown)
theorem ro1_repr : Ro1 (cy X) (fun x H Q => rRepr X.K [x] H Q) dRepr := fun {b F M x d1} Qd Q dj r1 hw k => by
  obtain ⟨s, q⟩ := hw
  exact ⟨x, toPy d1, rfl, r1.dp dj s.ok, s.sh, PyData.hasDict_of_canLay _ (okD_lay d1 s.ok), by rw [depD_py d1 s.ok]; exact s.dep, s.sz, k _ _ F q (Same.refl _) dj .of_str⟩

/-! ### methods of texts -/
def dJoin : D → D → (D → Prop) → Prop
  | .str s, .lst ds, Q => ∃ ys : List Str, ds = ys.map D.str ∧ (ys.map (·.length)).sum + ys.length * s.length ≤ 16777216 ∧ Q (.str (Txt.join s ys))
  | _, _, _ => False
theorem DrL.strs {F : Hp} : ∀ {ns : List Str} {vs : List V}, DrL c F vs (ns.map D.str) → vs = ns.map V.str
  | [], vs, h => h.nil_iff
  | n :: ns, vs, h => by
    obtain ⟨u, vr, rfl, r, t⟩ := h.cons_iff
    rw [r.str_of, DrL.strs t]; rfl
theorem DrL.of_strs {F : Hp} : ∀ (ns : List Str), DrL c F (ns.map V.str) (ns.map D.str)
  | [] => .nil
  | n :: ns => .cons .of_str (DrL.of_strs ns)
theorem snd_m1 {r : V → List V → Hp → VK → Prop} {wr : D → D → (D → Prop) → Prop} (hs : ∀ d1 d2 Qd, wr d1 d2 Qd → ∃ s, d1 = .str s) (hr : Rop c (fun x y H Q => r x [y] H Q) wr) (ha : Snp c ta wa) (hb : Snp c tb wb)
    : Snd c (tM1 r ta tb) (fun ρ Q => wa ρ fun d1 ρ1 => (∃ s, d1 = .str s) ∧ wb ρ1 fun d2 ρ2 => wr d1 d2 fun d => Q d ρ2) := fun {b ρ σ F M M0} R Qd Q hw k => by
  refine ha R _ _ hw fun d1 ρ1 x F1 M1 M01 q1 A1 r1 => ?_
  obtain ⟨⟨s, rfl⟩, q1⟩ := q1
  refine ⟨⟨s, r1.str_of⟩, ?_⟩
  refine hb A1.rel _ _ q1 fun d2 ρ2 y F2 M2 M02 q2 A2 r2 => ?_
  refine hr (b := b) _ _ A2.rel.dj (r1.stay A2.same A2.ext) r2 q2 fun d v F' q s dj nf rv => ?_
  exact k d ρ2 v F' M2 M02 q ((A1.trans A2).trans (A2.rel.grow s dj)) rv
def wM1 (wr : D → D → (D → Prop) → Prop) (wa wb : WE) : WE := fun ρ Q => wa ρ fun d1 ρ1 => (∃ s, d1 = .str s) ∧ wb ρ1 fun d2 ρ2 => wr d1 d2 fun d => Q d ρ2
def rJoinU (K : PySem.W.Frag) : V → List V → Hp → VK → Prop := fun x xs H Q => ∃ (a : Str) (p : Addr), ∃ ys : List Str, x = .str a ∧ xs = [.ref p] ∧ (SqL K H p (ys.map V.str) ∨ SqT K H p (ys.map V.str)) ∧
  (ys.map (·.length)).sum + ys.length * a.length ≤ 16777216 ∧ Q (.str (Txt.join a ys)) H
def rSIndex : V → List V → Hp → VK → Prop := fun x xs H Q => ∃ (a b : Str) (i : Nat) (rest : List Nat), x = .str a ∧ xs = [.str b] ∧ Builtin.Str.occurrences a b 0 a.length 1 = i :: rest ∧ Q (.int (i : Nat)) H
theorem rop_join : Rop (cy X) (fun x y H Q => rJoinU X.K x [y] H Q) dJoin := fun {b F M x y d1 d2} Qd Q dj r1 r2 hw k => by
  cases d1 with
  | str s =>
    cases d2 with
    | lst ds =>
      obtain ⟨ys, rfl, hz, q⟩ := hw
      obtain ⟨a, vs, rfl, _, h, r⟩ := r2.lst_of
      rw [r.strs] at h
      exact ⟨s, a, ys, r1.str_of, rfl, .inl (SqL.of h), hz, k _ _ F q (Same.refl _) dj (fun _ f _ => f) .of_str⟩
    | _ => exact hw.elim
  | _ => exact hw.elim
theorem de_join {apos : Pos} (ho : DP X a ta wa) (he : DP X a' tb wb) (hs : starEach [a'] X.env = [(false, eval a' X.env)] := by rfl) (hbase : attributeBase a "join" X.env (eval a X.env) = eval a X.env := by rfl) (hline : (apos.endLine == pos.line) = true := by rfl) :
    DE X (.Call (.Attribute a "join" apos) [a'] [] pos) (tM1 (rJoinU X.K) ta tb) (wM1 dJoin wa wb) := ⟨pe_join ho.pe he.pe hs hbase hline, snd_m1 (fun d1 d2 Qd h => by cases d1 <;> first | exact ⟨_, rfl⟩ | exact h.elim) rop_join ho.sn he.sn⟩
def dSIndex : D → D → (D → Prop) → Prop
  | .str s, .str t, Q => ∃ i rest, Builtin.Str.occurrences s t 0 s.length 1 = i :: rest ∧ Q (.int (i : Nat))
  | _, _, _ => False
theorem rop_sindex : Rop c (fun x y H Q => rSIndex x [y] H Q) dSIndex := fun {b F M x y d1 d2} Qd Q dj r1 r2 hw k => by
  cases d1 with
  | str s =>
    cases d2 with
    | str t =>
      obtain ⟨i, rest, h, q⟩ := hw
      rw [r2.str_of]
      exact ⟨s, t, i, rest, r1.str_of, rfl, h, k _ _ F q (Same.refl _) dj (fun _ f _ => f) .of_int⟩
    | _ => exact hw.elim
  | _ => exact hw.elim
theorem de_sindex {apos : Pos} (ho : DP X a ta wa) (he : DP X a' tb wb) (hs : starEach [a'] X.env = [(false, eval a' X.env)] := by rfl) (hbase : attributeBase a "index" X.env (eval a X.env) = eval a X.env := by rfl) (hline : (apos.endLine == pos.line) = true := by rfl) :
    DE X (.Call (.Attribute a "index" apos) [a'] [] pos) (tM1 rSIndex ta tb) (wM1 dSIndex wa wb) := ⟨pe_m1 PySem.F.slot_str_index PySem.F.type_str_index mt_sindex ho.pe he.pe hs hbase hline, snd_m1 (fun d1 d2 Qd h => by cases d1 <;> first | exact ⟨_, rfl⟩ | exact h.elim) rop_sindex ho.sn he.sn⟩

/-! ### slices -/
abbrev WO := List Sl → (Option Int → List Sl → Prop) → Prop
def Sno (c : Cy) (to : TO) (w : WO) : Prop := ∀ {b : Option Addr} {ρ : List Sl} {σ : L2.St} {F M M0 : Hp}, Rel c b ρ σ F M M0 → ∀ (Qd : Option Int → List Sl → Prop) (Q : Option Int → Hp → Prop), w ρ Qd →
  (∀ o ρ' F' M' M0', Qd o ρ' → Aft c b F M M0 ρ' σ F' M' M0' → Q o (HH F' M')) → to σ (HH F M) Q
structure DO (X : Cx) (e : Option Expr) (t : TO) (w : WO) : Prop where
  po : PO X e t
  sn : Sno (cy X) t w
def woNone : WO := fun ρ Q => Q none ρ
def woSome (w : WE) : WO := fun ρ Q => w ρ fun d ρ1 => match d with
  | .int i => Q (some i) ρ1
  | _ => False
theorem do_none : DO X none tNoPart woNone := ⟨po_none, fun {b ρ σ F M M0} R Qd Q hw k => k none ρ F M M0 hw R.aft⟩
theorem do_some (h : DE X e te w) : DO X (some e) (tPart te) (woSome w) := ⟨po_some h.pe, fun {b ρ σ F M M0} R Qd Q hw k => by
  refine h.sn R _ _ hw fun d ρ1 v F1 M1 M01 q A r => ?_
  cases d with
  | int i => exact ⟨i, r.int_of, k _ ρ1 F1 M1 M01 q A⟩
  | _ => exact q.elim⟩
/-- x[lo:hi] of data -/
def cutD {α : Type} (xs : List α) (lo hi : Option Int) : List α := (xs.drop (HT.sIx xs.length 0 lo)).take (HT.sIx xs.length xs.length hi - HT.sIx xs.length 0 lo)
def dCut (lo hi : Option Int) : D → (D → Prop) → Prop
  | .lst ds, Q => Q (.lst (cutD ds lo hi))
  | .str z, Q => z.length ≤ sizeLine ∧ Q (.str (cutS z lo hi))
  | _, _ => False
def rSlU (K : PySem.W.Frag) : V → Option Int → Option Int → Hp → VK → Prop := fun x lo hi H Q => rSlL K x lo hi H Q ∨ rSlS x lo hi H Q
theorem sl_U : SlR X (rSlU X.K) := SlR.or sl_list sl_str
def wCut (w : WE) (wl wh : WO) : WE := fun ρ Q => w ρ fun d ρ1 => wl ρ1 fun lo ρ2 => wh ρ2 fun hi ρ3 => dCut lo hi d fun d' => Q d' ρ3
theorem de_cut {lo hi : Option Expr} {tl th : TO} {wl wh : WO} {p2 : Pos} (he : DP X e te w) (hl : DO X lo tl wl) (hh : DO X hi th wh) : DE X (.Subscript e (.Slice lo hi none p2) pos) (tSl (rSlU X.K) te tl th) (wCut w wl wh) :=
  ⟨pe_slice sl_U he.pe hl.po hh.po, fun {b ρ σ F M M0} R Qd Q hw k => by
    refine he.sn R _ _ hw fun d ρ1 v F1 M1 M01 q1 A1 r1 => ?_
    refine hl.sn A1.rel _ _ q1 fun lo ρ2 F2 M2 M02 q2 A2 => ?_
    refine hh.sn A2.rel _ _ q2 fun hi ρ3 F3 M3 M03 q3 A3 => ?_
    have r3 := (r1.stay A2.same A2.ext).stay A3.same A3.ext
    have A := (A1.trans A2).trans A3
    cases d with
    | lst ds =>
      obtain ⟨a, vs, rfl, _, h, r⟩ := r3.lst_of
      refine .inl ⟨a, vs, rfl, SqL.of h, fun p hp => ?_⟩
      have e : DrL (cy X) F3 (cutV vs lo hi) (cutD ds lo hi) := by
        unfold cutV cutD
        rw [r.length]
        exact (r.drop _).take _
      refine new_lst (Qd := fun d => Qd d ρ3) A.rel.dj e hp q3 fun d v F' q s dj rv => k d ρ3 v F' M3 M03 q (A.trans (A.rel.grow s dj)) rv
    | str z =>
      exact .inr ⟨z, r3.str_of, q3.1, k _ ρ3 _ F3 M3 M03 q3.2 A .of_str⟩
    | _ => exact q3.elim⟩

/-! ### truth -/
def dTru : D → (Bool → Prop) → Prop
  | .non, Q => Q false
  | .bl b, Q => Q b
  | .int i, Q => Q (i != 0)
  | .str z, Q => z.length ≤ sizeLine ∧ Q ((z.length : Int) != 0)
  | .lst ds, Q => Q (!ds.isEmpty)
  | .tup ds, Q => Q (!ds.isEmpty)
  | _, _ => False
def wTru (w : WE) : WT := fun ρ Q => w ρ fun d ρ1 => dTru d fun k => Q k ρ1
theorem DrL.empty {F : Hp} {vs : List V} {ds : List D} (r : DrL c F vs ds) : vs.isEmpty = ds.isEmpty := by
  cases ds with
  | nil => rw [r.nil_iff]; rfl
  | cons d ds => obtain ⟨v, vr, rfl, _⟩ := r.cons_iff; rfl
theorem dt_truth (h : DP X e te w) (he : ∀ whole, isTrue e X.env whole = (do let v ← whole; standAt e.pos; holding [v] (truthy v)) := by intro _; rfl) : DT X e (fun σ H Q => te σ H fun x H' => ∃ k, TruV X.K x H' k ∧ Q k H') (wTru w) :=
  ⟨pt_truth h.pe he, fun {b ρ σ F M M0} R Qd Q hw k => by
    refine h.sn R _ _ hw fun d ρ1 v F1 M1 M01 q A r => ?_
    cases d with
    | non => rw [r.non_of]; exact ⟨false, rfl, k _ _ _ _ _ q A⟩
    | bl j => rw [r.bl_of]; exact ⟨j, rfl, k _ _ _ _ _ q A⟩
    | int i => rw [r.int_of]; exact ⟨_, rfl, k _ _ _ _ _ q A⟩
    | str z => rw [r.str_of]; exact ⟨_, ⟨q.1, rfl⟩, k _ _ _ _ _ q.2 A⟩
    | lst ds =>
      obtain ⟨a, vs, rfl, _, hq, rl⟩ := r.lst_of
      exact ⟨!vs.isEmpty, .inl ⟨vs, SqL.of hq, rfl⟩, by rw [rl.empty]; exact k _ _ _ _ _ q A⟩
    | tup ds =>
      obtain ⟨a, vs, rfl, hq, rl⟩ := r.tup_of
      exact ⟨!vs.isEmpty, .inr (.inl ⟨vs, SqT.of (A.rel.dj.f hq), rfl⟩), by rw [rl.empty]; exact k _ _ _ _ _ q A⟩
    | _ => exact q.elim⟩

/-! ### over a text, with enumerate, zip -/
def signsD (z : Str) : List D := z.cps.toList.map fun n => D.str ⟨#[n]⟩
def wItS (w : WE) : WA := fun ρ Q => w ρ fun d ρ1 => match d with
  | .str z => Q (signsD z) ρ1
  | _ => False
theorem its_ok {F : Hp} (z : Str) : ItOk c (Its z) F (signsD z) := fun F' M' s dj i => by
  refine ⟨fun d hd => ?_, fun e => ?_⟩
  · unfold signsD at hd
    rw [List.getElem?_map] at hd
    cases e : z.cps.toList[i]? with
    | none => rw [e] at hd; cases hd
    | some n =>
      rw [e] at hd
      have ed : D.str ⟨#[n]⟩ = d := Option.some.inj hd
      subst ed
      have hi : i < z.cps.size := by
        have := (List.getElem?_eq_some_iff.mp e).1
        simpa using this
      refine ⟨hi, fun x H3 hy => ?_⟩
      obtain ⟨rfl, n', hn', rfl⟩ := hy
      have e2 : z.cps[i]? = some n := by simpa using e
      rw [hn'] at e2
      rw [Option.some.inj e2]
      exact ⟨F', rfl, Same.refl _, dj, .of_str⟩
  · show z.cps.size ≤ i
    unfold signsD at e
    simp at e
    omega
theorem di_str {tg : Expr} (h : DE X e te w) : DI X tg e (iStr te) (wItS w) := ⟨pi_str h.pe, fun {b ρ σ F M M0} R Qd Q hw k => by
  refine h.sn R _ _ hw fun d ρ1 v F1 M1 M01 q A r => ?_
  cases d with
  | str z => exact ⟨z, r.str_of, k _ ρ1 _ F1 M1 M01 q A (its_ok z)⟩
  | _ => exact q.elim⟩

/-! ### own objects change -/
/-- name.append(e) -/
def wApp (i : Nat) (w : WE) : WS := fun ρ E => match ρ[i]? with
  | some (.ol _) => w ρ fun d ρ1 => match ρ1[i]? with
    | some (.ol ds) => ds.length < sizeLine ∧ E.nx (ρ1.set i (.ol (ds ++ [d])))
    | _ => False
  | _ => False
/-- an own slot keeps its address -/
theorem Rel.ownL {b : Option Addr} {ρ : List Sl} {σ : L2.St} {F M M0 : Hp} {i : Nat} {ds : List D} (R : Rel c b ρ σ F M M0) (e : ρ[i]? = some (.ol ds)) :
    ∃ a vs, σ[i]? = some (some (.ref a)) ∧ DrL c F vs ds ∧ F a = none ∧ HH F M a = some (.lst vs) ∧ ∀ ds' vs', DrL c F vs' ds' → Rel c b (ρ.set i (.ol ds')) σ F (upd M a (.lst vs')) M0 := by
  obtain ⟨a, o, M', h1, h2, h3, h4, h5, h6, h7, h8⟩ := R.env.own e trivial
  obtain ⟨vs, rfl, r⟩ := h2
  refine ⟨a, vs, h1, r, h3, hh_m (by rw [h5]; exact upd_same), fun ds' vs' r' => ⟨R.dj.updM h3, ?_, R.box⟩⟩
  have t := h8 (.ol ds') (.lst vs') trivial ⟨vs', rfl, r'⟩
  rw [h5, upd_upd]
  exact t
theorem Rel.fixed {b : Option Addr} {ρ' : List Sl} {σ : L2.St} {F M M0 F' M' M0' : Hp} {i : Nat} {a : Addr} {ds' : List D} (_ : Aft c b F M M0 ρ' σ F' M' M0') (h : σ[i]? = some (some (.ref a))) (R : Rel c b ρ' σ F' M' M0') (e : ρ'[i]? = some (.ol ds')) :
    ∃ vs, DrL c F' vs ds' ∧ F' a = none ∧ HH F' M' a = some (.lst vs) ∧ ∀ ds' vs', DrL c F' vs' ds' → Rel c b (ρ'.set i (.ol ds')) σ F' (upd M' a (.lst vs')) M0' := by
  obtain ⟨a', vs, h1, h2, h3, h4, h5⟩ := R.ownL e
  rw [h] at h1
  have ea : a = a' := by injection h1 with h1; injection h1 with h1; injection h1
  subst ea
  exact ⟨vs, h2, h3, h4, h5⟩
theorem sns_app {i : Nat} (he : Snd c te w) : Sns c (tDrop (tBM c.K "list" rAppend (tVar i) (tCons te tNil))) (wApp i w) := fun {b ρ σ F M M0} R E Dn hw f => by
  unfold wApp at hw
  cases e0 : ρ[i]? with
  | none => simp only [e0] at hw
  | some s0 =>
    simp only [e0] at hw
    cases s0 with
    | ol ds0 =>
      obtain ⟨a, vs0, h1, h2, h3, h4, h5⟩ := R.ownL e0
      refine ⟨.ref a, h1, .inl ⟨rfl, vs0, SqL.of h4⟩, ?_⟩
      refine he R _ _ hw fun d ρ1 v F1 M1 M01 q A r => ?_
      cases e1 : ρ1[i]? with
      | none => simp only [e1] at q
      | some sl =>
        simp only [e1] at q
        cases sl with
        | ol ds =>
          obtain ⟨vs, k2, k3, k4, k5⟩ := A.rel.fixed A h1 e1
          refine ⟨a, vs, v, rfl, rfl, k4, by rw [k2.length]; exact q.1, ?_⟩
          rw [hh_updM]
          exact f.nx _ _ F1 _ M01 q.2 A.same (k5 (ds ++ [d]) (vs ++ [v]) (k2.append (.cons r .nil))) A.mr
        | _ => exact q.elim
    | _ => exact hw.elim
theorem ds_append {i : Nat} {xn : Str} {np apos cpos spos : Pos} (he : DE X e te w) (hN : X.N[i]? = some xn := by rfl) (hv : Vis X.env.scope xn := by first | exact Or.inl rfl | exact Or.inr (Or.inl rfl) | exact Or.inr (Or.inr rfl))
    (hd : (xn == ("__debug__" : Str)) = false := by decide) (hcd : (xn == ("__classdict__" : Str)) = false := by decide)
    (hbase : attributeBase (.Name xn np) "append" X.env (eval (.Name xn np) X.env) = eval (.Name xn np) X.env := by rfl)
    (hfew : ((backTo cpos (starEach (e :: []) X.env)).all (fun x => !x.1) && (backToKw cpos (keywordEach [] X.env)).all (fun x => x.1.isSome)
      && decide ((e :: []).length + ([] : List Keyword).length + (if ([] : List Keyword).isEmpty then 0 else 1) < 30)) = true := by rfl)
    (hline : (apos.endLine == cpos.line) = true := by rfl) (hs : starEach (e :: []) X.env = (false, eval e X.env) :: starEach [] X.env := by rfl) (hplain : (backTo cpos (starEach [] X.env)).any (·.1) = false := by rfl)
    (hsw : swapsWith (.Call (.Attribute (.Name xn np) "append" apos) [e] [] cpos) none spos.line X.env = pure false := by rfl) :
    DS X (.Expr (.Call (.Attribute (.Name xn np) "append" apos) [e] [] cpos) spos) (tDrop (tBM X.K "list" rAppend (tVar i) (tCons te tNil))) (wApp i w) :=
  ⟨ps_expr (pe_bm PySem.F.plainAttrs_list PySem.F.slot_list_append PySem.F.type_list_append mt_append (pe_var hN hv hd hcd) (pa_cons he.pe pa_nil hs) hbase hfew hline hs hplain) hsw, sns_app (c := cy X) he.sn⟩
end
end DL

/-! The box of digits; the law's first statement; small things. -/
namespace DL
open PySem PySem.Spec PyProof.Rows L2

theorem hu65 {A : Around} {k : Nat} (hr : Room k A) : A.units + 65 < cLine := by have := hr.un; omega
def dNeg : D → (D → Prop) → Prop := fun d Q => match d with | .int i => Q (.int (-i)) | _ => False
section
variable {c : Cy} {X : Cx} {e a b' : Expr} {te ta tb : TE} {w wa wb : WE} {pos : Pos}
theorem ro1_dNeg : Ro1 c (rU fun i => .int (-i)) dNeg := ro1_neg
theorem dt_chain {op op' : CmpOp} {c' : Expr} {tc : TE} {wc : WE} {r r' : R2} {wr wr' : D → D → (D → Prop) → Prop} (ho : OpR X (compareOp op) r) (ho' : OpR X (compareOp op') r') (hr : Rop (cy X) r wr) (hr' : Rop (cy X) r' wr') (ha : DP X a ta wa) (hb : DP X b' tb wb) (hc : DP X c' tc wc)
    (h : PE X a ta → PE X b' tb → PE X c' tc → PT X (.Compare a [op, op'] [b', c'] pos) (tTest (tChain r r' ta tb tc))) : DT X (.Compare a [op, op'] [b', c'] pos) (tTest (tChain r r' ta tb tc)) (wTst (wChain wr wr' wa wb wc)) :=
  ⟨h ha.pe hb.pe hc.pe, snt_test (snd_chain hr hr' ha.sn hb.sn hc.sn)⟩

/-! ### the box -/
theorem Rel.bx {b : Option Addr} {ρ : List Sl} {σ : L2.St} {F M M0 : Hp} {i : Nat} (R : Rel c b ρ σ F M M0) (e : ρ[i]? = some .bx) :
    ∃ (x da : Addr) (ns : List Int) (n : Int), b = some x ∧ σ[i]? = some (some (.ref x)) ∧ HH F M x = some (.lst [.ref da, .int n]) ∧ F da = some (.lst (ns.map V.int)) ∧ 0 ≤ n ∧ (M0 x).isSome = true ∧ M x = some (.lst [.ref da, .int n]) := by
  obtain ⟨x, h1, h2⟩ := R.env.getB e
  obtain ⟨da, ns, n, q1, q2, q3⟩ := R.box x h1
  have q4 := R.env.sub _ _ q1
  exact ⟨x, da, ns, n, h1, h2, hh_m q4, q2, q3, by rw [q1]; rfl, q4⟩
/-- box[1], box[0] -/
def wBx1 (i : Nat) : WE := fun ρ Q => ρ[i]? = some .bx ∧ ∀ n : Int, 0 ≤ n → Q (.int n) ρ
def wBx0 (i : Nat) : WE := fun ρ Q => ρ[i]? = some .bx ∧ ∀ ns : List Int, Q (.lst (ns.map D.int)) ρ
theorem snd_bx1 {i : Nat} : Snd (cy X) (tOp (rIxU X.K) (tVar i) (tC (.int 1))) (wBx1 i) := fun {b ρ σ F M M0} R Qd Q hw k => by
  obtain ⟨x, da, ns, n, h1, h2, h3, h4, h5, h6⟩ := R.bx hw.1
  exact ⟨.ref x, h2, .inl (.inl ⟨x, _, 1, .int n, rfl, rfl, SqL.of h3, rfl, k _ ρ _ F M M0 (hw.2 n h5) R.aft .of_int⟩)⟩
theorem snd_bx0 {i : Nat} : Snd (cy X) (tOp (rIxU X.K) (tVar i) (tC (.int 0))) (wBx0 i) := fun {b ρ σ F M M0} R Qd Q hw k => by
  obtain ⟨x, da, ns, n, h1, h2, h3, h4, h5, h6⟩ := R.bx hw.1
  refine ⟨.ref x, h2, .inl (.inl ⟨x, _, 0, .ref da, rfl, rfl, SqL.of h3, rfl, k _ ρ _ F M M0 (hw.2 ns) R.aft ?_⟩)⟩
  simp only [Dr]
  exact ⟨da, _, rfl, h4, .of_ints ns⟩
theorem de_bx1 (i : Nat) {x : Str} {np p1 pos : Pos} {j} (hu : X.A.units + 1 < cLine) (hN : X.N[i]? = some x := by rfl) (hv : Vis X.env.scope x := by first | exact Or.inl rfl | exact Or.inr (Or.inl rfl) | exact Or.inr (Or.inr rfl)) (hd : (x == ("__debug__" : Str)) = false := by decide)
    (hcd : (x == ("__classdict__" : Str)) = false := by decide) : DE X (.Subscript (.Name x np) (.Constant (.int 1) j p1) pos) (tOp (rIxU X.K) (tVar i) (tC (.int 1))) (wBx1 i) :=
  ⟨pe_ix (ix_U hu) (pe_var hN hv hd hcd) pe_int (fun _ _ => rfl), snd_bx1⟩
theorem de_bx0 (i : Nat) {x : Str} {np p1 pos : Pos} {j} (hu : X.A.units + 1 < cLine) (hN : X.N[i]? = some x := by rfl) (hv : Vis X.env.scope x := by first | exact Or.inl rfl | exact Or.inr (Or.inl rfl) | exact Or.inr (Or.inr rfl)) (hd : (x == ("__debug__" : Str)) = false := by decide)
    (hcd : (x == ("__classdict__" : Str)) = false := by decide) : DE X (.Subscript (.Name x np) (.Constant (.int 0) j p1) pos) (tOp (rIxU X.K) (tVar i) (tC (.int 0))) (wBx0 i) :=
  ⟨pe_ix (ix_U hu) (pe_var hN hv hd hcd) pe_int (fun _ _ => rfl), snd_bx0⟩
/-- box[1] = e -/
def wBxPut (i : Nat) (w : WE) : WS := fun ρ E => w ρ fun d ρ1 => ρ1[i]? = some .bx ∧ match d with
  | .int n => 0 ≤ n ∧ E.nx ρ1
  | _ => False
theorem ds_bxPut (i : Nat) {x : Str} {np p1 sp pos : Pos} {j} (he : DE X e te w) (hs : swapsWithSole [.Subscript (.Name x np) (.Constant (.int 1) j p1) sp] e pos.line X.env = pure false := by rfl) (hw : swappedStores [.Subscript (.Name x np) (.Constant (.int 1) j p1) sp] e X.env = pure none := by rfl)
    (h1 : (assignEach [.Subscript (.Name x np) (.Constant (.int 1) j p1) sp] X.env).map (·.2) = [assign (.Subscript (.Name x np) (.Constant (.int 1) j p1) sp) X.env] := by rfl)
    (hN : X.N[i]? = some x := by rfl) (hv : Vis X.env.scope x := by first | exact Or.inl rfl | exact Or.inr (Or.inl rfl) | exact Or.inr (Or.inr rfl)) (hd : (x == ("__debug__" : Str)) = false := by decide)
    (hcd : (x == ("__classdict__" : Str)) = false := by decide) : DS X (.Assign [.Subscript (.Name x np) (.Constant (.int 1) j p1) sp] e pos) (tAsg te (gSub (tVar i) (tC (.int 1)) rSetL)) (wBxPut i w) :=
  ⟨ps_asg he.pe (pg_sub (pe_var hN hv hd hcd) pe_int set_list) hs hw h1, fun {b ρ σ F M M0} R E Dn hw f => by
    refine he.sn R _ _ hw fun d ρ1 v F1 M1 M01 q A r => ?_
    obtain ⟨e1, q⟩ := q
    cases d with
    | int m =>
      obtain ⟨x, da, ns, n, h1, h2, h3, h4, h5, h6, h7⟩ := A.rel.bx e1
      refine ⟨.ref x, h2, x, _, 1, 1, rfl, rfl, h3, rfl, ?_⟩
      rw [r.int_of]
      show Dn.nx σ (upd (HH F1 M1) x (.lst [.ref da, .int m]))
      rw [hh_updM]
      have fx := A.rel.dj _ _ h7
      refine f.nx ρ1 σ F1 _ (upd M01 x (.lst [.ref da, .int m])) q.2 A.same ⟨A.rel.dj.updM fx, A.rel.env.frame (.inr h6), fun y hy => ?_⟩ (A.mr.trans fun y hy => ?_)
      · have ey : y = x := by rw [h1] at hy; exact (Option.some.inj hy).symm
        subst ey
        exact ⟨da, ns, m, upd_same, h4, q.1⟩
      · refine upd_ne fun ey => hy ?_
        rw [ey]; exact h1
    | _ => exact q.elim⟩
/-- the draw: if at < len(box[0]): return int(box[0][at]) % many -/
def wDraw (i j k : Nat) : WS := fun ρ E => ρ[i]? = some .bx ∧ ∃ a n : Int, ρ[j]? = some (.sh (.int a)) ∧ ρ[k]? = some (.sh (.int n)) ∧ 0 ≤ a ∧ 0 < n ∧ (∀ r : Int, 0 ≤ r → r < n → E.rt (.int r) ρ) ∧ E.nx ρ
abbrev tBx0 (X : Cx) (i : Nat) : TE := tOp (rIxU X.K) (tVar i) (tC (.int 0))
abbrev tDraw (X : Cx) (i j k : Nat) : TS := tIfS (tTest (tOp (rI0 fun i j => .bl (decide (i < j))) (tVar j) (tCB (rLenU X.K) (tCons (tBx0 X i) tNil)))) (tRet (tOp (rI (fun _ j => 0 < j) fun i j => .int (i % j))
      (tCB (fun xs H Q => (∃ i, xs = [V.int i] ∧ Q (.int i) H) ∨ ∃ k, xs = [V.bl k] ∧ Q (.int (if k then 1 else 0)) H) (tCons (tOp (rIxU X.K) (tBx0 X i) (tVar j)) tNil)) (tVar k))) tNext
theorem ds_drawIf (i j k : Nat) {st : Stmt} {w0 : WS} (h : DS X st (tDraw X i j k) w0) : DS X st (tDraw X i j k) (wDraw i j k) := ⟨h.ps, fun {b ρ σ F M M0} R E Dn hw f => by
  obtain ⟨e1, at', n, e2, e3, h0, hn, q1, q2⟩ := hw
  obtain ⟨x, da, ns, n1, b1, b2, b3, b4, b5, b6, b7⟩ := R.bx e1
  obtain ⟨va, a1, a2⟩ := R.env.get e2
  obtain ⟨vn, n1', n2⟩ := R.env.get e3
  rw [a2.int_of] at a1
  rw [n2.int_of] at n1'
  have hda := SqL.of (K := X.K) (R.dj.f b4)
  have bx0 : ∀ Q : VK, Q (.ref da) (HH F M) → tBx0 X i σ (HH F M) Q := fun Q q => ⟨.ref x, b2, .inl (.inl ⟨x, _, 0, .ref da, rfl, rfl, SqL.of b3, rfl, q⟩)⟩
  refine ⟨.int at', a1, ?_⟩
  refine bx0 _ (.inl ⟨_, ns.length, rfl, .inl ⟨_, hda, by rw [List.length_map]⟩, at', _, rfl, rfl, _, rfl, ?_⟩)
  by_cases hc : at' < ns.length
  · show (if decide (at' < (ns.length : Int)) = true then _ else _)
    rw [if_pos (decide_eq_true hc)]
    refine bx0 _ ⟨.int at', a1, ?_⟩
    have hl : at'.toNat < ns.length := by omega
    refine .inl (.inl ⟨da, _, at', .int ns[at'.toNat], rfl, rfl, hda, ?_, .inl ⟨_, rfl, .int n, n1', _, n, rfl, rfl, hn, ?_⟩⟩)
    · unfold atI ixN
      rw [if_pos h0, if_pos (by rw [List.length_map]; exact hc)]
      show (ns.map V.int)[at'.toNat]? = _
      rw [List.getElem?_map, List.getElem?_eq_getElem hl]; rfl
    · exact f.rt _ _ ρ σ F M M0 (q1 _ (Int.emod_nonneg _ (by omega)) (Int.emod_lt_of_pos _ hn)) (Same.refl _) R (MR.refl _ _) .of_int
  · show (if decide (at' < (ns.length : Int)) = true then _ else _)
    rw [if_neg (by rw [decide_eq_false hc]; exact Bool.false_ne_true)]
    exact f.nx ρ σ F M M0 q2 (Same.refl _) R (MR.refl _ _)⟩
end

/-! ### the law -/
section
variable {c : Cy} {b : Option Addr} {F M0 : Hp}
theorem RelE.setBx {x : Addr} (q : b = some x) : ∀ {ρ : List Sl} {σ : L2.St} {M : Hp} {i : Nat} {sl : Sl}, RelE c b F M0 ρ σ M → ρ[i]? = some sl → ¬ isOwn sl → RelE c b F M0 (ρ.set i .bx) (σ.set i (some (.ref x))) M
  | [], σ, M, i, sl, h, e, _ => by simp at e
  | s1 :: ρ, σ, M, 0, sl, h, e, hs => by
    obtain ⟨v, σr, e1, h⟩ := h
    simp at e; subst e; subst e1
    refine ⟨some (.ref x), σr, rfl, ⟨x, q, rfl⟩, ?_⟩
    cases s1 <;> first | exact h | exact h.2 | exact (hs trivial).elim
  | s1 :: ρ, σ, M, i + 1, sl, h, e, hs => by
    obtain ⟨v, σr, e1, h⟩ := h
    subst e1
    have e' : ρ[i]? = some sl := by simpa using e
    refine ⟨v, σr.set i (some (.ref x)), rfl, ?_⟩
    have own : ∀ s2 : Sl, (∃ a o M', v = some (.ref a) ∧ ObR c F s2 o ∧ F a = none ∧ M' a = none ∧ M = upd M' a o ∧ RelE c b F M0 ρ σr M') →
        ∃ a o M', v = some (.ref a) ∧ ObR c F s2 o ∧ F a = none ∧ M' a = none ∧ M = upd M' a o ∧ RelE c b F M0 (ρ.set i .bx) (σr.set i (some (.ref x))) M' := fun s2 h => by
      obtain ⟨a, o, M', k1, k2, k3, k4, k5, t⟩ := h
      exact ⟨a, o, M', k1, k2, k3, k4, k5, RelE.setBx q t e' hs⟩
    cases s1 with
    | no => exact RelE.setBx q h e' hs
    | sh d => exact ⟨h.1, RelE.setBx q h.2 e' hs⟩
    | bx => exact ⟨h.1, RelE.setBx q h.2 e' hs⟩
    | ol ds => exact own (.ol ds) h
    | ok ks ds => exact own (.ok ks ds) h
    | ot ks ds => exact own (.ot ks ds) h
    | oi n fs ds => exact own (.oi n fs ds) h
    | od y t0 =>
      obtain ⟨Mo, M', k1, k2, k3, k4, t⟩ := h
      exact ⟨Mo, M', k1, k2, k3, k4, RelE.setBx q t e' hs⟩
theorem ints_ref {ns : List Int} {x : Addr} {r : List V} (h : ns.map V.int = .ref x :: r) : False := by
  cases ns with
  | nil => cases h
  | cons n ns => cases h
end
section
variable {P : Program} {w : World} {K : PySem.W.Frag} {mg : Str → Option Value} {base : Heap}
def scrD (ns : List Int) : Sl := .sh (.scr (ns.map D.int))
/-- THE LAW: its first statement makes the box; the rest has it -/
theorem law_boxE {x0 qual x : Str} {st : Stmt} {f : Addr} {fd : FuncData} {N : List Str} {k i n : Nat} (FF : Fun K x0 qual st f fd) (S : FnScope N [x] (defScope st)) (hN : N.length = n + 1) (hi : i < n + 1) {y : Str} {py spos : Pos} {e0 : Expr} {rest : List Stmt} (hsp : defBody st = .Assign [.Name y py] e0 spos :: rest)
    (hbody : ∀ (cdv : Value) (A : Around) (outer : List Env) (s : Shared) (H : Hp), Room k (A.deeper (envOfC qual (defScope st) s.heap.objs.size f cdv)) → (A.deeper (envOfC qual (defScope st) s.heap.objs.size f cdv)).guards = some [] →
      ∃ (t0 : TE) (w0 : WE) (t1 : TS) (w1 : WS), DE (cxOf CX0 P w K mg base N qual (defScope st) f cdv A outer s H E0).nox e0 t0 w0 ∧ DSs (cxOf CX0 P w K mg base N qual (defScope st) f cdv A outer s H E0).nox rest t1 w1 ∧
        (PE (cxOf CX0 P w K mg base N qual (defScope st) f cdv A outer s H E0).nox e0 t0 → PSs (cxOf CX0 P w K mg base N qual (defScope st) f cdv A outer s H E0).nox rest t1 →
          PSs (cxOf CX0 P w K mg base N qual (defScope st) f cdv A outer s H E0).nox (defBody st) (tSeq (tAsg t0 (gName i)) t1)) ∧
        (∀ ns : List Int, w0 (scrD ns :: List.replicate n .no) fun d ρ => ρ = scrD ns :: List.replicate n .no ∧ ∃ ms : List Int, d = .lst [.lst (ms.map D.int), .int 0]) ∧
        ∀ ns : List Int, w1 ((scrD ns :: List.replicate n .no).set i .bx) { nx := fun _ => False, rt := fun d _ => d = .bl true }) :
    FnG P w K mg base (k + 1) f fd [x] (spLaw K) := by
  refine fnG_of FF S (fun vs H Q E h => ?_) (fun cdv A outer s H vs Q hr hgd h => ?_)
  · obtain ⟨a, ns, rfl, _⟩ := h; rfl
  · obtain ⟨a, ns, rfl, hS, hl, hQ⟩ := h
    obtain ⟨t0, w0, t1, w1, h0, h1, hp, p0, p1⟩ := hbody cdv A outer s H hr hgd
    refine ⟨_, hp h0.pe h1.ps, ?_⟩
    have eH : H = HH H (fun _ => none) := funext fun y => (hh_n rfl).symm
    have eS : startD N [scrD ns] = scrD ns :: List.replicate n .no := by unfold startD; rw [hN]; rfl
    have ar : ArgsD ⟨K, mg⟩ none H [scrD ns] [.ref a] := ⟨_, _, rfl, by show Dr _ _ _ (.scr _); simp only [Dr]; exact ⟨a, _, rfl, hS, .of_ints ns⟩, rfl⟩
    have R := start_rel (N := N) (K := K) (mg := mg) (b := none) (F := H) (M := fun _ => none) (fun x u q => nomatch q) (fun x q => nomatch q) ar
    rw [eS] at R
    show t0 (L2.start N [.ref a]) H _
    rw [eH]
    refine h0.sn R _ _ (p0 ns) fun d ρ' v F' M' M0' q AA r => ?_
    obtain ⟨rfl, ms, rfl⟩ := q
    simp only [Dr] at r
    obtain ⟨x, us, rfl, hx, r⟩ := r
    obtain ⟨u1, us, rfl, r1, r⟩ := r.cons_iff
    obtain ⟨u2, us, rfl, r2, r⟩ := r.cons_iff
    have eu := r.nil_iff
    subst eu
    have eu2 := r2.int_of
    subst eu2
    simp only [Dr] at r1
    obtain ⟨da, uu, rfl, hda, r1⟩ := r1
    have euu := r1.ints
    subst euu
    have eM0 : M0' = fun _ => none := funext fun y => AA.mr y (fun z => nomatch z)
    have key : M' = M0' ∧ SqL K F' a (ns.map V.int) := by
      obtain ⟨v0, σr, e1, ⟨⟨y, e2, hy⟩, t⟩⟩ := AA.rel.env
      have nos : ∀ (m : Nat) (τ : L2.St) (N1 : Hp), RelE ⟨K, mg⟩ none F' M0' (List.replicate m .no) τ N1 → N1 = M0' := fun m => by
        induction m with
        | zero => intro τ N1 h; exact h.2
        | succ m ih => intro τ N1 h; obtain ⟨_, τr, _, h⟩ := h; exact ih τr N1 h
      refine ⟨nos n σr M' t, ?_⟩
      have e3 : L2.start N [.ref a] = some (.ref a) :: List.replicate n none := by unfold L2.start; rw [hN]; rfl
      rw [e3] at e1
      cases e1
      cases e2
      simp only [Dr] at hy
      obtain ⟨a', vs', ea, hs, hr'⟩ := hy
      cases ea
      rw [hr'.ints] at hs
      exact hs
    obtain ⟨eM', hS'⟩ := key
    rw [eM0] at eM'
    have ndx : da ≠ x := fun z => by
      rw [z, hx] at hda
      cases hda' : ms with
      | nil => rw [hda'] at hda; cases hda
      | cons m ms => rw [hda'] at hda; cases hda
    have eH2 : HH F' M' = HH (del F' x) (upd (fun _ => none) x (.lst [.ref da, .int 0])) := by
      rw [eM', ← hh_updM]
      funext y
      by_cases z : y = x
      · subst z; rw [upd_same, hh_n rfl, hx]
      · rw [upd_ne z, hh_n rfl, hh_n rfl, del_ne z]
    show t1 _ ((L2.start N [.ref a]).set i (some (.ref x))) (HH F' M')
    rw [eH2]
    have hS2 : SqL K (del F' x) a (ns.map V.int) := by
      rcases hS' with q | q
      · rcases q with q | ⟨o, q⟩
        · refine .inl (.inl ?_)
          rw [del_ne fun z => ?_]
          · exact q
          · rw [z, hx] at q
            have q := Option.some.inj q
            injection q with q
            exact ints_ref q.symm
        · refine .inl (.inr ⟨o, ?_⟩)
          rw [del_ne fun z => ?_]
          · exact q
          · rw [z, hx] at q; cases q
      · exact .inr q
    have ar2 : ArgsD ⟨K, mg⟩ (some x) (del F' x) [scrD ns] [.ref a] := ⟨_, _, rfl, by show Dr _ _ _ (.scr _); simp only [Dr]; exact ⟨a, _, rfl, hS2, .of_ints ns⟩, rfl⟩
    have R2 := start_rel (N := N) (K := K) (mg := mg) (b := some x) (F := del F' x) (M := upd (fun _ => none) x (.lst [.ref da, .int 0])) (fun y u q => by
        by_cases z : y = x
        · subst z; exact del_same
        · rw [upd_ne z] at q; cases q) (fun y q => by
        have z : x = y := Option.some.inj q
        subst z
        exact ⟨da, ms, 0, upd_same, by rw [del_ne ndx]; exact hda, Int.le_refl 0⟩) ar2
    rw [eS] at R2
    have hns : ∃ sl, (scrD ns :: List.replicate n Sl.no)[i]? = some sl ∧ ¬ isOwn sl := by
      cases i with
      | zero => exact ⟨_, rfl, fun z => z⟩
      | succ j => exact ⟨.no, by rw [List.getElem?_cons_succ, List.getElem?_replicate, if_pos (by omega)], fun z => z⟩
    obtain ⟨sl, e1, e2⟩ := hns
    refine h1.sn ⟨R2.dj, R2.env.setBx (x := x) rfl e1 e2, R2.box⟩ _ _ (p1 ns) ⟨fun _ _ _ _ _ z => z.elim, fun _ _ _ _ _ z => z.elim, fun _ _ _ _ _ z => z.elim, fun d v ρ5 σ5 F' M' M0' e s' R' m' r => ?_⟩
    subst e
    rw [r.bl_of]
    exact hQ _
end
end DL

/-! Plain facts: sizes of shown data, loops over data, cuts. No program in sight. -/
namespace DL
open PySem PySem.Spec PyProof.Rows L2

/-! ### data that repr shows -/
mutual
/-- small leaves -/
def smD : D → Bool
  | .non => true
  | .bl _ => true
  | .int i => decide (-999999999999 ≤ i) && decide (i ≤ 999999999999)
  | .str s => PyData.strOk s
  | .lst xs => smDL xs
  | .tup xs => smDL xs
  | _ => false
def smDL : List D → Bool
  | [] => true
  | d :: ds => smD d && smDL ds
end
mutual
def szD : D → Nat
  | .int _ => 41
  | .str s => s.cps.size
  | .lst xs => szDL xs
  | .tup xs => szDL xs
  | _ => 0
def szDL : List D → Nat
  | [] => 0
  | d :: ds => szD d + 1 + szDL ds
end
theorem log2_small {i : Int} (h1 : -999999999999 ≤ i) (h2 : i ≤ 999999999999) : i.natAbs.log2 ≤ 40 := by
  have h : i.natAbs < 2 ^ 41 := by
    have e : (2 : Nat) ^ 41 = 2199023255552 := by decide
    omega
  rcases Nat.eq_zero_or_pos i.natAbs with z | z
  · rw [z]; decide
  · have := (Nat.log2_lt (by omega)).mpr h
    omega
mutual
theorem smD_all : ∀ (d : D), smD d = true → okD d = true ∧ (toPy d).showable = true ∧ (toPy d).intsShort 13 = true ∧ (toPy d).weight ≤ szD d
  | .non, _ => ⟨by simp only [okD], by simp only [toPy, PyData.showable], by simp only [toPy, PyData.intsShort], by simp only [toPy, PyData.weight, szD]; omega⟩
  | .bl _, _ => ⟨by simp only [okD], by simp only [toPy, PyData.showable], by simp only [toPy, PyData.intsShort], by simp only [toPy, PyData.weight, szD]; omega⟩
  | .int i, h => by
    simp only [smD, Bool.and_eq_true, decide_eq_true_eq] at h
    have l := log2_small h.1 h.2
    refine ⟨by simp only [okD], by simp only [toPy, PyData.showable, decide_eq_true_eq]; omega, by
      simp only [toPy]
      exact intsShort_of_noneOrInC (lo := -999999999999) (hi := 999999999999) (by decide) (by decide) _ (by simp only [noneOrInC, Bool.and_eq_true, Bool.not_eq_true', decide_eq_false_iff_not]; omega), ?_⟩
    simp only [toPy, PyData.weight, szD]
    split <;> omega
  | .str s, h => ⟨by simpa only [okD, smD] using h, by simp only [toPy, PyData.showable], by simp only [toPy, PyData.intsShort], by simp only [toPy, PyData.weight, szD]; omega⟩
  | .lst xs, h => by
    have q := smDL_all xs (by simpa only [smD] using h)
    exact ⟨by simpa only [okD] using q.1, by simpa only [toPy, PyData.showable] using q.2.1, by simpa only [toPy, PyData.intsShort] using q.2.2.1, by simpa only [toPy, PyData.weight, szD] using q.2.2.2⟩
  | .tup xs, h => by
    have q := smDL_all xs (by simpa only [smD] using h)
    exact ⟨by simpa only [okD] using q.1, by simpa only [toPy, PyData.showable] using q.2.1, by simpa only [toPy, PyData.intsShort] using q.2.2.1, by simpa only [toPy, PyData.weight, szD] using q.2.2.2⟩
  | .scr _, h => by simp [smD] at h
  | .dk _ _, h => by simp [smD] at h
  | .dt _ _, h => by simp [smD] at h
  | .ins _ _ _, h => by simp [smD] at h
theorem smDL_all : ∀ (ds : List D), smDL ds = true → okDL ds = true ∧ PyData.showableAll (toPyL ds) = true ∧ PyData.intsShortAll 13 (toPyL ds) = true ∧ PyData.weightAll (toPyL ds) ≤ szDL ds
  | [], _ => ⟨by simp only [okDL], by simp only [toPyL, PyData.showableAll], by simp only [toPyL, PyData.intsShortAll], by simp only [toPyL, PyData.weightAll, szDL]; omega⟩
  | d :: ds, h => by
    simp only [smDL, Bool.and_eq_true] at h
    have q1 := smD_all d h.1
    have q2 := smDL_all ds h.2
    refine ⟨by simp only [okDL, Bool.and_eq_true]; exact ⟨q1.1, q2.1⟩, by simp only [toPyL, PyData.showableAll, Bool.and_eq_true]; exact ⟨q1.2.1, q2.2.1⟩, by simp only [toPyL, PyData.intsShortAll, Bool.and_eq_true]; exact ⟨q1.2.2.1, q2.2.2.1⟩, ?_⟩
    have := q1.2.2.2
    have := q2.2.2.2
    simp only [toPyL, PyData.weightAll, szDL]
    omega
end
theorem Shw.of {d : D} (h : smD d = true) (hd : depD d ≤ 60) (hz : szD d ≤ 1048576) : Shw d := by
  have q := smD_all d h
  refine ⟨q.1, hd, q.2.1, ?_⟩
  exact PyData.shown_fits (B := 13) (by decide) (by decide) (PyData.leavesShort_of_canLay0 13 _ (okD_lay d q.1) q.2.2.1) (by
    have := q.2.2.2
    have e : (2 : Nat) ^ 20 = 1048576 := by decide
    omega)
theorem smDL_of {ds : List D} (h : ∀ d ∈ ds, smD d = true) : smDL ds = true := by
  induction ds with
  | nil => simp only [smDL]
  | cons d ds ih =>
    simp only [smDL, Bool.and_eq_true]
    exact ⟨h d List.mem_cons_self, ih fun x hx => h x (List.mem_cons_of_mem _ hx)⟩
theorem szDL_of {ds : List D} {B : Nat} (h : ∀ d ∈ ds, szD d ≤ B) : szDL ds ≤ ds.length * (B + 1) := by
  induction ds with
  | nil => simp only [szDL]; omega
  | cons d ds ih =>
    have h1 := h d List.mem_cons_self
    have h2 := ih fun x hx => h x (List.mem_cons_of_mem _ hx)
    simp only [szDL, List.length_cons, Nat.add_mul]
    omega
theorem depDL_of {ds : List D} {B : Nat} (h : ∀ d ∈ ds, depD d ≤ B) : depDL ds ≤ B := by
  induction ds with
  | nil => simp only [depDL]; omega
  | cons d ds ih =>
    have h1 := h d List.mem_cons_self
    have h2 := ih fun x hx => h x (List.mem_cons_of_mem _ hx)
    simp only [depDL]
    omega
theorem okDL_of {ds : List D} (h : ∀ d ∈ ds, okD d = true) : okDL ds = true := by
  induction ds with
  | nil => simp only [okDL]
  | cons d ds ih =>
    simp only [okDL, Bool.and_eq_true]
    exact ⟨h d List.mem_cons_self, ih fun x hx => h x (List.mem_cons_of_mem _ hx)⟩
theorem shD_ints (ns : List Int) : shD (.lst (ns.map D.int)) := by
  refine ⟨?_, ?_⟩
  · simp only [okD]
    refine okDL_of fun d hd => ?_
    obtain ⟨n, _, rfl⟩ := List.mem_map.mp hd
    simp only [okD]
  · simp only [depD]
    have := depDL_of (ds := ns.map D.int) (B := 0) fun d hd => by
      obtain ⟨n, _, rfl⟩ := List.mem_map.mp hd
      simp only [depD]; omega
    omega
theorem eqDL_ints : ∀ (ns ms : List Int), eqDL (ns.map D.int) (ms.map D.int) = decide (ns = ms)
  | [], [] => by simp [eqDL]
  | [], m :: ms => by simp [eqDL]
  | n :: ns, [] => by simp [eqDL]
  | n :: ns, m :: ms => by
    simp only [List.map_cons, eqDL, eqD, eqDL_ints ns ms]
    by_cases h : n = m
    · subst h; simp
    · simp [h]
theorem dEqB_ints {g : Bool → Bool} {ns ms : List Int} {Q : D → Prop} (q : Q (.bl (g (decide (ns = ms))))) : dEqB g (.lst (ns.map D.int)) (.lst (ms.map D.int)) Q := by
  refine ⟨⟨shD_ints ns, shD_ints ms⟩, ?_⟩
  simp only [eqD, eqDL_ints]
  exact q

/-! ### places, cuts -/
theorem atI_nat {α : Type} {xs : List α} {i : Int} {d : α} (h0 : 0 ≤ i) (h : xs[i.toNat]? = some d) : atI xs i = some d := by
  have hl := (List.getElem?_eq_some_iff.mp h).1
  unfold atI ixN
  rw [if_pos h0, if_pos (by omega)]
  exact h
theorem atI_map {α β : Type} {f : α → β} {xs : List α} {i : Int} (h0 : 0 ≤ i) (h1 : i < xs.length) : ∃ x, x ∈ xs ∧ xs[i.toNat]? = some x ∧ atI (xs.map f) i = some (f x) := by
  have hl : i.toNat < xs.length := by omega
  exact ⟨xs[i.toNat], List.getElem_mem _, List.getElem?_eq_getElem hl, atI_nat h0 (by rw [List.getElem?_map, List.getElem?_eq_getElem hl]; rfl)⟩
theorem sIx_pos {n d : Nat} {i : Int} (h : 0 ≤ i) : HT.sIx n d (some i) = min i.toNat n := by
  show (if i < 0 then (i + (n : Int)).toNat else min i.toNat n) = _
  rw [if_neg (by omega)]
theorem cutD_to {α : Type} (xs : List α) {n : Int} (h : 0 ≤ n) : cutD xs none (some n) = xs.take n.toNat := by
  unfold cutD
  rw [sIx_pos h]
  show (xs.drop 0).take (min n.toNat xs.length - 0) = _
  rw [List.drop_zero, Nat.sub_zero]
  rcases Nat.le_total n.toNat xs.length with q | q
  · rw [Nat.min_eq_left q]
  · rw [Nat.min_eq_right q, List.take_length, List.take_of_length_le q]
theorem cutD_from {α : Type} (xs : List α) {n : Int} (h : 0 ≤ n) : cutD xs (some n) none = xs.drop n.toNat := by
  unfold cutD
  rw [sIx_pos h]
  show ((xs.drop (min n.toNat xs.length)).take (xs.length - min n.toNat xs.length)) = _
  rcases Nat.le_total n.toNat xs.length with q | q
  · rw [Nat.min_eq_left q, List.take_of_length_le (by rw [List.length_drop]; omega)]
  · rw [Nat.min_eq_right q, List.drop_length, List.drop_eq_nil_of_le q]; simp
theorem cutD_mid {α : Type} (xs : List α) {i j : Int} (h0 : 0 ≤ i) (h1 : i ≤ j) (h2 : j ≤ xs.length) : cutD xs (some i) (some j) = (xs.drop i.toNat).take (j - i).toNat := by
  unfold cutD
  rw [sIx_pos h0, sIx_pos (by omega), Nat.min_eq_left (by omega), Nat.min_eq_left (by omega)]
  congr 1
  omega

/-! ### loops -/
theorem wForL_rule {wg : WG} {wb : WS} {E : EnD} (I : List D → List Sl → Prop) (step : ∀ d r ρ, I (d :: r) ρ → ∀ K : List Sl → Prop, (∀ ρ', I r ρ' → K ρ') → wg d ρ fun ρ1 => wb ρ1 { nx := K, ct := K, bk := E.nx, rt := E.rt }) (fin : ∀ ρ, I [] ρ → E.nx ρ) :
    ∀ ds ρ, I ds ρ → wForL wg wb ds ρ E
  | [], ρ, h => fin ρ h
  | d :: ds, ρ, h => step d ds ρ h (fun ρ2 => wForL wg wb ds ρ2 E) fun ρ' h' => wForL_rule I step fin ds ρ' h'
theorem wWhile_rule {wc : WT} {wb : WS} {E : EnD} {ρ : List Sl} (W : Nat → List Sl → Prop) (m0 : Nat) (h0 : W m0 ρ)
    (turn : ∀ m ρ, W m ρ → wc ρ fun k ρ1 => (k = true → wb ρ1 { nx := fun ρ2 => ∃ m', m' < m ∧ W m' ρ2, ct := fun ρ2 => ∃ m', m' < m ∧ W m' ρ2, bk := E.nx, rt := E.rt }) ∧ (k = false → E.nx ρ1)) : wWhile wc wb ρ E := by
  refine ⟨W, ⟨m0, h0⟩, fun m ρ' h => ?_⟩
  have fix : ∀ (A B : List Sl → Prop), (fun (k : Bool) (ρ2 : List Sl) => (k = true → A ρ2) ∧ (k = false → B ρ2)) = fun (k : Bool) (ρ2 : List Sl) => match k with | true => A ρ2 | false => B ρ2 := fun A B => by funext k ρ2; cases k <;> simp
  have go := turn m ρ' h
  rw [fix] at go
  exact go
/-- what a comprehension may yield -/
def Outs (R : D → Option D → Prop) : List D → List D → Prop
  | [], ys => ys = []
  | d :: ds, ys => (∃ y r, R d (some y) ∧ ys = y :: r ∧ Outs R ds r) ∨ (R d none ∧ Outs R ds ys)
theorem wLcL_rule {vs : List Nat} {wg : WG} {wt : WT} {we : WE} {ρ : List Sl} (S : D → Prop) (R : D → Option D → Prop)
    (step : ∀ d, S d → ∀ (Kt : D → List Sl → Prop) (Kf : List Sl → Prop), (∀ y, R d (some y) → Kt y ρ) → (R d none → Kf ρ) →
      wg d ρ fun ρ1 => wt ρ1 fun k ρ2 => (k = true → we ρ2 fun y ρ3 => noOwnB ρ3 vs = true ∧ Kt y (wipeD ρ3 vs)) ∧ (k = false → noOwnB ρ2 vs = true ∧ Kf (wipeD ρ2 vs))) : ∀ (ds acc : List D) (Q : List D → List Sl → Prop), (∀ d ∈ ds, S d) → (∀ ys, Outs R ds ys → Q (acc ++ ys) ρ) → wLcL vs wg wt we ds ρ acc Q
  | [], acc, Q, _, h => by
    have := h [] rfl
    rw [List.append_nil] at this
    exact this
  | d :: ds, acc, Q, hS, h => by
    have fix : ∀ (A B : List Sl → Prop), (fun (k : Bool) (ρ2 : List Sl) => (k = true → A ρ2) ∧ (k = false → B ρ2)) = fun (k : Bool) (ρ2 : List Sl) => match k with | true => A ρ2 | false => B ρ2 := fun A B => by funext k ρ2; cases k <;> simp
    have go := step d (hS d List.mem_cons_self) (fun y ρ' => wLcL vs wg wt we ds ρ' (acc ++ [y]) Q) (fun ρ' => wLcL vs wg wt we ds ρ' acc Q) (fun y hy => wLcL_rule S R step ds (acc ++ [y]) Q (fun x hx => hS x (List.mem_cons_of_mem _ hx)) fun ys hys => by
        rw [List.append_assoc]
        exact h (y :: ys) (.inl ⟨y, ys, hy, rfl, hys⟩))
      (fun hy => wLcL_rule S R step ds acc Q (fun x hx => hS x (List.mem_cons_of_mem _ hx)) fun ys hys => h ys (.inr ⟨hy, hys⟩))
    simp only [fix] at go
    exact go
theorem Outs.map {g : D → D} : ∀ {ds ys : List D}, Outs (fun d o => o = some (g d)) ds ys → ys = ds.map g
  | [], ys, h => h
  | d :: ds, ys, h => by
    rcases h with ⟨y, r, e, rfl, h⟩ | ⟨e, _⟩
    · rw [Outs.map h, Option.some.inj e]; rfl
    · cases e
theorem Outs.filter {p : D → Bool} : ∀ {ds ys : List D}, Outs (fun d o => o = if p d = true then some d else none) ds ys → ys = ds.filter p
  | [], ys, h => h
  | d :: ds, ys, h => by
    rcases h with ⟨y, r, e, rfl, h⟩ | ⟨e, h⟩
    · by_cases z : p d = true
      · rw [if_pos z] at e
        rw [List.filter_cons_of_pos z, Outs.filter h, Option.some.inj e]
      · rw [if_neg z] at e; cases e
    · by_cases z : p d = true
      · rw [if_pos z] at e; cases e
      · rw [List.filter_cons_of_neg z, Outs.filter h]
/-- each turn yields one thing of the kind T -/
theorem Outs.all {T : D → Prop} : ∀ {ds ys : List D}, Outs (fun _ o => ∃ y, o = some y ∧ T y) ds ys → ys.length = ds.length ∧ ∀ y ∈ ys, T y
  | [], ys, h => by rw [show ys = [] from h]; exact ⟨rfl, fun y hy => by cases hy⟩
  | d :: ds, ys, h => by
    rcases h with ⟨y, r, ⟨y', e, t⟩, rfl, h⟩ | ⟨⟨y', e, t⟩, _⟩
    · cases e
      obtain ⟨h1, h2⟩ := Outs.all h
      exact ⟨by rw [List.length_cons, List.length_cons, h1], fun z hz => by
        rcases List.mem_cons.mp hz with rfl | hz
        · exact t
        · exact h2 z hz⟩
    · cases e
theorem rangeD_length (lo hi : Int) : (rangeD lo hi).length = (hi - lo).toNat := by unfold rangeD; rw [List.length_map, List.length_range]
theorem rangeD_mem {lo hi : Int} {d : D} (h : d ∈ rangeD lo hi) : ∃ i : Int, d = .int i ∧ lo ≤ i ∧ i < hi := by
  unfold rangeD at h
  obtain ⟨i, hi, rfl⟩ := List.mem_map.mp h
  have := List.mem_range.mp hi
  exact ⟨_, rfl, by omega, by omega⟩
/-- a list whose things are all ints -/
theorem ints_of : ∀ {ds : List D} {P : Int → Prop}, (∀ d ∈ ds, ∃ i, d = .int i ∧ P i) → ∃ ns : List Int, ds = ns.map D.int ∧ (∀ n ∈ ns, P n) ∧ ns.length = ds.length
  | [], P, _ => ⟨[], rfl, (fun n hn => by cases hn), rfl⟩
  | d :: ds, P, h => by
    obtain ⟨i, rfl, hi⟩ := h d List.mem_cons_self
    obtain ⟨ns, rfl, h2, h3⟩ := ints_of (ds := ds) (P := P) fun x hx => h x (List.mem_cons_of_mem _ hx)
    refine ⟨i :: ns, rfl, fun n hn => ?_, by simp⟩
    rcases List.mem_cons.mp hn with rfl | hn
    · exact hi
    · exact h2 n hn

/-! ### the readings, applied -/
section
variable {ρ : List Sl} {E : EnD} {w1 w2 wb wt' : WS} {wc t u : WT} {w wa wb' wc' : WE} {wl : WA} {was : WAs} {wg : WG} {Qb : Bool → List Sl → Prop} {Qd : D → List Sl → Prop} {Ql : List D → List Sl → Prop} {Qs : Sl → List Sl → Prop} {Qa : List Sl → List Sl → Prop} {i : Nat} {d : D}
theorem wSeq_e : wSeq w1 w2 ρ E = w1 ρ { E with nx := fun ρ' => w2 ρ' E } := rfl
theorem wNext_e : wNext ρ E = E.nx ρ := rfl
theorem wBreak_e : wBreak ρ E = E.bk ρ := rfl
theorem wCont_e : wCont ρ E = E.ct ρ := rfl
theorem wRet_e : wRet w ρ E = w ρ fun d ρ1 => E.rt d ρ1 := rfl
theorem wRetN_e : wRetN ρ E = E.rt .non ρ := rfl
theorem wDrop_e : wDrop w ρ E = w ρ fun _ ρ1 => E.nx ρ1 := rfl
theorem boolM {k : Bool} {A B : Prop} : (match k with | true => A | false => B) = ((k = true → A) ∧ (k = false → B)) := by cases k <;> simp
theorem wIf_e : wIf wc w1 w2 ρ E = wc ρ fun k ρ1 => (k = true → w1 ρ1 E) ∧ (k = false → w2 ρ1 E) := by
  unfold wIf
  congr 1
  funext k ρ1
  cases k <;> simp
theorem wAnd_e : wAnd t u ρ Qb = t ρ fun k ρ1 => (k = true → u ρ1 Qb) ∧ (k = false → Qb false ρ1) := by
  unfold wAnd
  congr 1
  funext k ρ1
  cases k <;> simp
theorem wOr_e : wOr t u ρ Qb = t ρ fun k ρ1 => (k = true → Qb true ρ1) ∧ (k = false → u ρ1 Qb) := by
  unfold wOr
  congr 1
  funext k ρ1
  cases k <;> simp
theorem wNot_e : wNot t ρ Qb = t ρ fun k ρ1 => Qb (!k) ρ1 := rfl
theorem wTst_e : wTst w ρ Qb = w ρ fun d ρ' => ∃ k, d = .bl k ∧ Qb k ρ' := by
  unfold wTst
  congr 1
  funext d ρ'
  cases d <;> simp
theorem bl2 {d : D} {A B : Prop} : (match d with | .bl true => A | .bl false => B | _ => False) = ∃ k, d = .bl k ∧ (k = true → A) ∧ (k = false → B) := by
  cases d with
  | bl k => cases k <;> simp
  | _ => simp
theorem wAndV_e : wAndV wa wb' ρ Qd = wa ρ fun d ρ1 => ∃ k, d = .bl k ∧ (k = true → wb' ρ1 Qd) ∧ (k = false → Qd (.bl false) ρ1) := by
  unfold wAndV
  congr 1
  funext d ρ1
  exact bl2
theorem wOrV_e : wOrV wa wb' ρ Qd = wa ρ fun d ρ1 => ∃ k, d = .bl k ∧ (k = true → Qd (.bl true) ρ1) ∧ (k = false → wb' ρ1 Qd) := by
  unfold wOrV
  congr 1
  funext d ρ1
  exact bl2
theorem wNotV_e : wNotV wa ρ Qd = wa ρ fun d ρ1 => ∃ k, d = .bl k ∧ Qd (.bl (!k)) ρ1 := by
  unfold wNotV
  congr 1
  funext d ρ'
  cases d <;> simp
theorem wIfE_e : wIfE t wa wb' ρ Qd = t ρ fun k ρ1 => (k = true → wa ρ1 Qd) ∧ (k = false → wb' ρ1 Qd) := by
  unfold wIfE
  congr 1
  funext k ρ1
  cases k <;> simp
theorem wChain_e {wr wr' : D → D → (D → Prop) → Prop} : wChain wr wr' wa wb' wc' ρ Qd = wa ρ fun d1 ρ1 => wb' ρ1 fun d2 ρ2 => wr d1 d2 fun d => ∃ k, d = .bl k ∧ (k = true → wc' ρ2 fun d3 ρ3 => wr' d2 d3 fun d' => Qd d' ρ3) ∧ (k = false → Qd (.bl false) ρ2) := by
  unfold wChain
  congr 1; funext d1 ρ1; congr 1; funext d2 ρ2; congr 1; funext d
  exact bl2
theorem wVar_e : wVar i ρ Qd = match ρ[i]? with
  | some (.sh d) => Qd d ρ
  | some .no => False
  | some .bx => False
  | some sl => Qd (obD sl) (ρ.set i (.sh (obD sl)))
  | none => False := rfl
theorem wPk_e : wPk i ρ Qd = match ρ[i]? with
  | some (.od _ _) => False
  | some (.sh d) => Qd d ρ
  | some .no => False
  | some .bx => False
  | some sl => Qd (obD sl) ρ
  | none => False := rfl
theorem wC_e : wC d ρ Qd = Qd d ρ := rfl
theorem wOp_e {wr : D → D → (D → Prop) → Prop} : wOp wr wa wb' ρ Qd = wa ρ fun d1 ρ1 => wb' ρ1 fun d2 ρ2 => wr d1 d2 fun d => Qd d ρ2 := rfl
theorem wUn_e {wr : D → (D → Prop) → Prop} : wUn wr wa ρ Qd = wa ρ fun d1 ρ1 => wr d1 fun d => Qd d ρ1 := rfl
theorem wM1_e {wr : D → D → (D → Prop) → Prop} : wM1 wr wa wb' ρ Qd = wa ρ fun d1 ρ1 => (∃ s, d1 = .str s) ∧ wb' ρ1 fun d2 ρ2 => wr d1 d2 fun d => Qd d ρ2 := rfl
theorem wTup_e : wTup wl ρ Qd = wl ρ fun ds ρ1 => ds.length ≤ sizeLine ∧ Qd (.tup ds) ρ1 := rfl
theorem wfLst_e : wfLst wl ρ Qs = wl ρ fun ds ρ1 => ds.length ≤ sizeLine ∧ Qs (.ol ds) ρ1 := rfl
theorem wFz_e {wf : List Sl → (Sl → List Sl → Prop) → Prop} : wFz wf ρ Qd = wf ρ fun sl ρ1 => Qd (obD sl) ρ1 := rfl
theorem waNil_e : waNil ρ Ql = Ql [] ρ := rfl
theorem waCons_e : waCons w wl ρ Ql = w ρ fun d ρ1 => wl ρ1 fun ds ρ2 => Ql (d :: ds) ρ2 := rfl
theorem asNil_e : asNil ρ Qa = Qa [] ρ := rfl
theorem asCons_e : asCons w was ρ Qa = w ρ fun d ρ1 => was ρ1 fun as ρ2 => Qa (.sh d :: as) ρ2 := rfl
theorem asBox_e : asBox i was ρ Qa = (ρ[i]? = some .bx ∧ was ρ fun as ρ2 => Qa (.bx :: as) ρ2) := rfl
theorem wCall_e {wf : WFn} : wCall wf was ρ Qd = was ρ fun as ρ1 => wf as fun d => Qd d ρ1 := rfl
theorem wAsg_e : wAsg w wg ρ E = w ρ fun d ρ1 => wg d ρ1 E.nx := rfl
theorem wSt_e {Q : List Sl → Prop} : wSt i d ρ Q = match ρ[i]? with
  | some _ => Q (ρ.set i (.sh d))
  | none => False := rfl
theorem wAsgO_e {wf : List Sl → (Sl → List Sl → Prop) → Prop} : wAsgO wf i ρ E = wf ρ fun sl ρ1 => match ρ1[i]? with
  | some _ => E.nx (ρ1.set i sl)
  | none => False := rfl
theorem wTp_e {is : List Nat} {Q : List Sl → Prop} {ds : List D} : wTp is (.tup ds) ρ Q = (ds.length = is.length ∧ wStL is ds ρ Q) := rfl
theorem wStL_nil {Q : List Sl → Prop} : wStL [] [] ρ Q = Q ρ := rfl
theorem wStL_cons {Q : List Sl → Prop} {r : List Nat} {ds : List D} : wStL (i :: r) (d :: ds) ρ Q = wSt i d ρ fun ρ1 => wStL r ds ρ1 Q := rfl
theorem wFor_e : wFor wl wg wb ρ E = wl ρ fun ds ρ1 => wForL wg wb ds ρ1 E := rfl
theorem wRg1_e : wRg1 wl ρ Ql = wl ρ fun ds ρ1 => match ds with
  | [.int j] => (-(2 ^ 62) ≤ j ∧ j < 2 ^ 62) ∧ Ql (rangeD 0 j) ρ1
  | _ => False := rfl
theorem wRg2_e : wRg2 wl ρ Ql = wl ρ fun ds ρ1 => match ds with
  | [.int i, .int j] => (-(2 ^ 62) ≤ i ∧ i < 2 ^ 62 ∧ -(2 ^ 62) ≤ j ∧ j < 2 ^ 62) ∧ Ql (rangeD i j) ρ1
  | _ => False := rfl
theorem wItL_e : wItL w ρ Ql = w ρ fun d ρ1 => match d with
  | .lst ds => Ql ds ρ1
  | _ => False := rfl
theorem wItT_e : wItT w ρ Ql = w ρ fun d ρ1 => match d with
  | .tup ds => Ql ds ρ1
  | _ => False := rfl
theorem wItS_e : wItS w ρ Ql = w ρ fun d ρ1 => match d with
  | .str z => Ql (signsD z) ρ1
  | _ => False := rfl
theorem wApp_e : wApp i w ρ E = match ρ[i]? with
  | some (.ol _) => w ρ fun d ρ1 => match ρ1[i]? with
    | some (.ol ds) => ds.length < sizeLine ∧ E.nx (ρ1.set i (.ol (ds ++ [d])))
    | _ => False
  | _ => False := rfl
theorem woNone_e {Q : Option Int → List Sl → Prop} : woNone ρ Q = Q none ρ := rfl
theorem woSome_e {Q : Option Int → List Sl → Prop} : woSome w ρ Q = w ρ fun d ρ1 => match d with
  | .int i => Q (some i) ρ1
  | _ => False := rfl
theorem wCut_e {w1 w2 : WO} : wCut w w1 w2 ρ Qd = w ρ fun d ρ1 => w1 ρ1 fun lo ρ2 => w2 ρ2 fun hi ρ3 => dCut lo hi d fun d' => Qd d' ρ3 := rfl
theorem wBx1_e : wBx1 i ρ Qd = (ρ[i]? = some .bx ∧ ∀ n : Int, 0 ≤ n → Qd (.int n) ρ) := rfl
theorem wBx0_e : wBx0 i ρ Qd = (ρ[i]? = some .bx ∧ ∀ ns : List Int, Qd (.lst (ns.map D.int)) ρ) := rfl
theorem wBxPut_e : wBxPut i w ρ E = w ρ fun d ρ1 => ρ1[i]? = some .bx ∧ match d with
  | .int n => 0 ≤ n ∧ E.nx ρ1
  | _ => False := rfl
theorem wTru_e : wTru w ρ Qb = w ρ fun d ρ1 => dTru d fun k => Qb k ρ1 := rfl
theorem wLc_e {vs : List Nat} {we : WE} : wLc vs wl wg t we ρ Qs = wl ρ fun ds ρ1 => ds.length ≤ sizeLine ∧ noOwnB ρ1 vs = true ∧ wLcL vs wg t we ds (wipeD ρ1 vs) [] fun acc ρ2 => noOwnB ρ2 vs = true ∧ Qs (.ol acc) (wipeD ρ2 vs.reverse) := rfl
theorem wYes_e : wYes ρ Qb = Qb true ρ := rfl
theorem wAug_e {wr : D → D → (D → Prop) → Prop} : wAug i wr w ρ E = match ρ[i]? with
  | some (.sh d0) => w ρ fun d ρ1 => wr d0 d fun d' => wSt i d' ρ1 E.nx
  | _ => False := rfl
theorem wDraw_e {j k : Nat} : wDraw i j k ρ E = (ρ[i]? = some .bx ∧ ∃ a n : Int, ρ[j]? = some (.sh (.int a)) ∧ ρ[k]? = some (.sh (.int n)) ∧ 0 ≤ a ∧ 0 < n ∧ (∀ r : Int, 0 ≤ r → r < n → E.rt (.int r) ρ) ∧ E.nx ρ) := rfl
end
theorem sz_line : sizeLine = 16777216 := rfl
theorem atI_zero {α : Type} {a : α} {l : List α} : atI (a :: l) 0 = some a := atI_nat (by decide) rfl
theorem atI_one {α : Type} {a b : α} {l : List α} : atI (a :: b :: l) 1 = some b := atI_nat (by decide) rfl
theorem joinL_one : ∀ cs : List Nat, TL.joinL [] (cs.map fun c => [c]) = cs
  | [] => rfl
  | [c] => rfl
  | c :: d :: cs => by
    have := joinL_one (d :: cs)
    simp only [List.map_cons] at this
    simp only [List.map_cons, TL.joinL, this]
    rfl
theorem join_one (cs : List Nat) : Txt.join "" (cs.map fun c => (⟨#[c]⟩ : Str)) = ⟨cs.toArray⟩ := by
  have h := SX.join_S [] (cs.map fun c => [c])
  rw [joinL_one, List.map_map] at h
  exact h
theorem one_sum : ∀ cs : List Nat, ((cs.map fun c => (⟨#[c]⟩ : Str)).map (·.length)).sum = cs.length
  | [] => rfl
  | c :: cs => by
    have := one_sum cs
    simp only [List.map_cons, List.sum_cons, List.length_cons, this]
    show 1 + cs.length = _
    omega
theorem dJoin_one {cs : List Nat} {Q : D → Prop} (hl : cs.length ≤ 1000000) (q : Q (.str ⟨cs.toArray⟩)) : dJoin (.str "") (.lst (cs.map fun c => D.str ⟨#[c]⟩)) Q := by
  refine ⟨cs.map fun c => (⟨#[c]⟩ : Str), by rw [List.map_map]; rfl, ?_, by rw [join_one]; exact q⟩
  have e := one_sum cs
  rw [e, List.length_map]
  have : Str.length "" = 0 := by decide
  rw [this]
  omega
theorem signs_mk (cs : List Nat) : signsD ⟨cs.toArray⟩ = cs.map fun c => D.str ⟨#[c]⟩ := rfl
/-- things that are single signs -/
theorem signs_of : ∀ {ds : List D} {P : Nat → Prop}, (∀ d ∈ ds, ∃ c, d = D.str ⟨#[c]⟩ ∧ P c) → ∃ cs : List Nat, ds = cs.map (fun c => D.str ⟨#[c]⟩) ∧ (∀ c ∈ cs, P c) ∧ cs.length = ds.length
  | [], P, _ => ⟨[], rfl, (fun n hn => by cases hn), rfl⟩
  | d :: ds, P, h => by
    obtain ⟨i, rfl, hi⟩ := h d List.mem_cons_self
    obtain ⟨ns, rfl, h2, h3⟩ := signs_of (ds := ds) (P := P) fun x hx => h x (List.mem_cons_of_mem _ hx)
    refine ⟨i :: ns, rfl, fun n hn => ?_, by simp⟩
    rcases List.mem_cons.mp hn with rfl | hn
    · exact hi
    · exact h2 n hn
theorem strOk_small {cs : List Nat} (h : ∀ c ∈ cs, c < 1000) : PyData.strOk ⟨cs.toArray⟩ = true := by
  unfold PyData.strOk
  rw [← Array.all_toList]
  simp only [List.all_eq_true]
  intro c hc
  have := h c hc
  simp
  omega
def az : Str := "abcdefghijklmnopqrstuvwxyz"
theorem az_occ : ∀ z : _root_.Fin 26, Builtin.Str.occurrences "abcdefghijklmnopqrstuvwxyz" ⟨#[97 + z.1]⟩ 0 (Str.length "abcdefghijklmnopqrstuvwxyz") 1 = [z.1] := by decide +kernel
theorem az_at : ∀ z : _root_.Fin 26, (Str.cps "abcdefghijklmnopqrstuvwxyz").toList[z.1]? = some (97 + z.1) := by decide +kernel
theorem az_len : Str.length "abcdefghijklmnopqrstuvwxyz" = 26 := by decide +kernel
theorem dSIndex_az {c : Nat} {Q : D → Prop} (h1 : 97 ≤ c) (h2 : c ≤ 122) (q : Q (.int ((c - 97 : Nat) : Int))) : dSIndex (.str "abcdefghijklmnopqrstuvwxyz") (.str ⟨#[c]⟩) Q := by
  have e := az_occ ⟨c - 97, by omega⟩
  have e2 : 97 + (c - 97) = c := by omega
  simp only [e2] at e
  exact ⟨_, _, e, q⟩
theorem dIx_az {i : Int} {Q : D → Prop} (h1 : 0 ≤ i) (h2 : i < 26) (q : Q (.str ⟨#[97 + i.toNat]⟩)) : dIx (.str "abcdefghijklmnopqrstuvwxyz") (.int i) Q :=
  ⟨by rw [az_len]; decide, _, atI_nat h1 (az_at ⟨i.toNat, by omega⟩), q⟩
theorem atI_mem {α : Type} {l : List α} {i : Int} (h0 : 0 ≤ i) (h1 : i < l.length) : ∃ d, d ∈ l ∧ atI l i = some d := by
  have hl : i.toNat < l.length := by omega
  exact ⟨l[i.toNat], List.getElem_mem _, atI_nat h0 (List.getElem?_eq_getElem hl)⟩
theorem dIx_l {ds : List D} {i : Int} {Q : D → Prop} : dIx (.lst ds) (.int i) Q = ∃ d, atI ds i = some d ∧ Q d := rfl
theorem dIx_t {ds : List D} {i : Int} {Q : D → Prop} : dIx (.tup ds) (.int i) Q = ∃ d, atI ds i = some d ∧ Q d := rfl
theorem dIx_s {ds : List D} {i : Int} {Q : D → Prop} : dIx (.scr ds) (.int i) Q = ∃ d, atI ds i = some d ∧ Q d := rfl
theorem shD_lit1 {a : Int} : shD (.lst [.int a]) := shD_ints [a]
theorem eqDL_lit1 {ns : List Int} {a : Int} : eqDL (ns.map D.int) [.int a] = decide (ns = [a]) := eqDL_ints ns [a]
theorem str_m_u : (("move" : Str) = "undo") = False := eq_false (by decide +kernel)
theorem str_y_u : (("year" : Str) = "undo") = False := eq_false (by decide +kernel)
theorem str_y_m : (("year" : Str) = "move") = False := eq_false (by decide +kernel)
end DL

/-! Objects: fields, methods, defs with an own argument, making. Dicts: calls, stores. -/
namespace DL
open PySem PySem.Spec PyProof.Rows L2

/-! ### fields -/
def lookD : List Str → List D → Str → Option D
  | g :: fs, d :: ds, f => if f = g then some d else lookD fs ds f
  | _, _, _ => none
section
variable {c : Cy} {X : Cx} {e : Expr} {te : TE} {t : TA} {w : WE} {wt : WAs} {pos : Pos}
theorem lookD_v {F : Hp} {f : Str} : ∀ {ps : List (Str × V)} {ds : List D} {d : D}, DrL c F (ps.map (·.2)) ds → lookD (ps.map (·.1)) ds f = some d → ∃ v, ps.lookup f = some v ∧ Dr c F v d
  | [], ds, d, r, h => by cases ds <;> simp [lookD] at h
  | (g, v) :: ps, [], d, r, h => by simp [lookD] at h
  | (g, v) :: ps, d0 :: ds, d, r, h => by
    obtain ⟨u, vr, e, q, t⟩ := r.cons_iff
    simp only [List.map_cons] at e
    cases e
    simp only [List.map_cons, lookD] at h
    by_cases z : f = g
    · rw [if_pos z] at h
      cases h
      exact ⟨v, by rw [z, List.lookup_cons_self], q⟩
    · rw [if_neg z] at h
      obtain ⟨x, h1, h2⟩ := lookD_v t h
      exact ⟨x, by rw [List.lookup_cons, show (f == g) = false by simpa using z]; exact h1, h2⟩
theorem lookup_no {f : Str} : ∀ {ps : List (Str × V)}, f ∉ ps.map (·.1) → ps.lookup f = none
  | [], _ => rfl
  | (g, v) :: ps, h => by
    simp only [List.map_cons, List.mem_cons, not_or] at h
    rw [List.lookup_cons, show (f == g) = false by simpa using h.1]
    exact lookup_no h.2
def wFld (n f : Str) (w : WE) : WE := fun ρ Q => w ρ fun d ρ1 => match d with
  | .ins n' fs ds => n' = n ∧ ∃ d', lookD fs ds f = some d' ∧ Q d' ρ1
  | _ => False
theorem de_fld {n f : Str} {C : Addr} (hm : X.mg n = some (.ref C)) (hc : Cls X.K C) (hn : NoAttr X.K C f) (he : DP X e te w) (hb : attributeBase e f X.env (eval e X.env) = eval e X.env := by rfl) : DE X (.Attribute e f pos) (tFld X.K te f) (wFld n f w) :=
  ⟨pe_fld he.pe hb, fun {b ρ σ F M M0} R Qd Q hw k => by
    refine he.sn R _ _ hw fun d ρ1 v F1 M1 M01 q A r => ?_
    cases d with
    | ins n' fs ds =>
      obtain ⟨rfl, d', hl, q⟩ := q
      obtain ⟨a, C', dx, ps, rfl, _, hH, hg, rfl, rl⟩ := r
      have eC : C' = C := by
        have hg : X.mg n' = some (.ref C') := hg
        rw [hm] at hg
        cases hg; rfl
      subst eC
      obtain ⟨v, h1, h2⟩ := lookD_v rl hl
      exact ⟨a, _, dx, ps, v, rfl, hH, hc, hn, h1, k d' ρ1 v F1 M1 M01 q A h2⟩
    | _ => exact q.elim⟩

/-! ### a method of a shared object -/
def wMeth (n m : Str) (wf : WFn) (w : WE) (wa : WAs) : WE := fun ρ Q => w ρ fun d ρ1 => match d with
  | .ins n' fs ds => (n' = n ∧ m ∉ fs) ∧ wa ρ1 fun as ρ2 => wf (.sh (.ins n' fs ds) :: as) fun r => Q r ρ2
  | _ => False
theorem snd_meth {n m : Str} {C : Addr} {wf : WFn} {E : XK} (hm : c.mg n = some (.ref C)) (he : Snd c te w) (ha : Snas c t wt) : Snd c (tMeth C m (spF c wf) [] E te t) (wMeth n m wf w wt) := fun {b ρ σ F M M0} R Qd Q hw k => by
  refine he R _ _ hw fun d ρ1 v F1 M1 M01 q A r => ?_
  cases d with
  | ins n' fs ds =>
    obtain ⟨⟨rfl, hn⟩, q⟩ := q
    have r0 := r
    simp only [Dr] at r
    obtain ⟨a, C', dx, ps, rfl, hH, hg, rfl, rl⟩ := r
    have eC : C' = C := by rw [hm] at hg; cases hg; rfl
    subst eC
    refine ⟨a, dx, ps, rfl, A.rel.dj.f hH, lookup_no hn, ?_⟩
    refine ha A.rel _ _ q fun as ρ2 vs F2 M2 M02 q2 A2 r2 => ?_
    rw [List.append_nil]
    refine ⟨b, F2, M2, .sh (.ins n' (ps.map (·.1)) ds) :: as, _, rfl, A2.rel.dj, fun a z => ?_, ⟨_, vs, rfl, r0.up A2.same, r2⟩, q2, fun d v F' M' q s dj bx mr r => ?_⟩
    · obtain ⟨da, ns, n, h1, h2, h3⟩ := A2.rel.box a z
      exact ⟨da, ns, n, A2.rel.env.sub _ _ h1, h2, h3⟩
    · obtain ⟨M0', A3⟩ := A2.rel.after s dj bx mr
      exact k d ρ2 v F' M' M0' q ((A.trans A2).trans A3) r
  | _ => exact q.elim
end
section
variable {X : Cx} {o e : Expr} {es : List Expr} {te : TE} {t : TA} {w : WE} {wt : WAs} {pos apos : Pos} {k : Nat} {f C : Addr} {fd : FuncData} {ps : List Str} {n m : Str}
theorem de_meth0 {wf : WFn} {pl : Sem Bool} (G : FnOk X.prog X.w X.K X.mg X.base CX0 k f fd ps (spF (cy X) wf)) (hr : Room k X.A) (hn : X.mg n = some (.ref C)) (hc : Cls X.K C) (hm : Meth X.K C m f) (hb : Binds X.K fd ps []) (he : DE X o te w)
    (ht : eval (.Call (.Attribute o m apos) [] [] pos) X.env = (do
      let ov ← eval o X.env
      standAt apos.atName
      let (f, first) ← holding [ov] (getMethod ov m pl)
      callWith pos f first (backTo pos (starEach [] X.env)) (backToKw pos (keywordEach [] X.env))) := by rfl) :
    DE X (.Call (.Attribute o m apos) [] [] pos) (tMeth C m (spF (cy X) wf) [] E0 te tNil) (wMeth n m wf w asNil) := ⟨pe_meth0 he.pe hc hm G hr hb .nil pass0 ht, snd_meth hn he.sn das_nil.sn⟩
end

/-! ### defs with own arguments -/
abbrev WFo := List Sl → (D → List Sl → Prop) → Prop
def spO (c : Cy) (wf : WFo) : Sp := fun vs H Q _ => ∃ (b : Option Addr) (F M M1 : Hp) (as : List Sl) (Qd : D → List Sl → Prop), H = HH F M ∧ Rel c b as (vs.map some) F M M1 ∧ wf as Qd ∧
  ∀ d v as' F' M' M1', Qd d as' → Same F F' → Rel c b as' (vs.map some) F' M' M1' → MR b M1 M1' → Dr c F' v d → Q v (HH F' M')
/-- what is handed back -/
def back : List Sl → List Sl → List Sl → Prop
  | [], _, as' => as' = []
  | a :: as, s :: ρ, s' :: as' => (match a with
    | .od x _ => s' = s ∧ ∃ t, s = .od x t
    | .sh d => s' = .sh d
    | .bx => s' = .bx
    | _ => False) ∧ back as ρ as'
  | _, _, _ => False
section
variable {c : Cy} {b : Option Addr} {F M M0 : Hp}
theorem relE_nos {n : Nat} : ∀ {as : List Sl} {τ : L2.St} {M : Hp}, RelE c b F M0 as τ M → RelE c b F M0 (as ++ List.replicate n .no) (τ ++ List.replicate n none) M
  | [], τ, M, h => by
    obtain ⟨rfl, rfl⟩ := h
    exact rel_nos n
  | s1 :: as, τ, M, h => by
    obtain ⟨v, σr, rfl, h⟩ := h
    refine ⟨v, σr ++ List.replicate n none, rfl, ?_⟩
    have own : ∀ s2 : Sl, (∃ a o M', v = some (.ref a) ∧ ObR c F s2 o ∧ F a = none ∧ M' a = none ∧ M = upd M' a o ∧ RelE c b F M0 as σr M') →
        ∃ a o M', v = some (.ref a) ∧ ObR c F s2 o ∧ F a = none ∧ M' a = none ∧ M = upd M' a o ∧ RelE c b F M0 (as ++ List.replicate n .no) (σr ++ List.replicate n none) M' := fun s2 h => by
      obtain ⟨a, o, M', k1, k2, k3, k4, k5, t⟩ := h
      exact ⟨a, o, M', k1, k2, k3, k4, k5, relE_nos t⟩
    cases s1 with
    | no => exact relE_nos h
    | sh d => exact ⟨h.1, relE_nos h.2⟩
    | bx => exact ⟨h.1, relE_nos h.2⟩
    | ol ds => exact own (.ol ds) h
    | ok ks ds => exact own (.ok ks ds) h
    | ot ks ds => exact own (.ot ks ds) h
    | oi n fs ds => exact own (.oi n fs ds) h
    | od y t0 =>
      obtain ⟨Mo, M', k1, k2, k3, k4, t⟩ := h
      exact ⟨Mo, M', k1, k2, k3, k4, relE_nos t⟩
/-- the first slot is given up -/
theorem relE_pop {s1 : Sl} {ρ : List Sl} {v : Option V} {σ : L2.St} (h : RelE c b F M0 (s1 :: ρ) (v :: σ) M) (dj : Dj F M) :
    ∃ F' M', Same F F' ∧ HH F M = HH F' M' ∧ Dj F' M' ∧ (∀ a o, F' a = some o → F a = some o ∨ M a = some o) ∧ (∀ a o, M' a = some o → M a = some o) ∧ RelE c b F' M0 ρ σ M' := by
  obtain ⟨v', σr, e, h⟩ := h
  cases e
  have plain : RelE c b F M0 ρ σ M → ∃ F' M', Same F F' ∧ HH F M = HH F' M' ∧ Dj F' M' ∧ (∀ a o, F' a = some o → F a = some o ∨ M a = some o) ∧ (∀ a o, M' a = some o → M a = some o) ∧ RelE c b F' M0 ρ σ M' := fun t =>
    ⟨F, M, Same.refl _, rfl, dj, fun a o q => .inl q, fun a o q => q, t⟩
  have own : ∀ sl : Sl, (∃ a o M', v = some (.ref a) ∧ ObR c F sl o ∧ F a = none ∧ M' a = none ∧ M = upd M' a o ∧ RelE c b F M0 ρ σ M') →
      ∃ F' M', Same F F' ∧ HH F M = HH F' M' ∧ Dj F' M' ∧ (∀ a o, F' a = some o → F a = some o ∨ M a = some o) ∧ (∀ a o, M' a = some o → M a = some o) ∧ RelE c b F' M0 ρ σ M' := fun sl h => by
    obtain ⟨a, o, M', e1, r, f, m, rfl, t⟩ := h
    have dj' : Dj F M' := fun x u q => dj x u (by rw [upd_ne (ne_of_none q m)]; exact q)
    have s : Same F (upd F a o) := Same.updF f
    refine ⟨upd F a o, M', s, hh_freeze m, dj'.updF m, fun x u q => ?_, fun x u q => by rw [upd_ne (ne_of_none q m)]; exact q, t.leD (.of s) (fun x u q z => by rw [upd_ne (ne_of_none (t.sub _ _ q) m)]; exact z) (fun x u q z => by rw [upd_ne (ne_of_none q m)]; exact z)⟩
    by_cases z : x = a
    · rw [z, upd_same] at q
      right; rw [z, upd_same]; exact q
    · rw [upd_ne z] at q; exact .inl q
  cases s1 with
  | no => exact plain h
  | sh d => exact plain h.2
  | bx => exact plain h.2
  | ol ds => exact own (.ol ds) h
  | ok ks ds => exact own (.ok ks ds) h
  | ot ks ds => exact own (.ot ks ds) h
  | oi n fs ds => exact own (.oi n fs ds) h
  | od y t0 =>
    obtain ⟨Mo, M', k1, k2, k3, rfl, t⟩ := h
    have dF : Dj F Mo := OTR.dj t0 k2
    have s : Same F (HH F Mo) := dF.same
    refine ⟨HH F Mo, M', s, by rw [hh_comm k3, hh_assoc], fun a o q => ?_, fun a o q => ?_, fun a o q => k3.f q, t.leD (.of s) (fun y u q z => by rw [hh_n (k3.mn (t.sub _ _ q))]; exact z) (fun y u q z => by rw [hh_n (k3.mn q)]; exact z)⟩
    · rw [hh_n (k3.mn q)]; exact dj a o (k3.f q)
    · rcases hh_some q with z | ⟨_, z⟩
      · exact .inr (hh_m z)
      · exact .inl z
/-- the arguments as they are handed back; all else is given up -/
theorem relE_back : ∀ {as ρ as' : List Sl} {vs : List V} {σ : L2.St} {F G M M2 : Hp} {N0 : Hp}, RelE c b G N0 as (vs.map some) M2 → Same G F → RelE c b F M0 ρ σ M → Dj F M → back as ρ as' →
    ∃ F' M', Same F F' ∧ HH F M = HH F' M' ∧ Dj F' M' ∧ (∀ a o, F' a = some o → F a = some o ∨ M a = some o) ∧ (∀ a o, M' a = some o → M a = some o) ∧ RelE c b F' M0 as' (vs.map some) M'
  | [], ρ, as', vs, σ, F, G, M, M2, N0, h0, sg, h, dj, hb => by
    have e : as' = [] := hb
    subst e
    have ev : vs = [] := by
      have := h0.1
      cases vs with
      | nil => rfl
      | cons => cases this
    subst ev
    obtain ⟨F', s, eh, dj'⟩ := h.frzAll dj
    have key : ∀ a o, F' a = some o → F a = some o ∨ M a = some o := fun a o q => by
      have := dj'.f q
      rw [← eh] at this
      rcases hh_some this with z | ⟨_, z⟩
      · exact .inr z
      · exact .inl z
    exact ⟨F', M0, s, eh, dj', key, h.sub, rfl, rfl⟩
  | a :: as, [], as', vs, σ, F, G, M, M2, N0, h0, sg, h, dj, hb => by cases as' <;> exact hb.elim
  | a :: as, s :: ρ, [], vs, σ, F, G, M, M2, N0, h0, sg, h, dj, hb => hb.elim
  | a :: as, s :: ρ, s' :: as', vs, σ, F, G, M, M2, N0, h0, sg, h, dj, hb => by
    obtain ⟨v0, τ0, e0, h0⟩ := h0
    cases vs with
    | nil => cases e0
    | cons v vs =>
      cases e0
      obtain ⟨hb1, hb⟩ := hb
      have h' := h
      obtain ⟨v1, σr, e1, h1⟩ := h'
      subst e1
      cases a with
      | sh d =>
        have e : s' = .sh d := hb1
        subst e
        obtain ⟨⟨y, ey, hy⟩, h0⟩ := h0
        cases ey
        obtain ⟨F1, M1, s1, eh1, dj1, f1, m1, t1⟩ := relE_pop h dj
        obtain ⟨F2, M3, s2, eh2, dj2, f2, m2, t2⟩ := relE_back h0 (sg.trans s1) t1 dj1 hb
        refine ⟨F2, M3, s1.trans s2, eh1.trans eh2, dj2, fun x o q => ?_, fun x o q => m1 x o (m2 x o q), some v, vs.map some, rfl, ⟨v, rfl, hy.up ((sg.trans s1).trans s2)⟩, t2⟩
        rcases f2 x o q with z | z
        · exact f1 x o z
        · exact .inr (m1 x o z)
      | bx =>
        have e : s' = .bx := hb1
        subst e
        obtain ⟨hy, h0⟩ := h0
        obtain ⟨F1, M1, s1, eh1, dj1, f1, m1, t1⟩ := relE_pop h dj
        obtain ⟨F2, M3, s2, eh2, dj2, f2, m2, t2⟩ := relE_back h0 (sg.trans s1) t1 dj1 hb
        refine ⟨F2, M3, s1.trans s2, eh1.trans eh2, dj2, fun x o q => ?_, fun x o q => m1 x o (m2 x o q), some v, vs.map some, rfl, hy, t2⟩
        rcases f2 x o q with z | z
        · exact f1 x o z
        · exact .inr (m1 x o z)
      | od x t0 =>
        obtain ⟨e, t, e2⟩ := hb1
        subst e e2
        obtain ⟨_, _, ex, _, _, _, h0⟩ := h0
        cases ex
        obtain ⟨Mo, M', k1, k2, k3, k4, tt⟩ := h1
        subst k4
        have djm : Dj F M' := fun y u q => dj y u (k3.f q)
        obtain ⟨F2, M3, s2, eh2, dj2, f2, m2, t2⟩ := relE_back h0 sg tt djm hb
        have dFo : Dj F Mo := OTR.dj t k2
        have d2o : Dj F2 Mo := fun y u q => by
          cases z : F2 y with
          | none => rfl
          | some w =>
            rcases f2 y w z with z | z
            · rw [dFo y u q] at z; cases z
            · rw [k3 y u q] at z; cases z
        have d3o : Dj M3 Mo := fun y u q => by
          cases z : M3 y with
          | none => rfl
          | some w =>
            have := m2 y w z
            rw [k3 y u q] at this; cases this
        refine ⟨F2, HH M3 Mo, s2, ?_, ?_, ?_, ?_, some v, vs.map some, rfl, Mo, M3, rfl, OTR.leD (.of s2) t (fun y u q _ => d2o y u q) k2, d3o, rfl, t2⟩
        · rw [hh_assoc, eh2, hh_assoc]
        · intro y u q
          rcases hh_some q with z | ⟨_, z⟩
          · exact d2o y u z
          · exact dj2 y u z
        · intro y u q
          rcases f2 y u q with z | z
          · exact .inl z
          · exact .inr (k3.f z)
        · intro y u q
          rcases hh_some q with z | ⟨z0, z⟩
          · exact hh_m z
          · rw [hh_n z0]; exact m2 y u z
      | no => exact hb1.elim
      | ol _ => exact hb1.elim
      | ok _ _ => exact hb1.elim
      | ot _ _ => exact hb1.elim
      | oi _ _ _ => exact hb1.elim
end
section
variable {P : Program} {w : World} {K : PySem.W.Frag} {mg : Str → Option Value} {base : Heap}
/-- THE RULE for defs with own arguments -/
theorem fun_okO {x qual : Str} {st : Stmt} {f : Addr} {fd : FuncData} {N ps : List Str} {k : Nat} {wf : WFo} (FF : Fun K x qual st f fd) (S : FnScope N ps (defScope st)) (len : ∀ as Qd, wf as Qd → as.length = ps.length)
    (hbody : ∀ (cdv : Value) (A : Around) (outer : List Env) (s : Shared) (H : Hp) (E : XK), Room k (A.deeper (envOfC qual (defScope st) s.heap.objs.size f cdv)) →
      ∃ t ws, DSs (cxOf CX0 P w K mg base N qual (defScope st) f cdv A outer s H E).nox (defBody st) t ws ∧
        ∀ as Qd, wf as Qd → ws (startD N as) { nx := fun ρ => ∃ as', back as ρ as' ∧ Qd .non as', rt := fun d ρ => ∃ as', back as ρ as' ∧ Qd d as' }) :
    FnOk P w K mg base CX0 (k + 1) f fd ps (spO ⟨K, mg⟩ wf) := by
  refine FF.ok S (fun vs H Q E h => ?_) (fun cdv A outer s H vs Q E hr h => ?_)
  · obtain ⟨b, F, M, M1, as, Qd, _, R, hw, _⟩ := h
    have := R.env.length
    rw [List.length_map] at this
    rw [this, len as Qd hw]
  · obtain ⟨b, F, M, M1, as, Qd, rfl, R, hw, hq⟩ := h
    obtain ⟨t, ws, hd, hp⟩ := hbody cdv A outer s (HH F M) E hr
    refine ⟨t, hd.ps, ?_⟩
    have el : vs.length = as.length := by
      have := R.env.length
      rw [List.length_map] at this
      exact this
    have R0 : Rel ⟨K, mg⟩ b (startD N as) (L2.start N vs) F M M1 := by
      refine ⟨R.dj, ?_, R.box⟩
      unfold startD L2.start
      rw [el]
      exact relE_nos R.env
    have fin : ∀ d v ρ' σ' F' M' M0', (∃ as', back as ρ' as' ∧ Qd d as') → Same F F' → Rel ⟨K, mg⟩ b ρ' σ' F' M' M0' → MR b M1 M0' → Dr ⟨K, mg⟩ F' v d → Q v (HH F' M') := fun d v ρ' σ' F' M' M0' ⟨as', hb, q⟩ s' R' m' r => by
      obtain ⟨F2, M3, s2, eh, dj2, _, _, t2⟩ := relE_back R.env s' R'.env R'.dj hb
      rw [eh]
      exact hq d v as' F2 M3 M0' q (s'.trans s2) ⟨dj2, t2, fun a z => (R'.box a z).leD (.of s2)⟩ m' (r.up s2)
    exact hd.sn R0 _ _ (hp as Qd hw) ⟨fun ρ' σ' F' M' M0' e s' R' m' => fin .non .non ρ' σ' F' M' M0' e s' R' m' .of_non, fun _ _ _ _ _ z => z.elim, fun _ _ _ _ _ z => z.elim, fin⟩
end

/-! ### making an object -/
section
variable {c : Cy} {b : Option Addr} {F M0 : Hp}
theorem ArgsD.relE {as : List Sl} {vs : List V} (h : ArgsD c b F as vs) (M : Hp) : RelE c b F M as (vs.map some) M := by
  have := h.rel (M := M) (n := 0)
  simpa using this
theorem argsD_only {G : Hp} : ∀ {as : List Sl} {vs : List V} {τ : L2.St} {M : Hp}, ArgsD c b G as vs → RelE c b F M0 as τ M → M = M0
  | [], vs, τ, M, _, h => h.2
  | s1 :: as, vs, τ, M, h0, h => by
    obtain ⟨v, vr, _, q, t⟩ := h0
    obtain ⟨v', σr, _, h⟩ := h
    cases s1 with
    | sh d => exact argsD_only t h.2
    | bx => exact argsD_only t h.2
    | _ => exact q.elim
variable {t : TA} {wt : WAs}
def wMake (n : Str) (wf : WFo) (wa : WAs) : WE := fun ρ Q => wa ρ fun as ρ1 => ∀ x, wf (.od x (.ins n [] []) :: as) fun r as' => ∃ t, as' = .od x t :: as ∧ r = .non ∧ Q (otD t) ρ1
theorem snd_make {n : Str} {C : Addr} {wf : WFo} {E : XK} (hm : c.mg n = some (.ref C)) (ha : Snas c t wt) : Snd c (tMake C (spO c wf) [] E t) (wMake n wf wt) := fun {b ρ σ F M M0} R Qd Q hw k => by
  refine ha R _ _ hw fun as ρ1 vs F1 M1 M01 q A ar => ?_
  intro x dx hx hdx ne
  rw [List.append_nil]
  obtain ⟨fx, mx⟩ := hh_none hx
  obtain ⟨fdx, mdx⟩ := hh_none hdx
  have sF : Same F1 (upd F1 dx (.own x)) := Same.updF fdx
  have dj1 : Dj (upd F1 dx (.own x)) M1 := A.rel.dj.updF mdx
  have djo : Dj M1 (upd emp x (.ins C dx [])) := fun a o z => by
    by_cases e : a = x
    · rw [e]; exact mx
    · rw [upd_ne e] at z; cases z
  have eH : upd (upd (HH F1 M1) dx (.own x)) x (.ins C dx []) = HH (upd F1 dx (.own x)) (HH M1 (upd emp x (.ins C dx []))) := by
    rw [hh_updF mdx, hh_updM]
    congr 1
    rw [← hh_updM, hh_emp]
  refine ⟨b, upd F1 dx (.own x), HH M1 (upd emp x (.ins C dx [])), M1, .od (.ref x) (.ins n [] []) :: as, _, eH, ⟨?_, ?_, fun a z => ?_⟩, q (.ref x), fun d v as' F' M' M1' h s R' mr r => ?_⟩
  · intro a o z
    rcases hh_some z with z | ⟨_, z⟩
    · by_cases e : a = x
      · rw [e, upd_ne (fun z => ne z.symm)]; exact fx
      · rw [upd_ne e] at z; cases z
    · exact dj1 a o z
  · refine ⟨some (.ref x), vs.map some, rfl, _, M1, rfl, ?_, djo, rfl, (ar.up sF).relE M1⟩
    simp only [OTR]
    exact ⟨x, C, dx, [], emp, rfl, hm, rfl, by simp [OTRL], by rw [upd_ne (fun z => ne z.symm)]; exact fx, rfl, rfl⟩
  · obtain ⟨da, ns, m, h1, h2, h3⟩ := A.rel.box a z
    exact ⟨da, ns, m, A.rel.env.sub _ _ h1, sF _ _ h2, h3⟩
  · obtain ⟨t, rfl, rfl, q⟩ := h
    refine ⟨r.non_of, ?_⟩
    obtain ⟨v1, σr, e1, Mo, M2, e2, k2, k3, rfl, tt⟩ := R'.env
    cases e1
    cases e2
    have e3 := argsD_only ar tt
    subst e3
    have dF : Dj F' Mo := OTR.dj t k2
    have s2 : Same F' (HH F' Mo) := dF.same
    have r2 : Dr c (HH F' Mo) (.ref x) (otD t) := OTR.frz s2 t (fun a o z => hh_m z) k2
    have dj2 : Dj (HH F' Mo) M2 := fun a o z => by
      rw [hh_n (k3.mn z)]
      exact R'.dj a o (k3.f z)
    obtain ⟨M0', A2⟩ := A.rel.after ((sF.trans s).trans s2) dj2 (fun a z => (R'.box a z).leD (.of s2)) mr
    rw [hh_comm k3, hh_assoc]
    exact k _ ρ1 (.ref x) _ M2 M0' q (A.trans A2) r2
end
section
variable {X : Cx} {e : Expr} {es : List Expr} {te : TE} {t : TA} {w : WE} {wt : WAs} {p pos : Pos} {k : Nat} {f C : Addr} {fd : FuncData} {ps : List Str} {n : Str}
theorem de_make {wf : WFo} (Mm : Mk X.K C f) (G : FnOk X.prog X.w X.K X.mg X.base CX0 k f fd ps (spO (cy X) wf)) (hr : Room (k + 1) X.A) (hg : Gl X n) (hm : X.mg n = some (.ref C)) (hb : Binds X.K fd ps []) (ha : DAs X (e :: es) t wt)
    (hdb : (n == ("__debug__" : Str)) = false := by decide) (he : starEach (e :: es) X.env = (false, eval e X.env) :: starEach es X.env := by rfl) (hpl : (backTo pos (starEach es X.env)).any (·.1) = false := by rfl) :
    DE X (.Call (.Name n p) (e :: es) [] pos) (tMake C (spO (cy X) wf) [] E0 t) (wMake n wf wt) := ⟨pe_make Mm G hr hg hm hb .nil pass0 ha.pe hdb he hpl, snd_make hm ha.sn⟩
/-- name.f = e, a new field of an own object -/
theorem putF_new {f : Str} {v : V} : ∀ {ps : List (Str × V)}, f ∉ ps.map (·.1) → putF f v ps = ps ++ [(f, v)]
  | [], _ => rfl
  | (g, u) :: ps, h => by
    simp only [List.map_cons, List.mem_cons, not_or] at h
    show (if g = f then _ else _) = _
    rw [if_neg (fun z => h.1 z.symm), putF_new h.2]; rfl
theorem OTRL.snoc {c : Cy} {F : Hp} {t : OT} {v : V} {M2 : Hp} (r : OTR c F t v M2) : ∀ {ts : List OT} {vs : List V} {M1 : Hp}, OTRL c F ts vs M1 → Dj M1 M2 → OTRL c F (ts ++ [t]) (vs ++ [v]) (HH M1 M2)
  | [], vs, M1, h, d => by
    simp only [OTRL] at h
    obtain ⟨rfl, rfl⟩ := h
    rw [emp_hh]
    simp only [List.nil_append, OTRL]
    exact ⟨v, [], M2, emp, rfl, r, ⟨rfl, rfl⟩, fun a o q => rfl, (emp_hh _).symm⟩
  | t0 :: ts, vs, M1, h, d => by
    simp only [OTRL] at h
    obtain ⟨v0, vr, A, B, rfl, r0, r1, d0, rfl⟩ := h
    simp only [List.cons_append, OTRL]
    exact ⟨v0, vr ++ [v], A, HH B M2, rfl, r0, OTRL.snoc r r1 (dj_l d), dj_hh d0 (dj_sym (dj_r d)), hh_swap (dj_r d)⟩
def wFldN (i : Nat) (n f : Str) (w : WE) : WS := fun ρ E => w ρ fun d ρ1 => match ρ1[i]? with
  | some (.od x (.ins n' fs ts)) => (n' = n ∧ f ∉ fs ∧ fs.length < 1000) ∧ E.nx (ρ1.set i (.od x (.ins n' (fs ++ [f]) (ts ++ [.sh d]))))
  | _ => False
theorem ds_fldN (i : Nat) {xn f : Str} {np pos' : Pos} (hm : X.mg n = some (.ref C)) (hc : Cls X.K C) (hn : NoAttr X.K C f) (hv : DE X e te w)
    (hs : swapsWith e (some (.Attribute (.Name xn np) f pos')) pos.line X.env = pure false := by rfl) (hN : X.N[i]? = some xn := by rfl) (hvis : Vis X.env.scope xn := by first | exact Or.inl rfl | exact Or.inr (Or.inl rfl) | exact Or.inr (Or.inr rfl))
    (hd : (xn == ("__debug__" : Str)) = false := by decide) (hcd : (xn == ("__classdict__" : Str)) = false := by decide) : DS X (.Assign [.Attribute (.Name xn np) f pos'] e pos) (sFld X.K (tVar i) te f) (wFldN i n f w) :=
  ⟨ps_fld (pe_var hN hvis hd hcd) hv.pe hs, fun {b ρ σ F M M0} R E Dn hw fin => by
    refine hv.sn R _ _ hw fun d ρ1 y F1 M1 M01 q A r => ?_
    cases e1 : ρ1[i]? with
    | none => simp only [e1] at q
    | some sl =>
      simp only [e1] at q
      cases sl with
      | od x t0 =>
        cases t0 with
        | ins n' fs ts =>
          obtain ⟨⟨rfl, hf, hl⟩, q⟩ := q
          obtain ⟨Mo, M', h1, h2, h3, h4, h5, h6, h7⟩ := A.rel.env.ownT e1
          have h2' := h2
          simp only [OTR] at h2
          obtain ⟨a, C', dx, ps, M2, rfl, hg, rfl, rl, fa, ma, rfl⟩ := h2
          have eC : C' = C := by
            have hg : X.mg n' = some (.ref C') := hg
            rw [hm] at hg
            cases hg; rfl
          subst eC
          have hH : HH F1 M1 a = some (.ins C' dx ps) := hh_m (by rw [h4]; exact hh_m upd_same)
          refine ⟨.ref a, h1, a, C', dx, ps, rfl, hH, hc, hn, by rw [← List.length_map (f := (·.1))]; exact hl, ?_⟩
          rw [putF_new hf, hh_updM]
          have eM : upd M1 a (.ins C' dx (ps ++ [(f, y)])) = HH M' (upd M2 a (.ins C' dx (ps ++ [(f, y)]))) := by rw [h4, hh_updM, upd_upd]
          rw [eM]
          have djn : Dj M' (upd M2 a (.ins C' dx (ps ++ [(f, y)]))) := fun u o z => by
            by_cases e : u = a
            · rw [e]; exact h3 a _ upd_same
            · rw [upd_ne e] at z; exact h3 u o (by rw [upd_ne e]; exact z)
          have rn : OTR (cy X) F1 (.ins n' (ps.map (·.1) ++ [f]) (ts ++ [.sh d])) (.ref a) (upd M2 a (.ins C' dx (ps ++ [(f, y)]))) := by
            simp only [OTR]
            refine ⟨a, C', dx, ps ++ [(f, y)], M2, rfl, hg, by simp, ?_, fa, ma, rfl⟩
            have := OTRL.snoc (t := .sh d) (v := y) (M2 := emp) (by simp only [OTR]; exact ⟨r, trivial⟩) rl (fun _ _ z => nomatch z)
            rw [hh_emp] at this
            simpa using this
          have t2 := h7 _ _ rn djn
          refine fin.nx _ σ F1 _ M01 q A.same ⟨fun u o z => ?_, t2, A.rel.box⟩ A.mr
          rcases hh_some z with z | ⟨_, z⟩
          · exact OTR.dj _ rn u o z
          · exact A.rel.dj u o (by rw [h4]; exact (h3.f z))
        | _ => exact q.elim
      | _ => exact q.elim⟩
end
end DL

/-! dict(..), zip, isinstance; rows that are copied and stored into. -/
namespace DL
open PySem PySem.Spec PyProof.Rows L2

section
variable {c : Cy} {X : Cx}
/-! ### dict(pairs), dict(d) -/
def kD : Key → D
  | .inl i => .int i
  | .inr s => .str s
def pairD (p : Key × D) : D := .tup [kD p.1, p.2]
theorem kD_v {F : Hp} {v : V} : ∀ {k : Key}, Dr c F v (kD k) → v = kV k
  | .inl i, h => by rw [Dr.int_of (i := i) h]; rfl
  | .inr s, h => by rw [Dr.str_of (i := s) h]; rfl
theorem merge_new : ∀ (more acc : List (Key × V)), (acc.map (·.1) ++ more.map (·.1)).Nodup → mergeK acc more = acc ++ more
  | [], acc, _ => by rw [List.append_nil]; rfl
  | (k, v) :: more, acc, h => by
    have hk : k ∉ acc.map (·.1) := fun z => by
      rw [List.map_cons, List.nodup_append] at h
      exact h.2.2 k z k List.mem_cons_self rfl
    have e : putK acc k v = acc ++ [(k, v)] := putK_new v (by
      cases q : valV acc k with
      | none => rfl
      | some u =>
        exact absurd (valV_in q) hk)
    show mergeK (putK acc k v) more = _
    rw [e, merge_new more _ (by simpa using h), List.append_assoc]; rfl
theorem pairs_v {F : Hp} : ∀ {kds : List (Key × D)} {vs : List V}, DrL c F vs (kds.map pairD) → ∃ (ps : List Addr) (kvs : List (Key × V)), vs = ps.map V.ref ∧ kvs.map (·.1) = kds.map (·.1) ∧ DrL c F (kvs.map (·.2)) (kds.map (·.2)) ∧
    ∀ (K : PySem.W.Frag) (G : Hp), Same F G → Paired (fun p kv => SqT K G p [kV kv.1, kv.2]) ps kvs
  | [], vs, h => ⟨[], [], h.nil_iff, rfl, .nil, fun K G s => .nil⟩
  | kd :: kds, vs, h => by
    obtain ⟨v, vr, rfl, q, t⟩ := h.cons_iff
    obtain ⟨ps, kvs, rfl, e, r, pp⟩ := pairs_v t
    unfold pairD at q
    simp only [Dr] at q
    obtain ⟨p, us, rfl, hp, q⟩ := q
    obtain ⟨u1, us, rfl, q1, q⟩ := q.cons_iff
    obtain ⟨u2, us, rfl, q2, q⟩ := q.cons_iff
    have eu := q.nil_iff
    subst eu
    have ek := kD_v q1
    subst ek
    exact ⟨p :: ps, (kd.1, u2) :: kvs, rfl, by simp [e], .cons q2 r, fun K G s => .cons (SqT.of (s _ _ hp)) (pp K G s)⟩
theorem new_dk {F M : Hp} {ps : List (Key × V)} {ds : List D} {p : Addr} {Q : VK} {Qd : D → Prop} (dj : Dj F M) (r : DrL c F (ps.map (·.2)) ds) (hp : HH F M p = none) (q : Qd (.dk (ps.map (·.1)) ds)) (k : ∀ d v F', Qd d → Same F F' → Dj F' M → Dr c F' v d → Q v (HH F' M)) :
    Q (.ref p) (upd (HH F M) p (.dK ps)) := by
  obtain ⟨hf, hm⟩ := hh_none hp
  rw [hh_updF hm]
  refine k _ _ _ q (Same.updF hf) (dj.updF hm) ?_
  simp only [Dr]
  exact ⟨p, ps, rfl, .inl upd_same, rfl, r.up (Same.updF hf)⟩
def rDict (K : PySem.W.Frag) : List V → Hp → VK → Prop := fun xs H Q => (∃ (a : Addr) (ps : List Addr) (kvs : List (Key × V)), xs = [.ref a] ∧ SqL K H a (ps.map V.ref) ∧ Paired (fun p kv => SqT K H p [kV kv.1, kv.2]) ps kvs ∧
    ∀ p, H p = none → Q (.ref p) (upd H p (.dK (mergeK [] kvs)))) ∨ ∃ (a : Addr) (kvs : List (Key × V)), xs = [.ref a] ∧ Rd H a (.dK kvs) ∧ ∀ p, H p = none → Q (.ref p) (upd H p (.dK kvs))
theorem call_dictU (hc : X.calm = true) : CallR X (.type "dict") (rDict X.K) := CallR.or (call_dictP hc) call_dictD
def dDict : D → (D → Prop) → Prop
  | .lst ds, Q => ∃ kds : List (Key × D), ds = kds.map pairD ∧ (kds.map (·.1)).Nodup ∧ Q (.dk (kds.map (·.1)) (kds.map (·.2)))
  | .dk ks ds, Q => Q (.dk ks ds)
  | _, _ => False
theorem ro1_dict : Ro1 (cy X) (fun x H Q => rDict X.K [x] H Q) dDict := fun {b F M x d1} Qd Q dj r1 hw k => by
  cases d1 with
  | lst ds =>
    obtain ⟨kds, rfl, nd, q⟩ := hw
    obtain ⟨a, vs, rfl, _, h, r⟩ := r1.lst_of
    obtain ⟨ps, kvs, rfl, e, r2, pp⟩ := pairs_v r
    refine .inl ⟨a, ps, kvs, rfl, SqL.of h, pp _ _ dj.same, fun p hp => ?_⟩
    rw [merge_new kvs [] (by simpa [e] using nd), List.nil_append]
    exact new_dk dj r2 hp (by rw [e]; exact q) k
  | dk ks ds =>
    obtain ⟨a, ps, rfl, _, h, e, r⟩ := r1
    exact .inr ⟨a, ps, rfl, h, fun p hp => new_dk dj r hp (by rw [e]; exact hw) k⟩
  | _ => exact hw.elim

/-! ### isinstance(e, T), T a built-in type -/
def tyD : D → Option String
  | .non => some "NoneType"
  | .bl _ => some "bool"
  | .int _ => some "int"
  | .str _ => some "str"
  | .lst _ => some "list"
  | .tup _ => some "tuple"
  | _ => none
def dIsi (T : String) : D → (D → Prop) → Prop := fun d Q => ∃ t b, tyD d = some t ∧ kitB t T = some b ∧ Q (.bl b)
theorem rop_isi {T : String} : Ro1 (cy X) (fun x H Q => rIsi X.K [x, .ty T] H Q) (dIsi T) := fun {b F M x d1} Qd Q dj r1 hw k => by
  obtain ⟨t, bb, e1, e2, q⟩ := hw
  have fin : TyX X.K (HH F M) x (.type t) → rIsi X.K [x, .ty T] (HH F M) Q := fun ty => ⟨x, .ty T, .type t, .type T, bb, rfl, .ty T, ty, kit_ty e2, k _ _ F q (Same.refl _) dj .of_bl⟩
  cases d1 with
  | non => cases e1; rw [r1.non_of] at fin ⊢; exact fin (.base .non)
  | bl i => cases e1; rw [r1.bl_of] at fin ⊢; exact fin (.base (.bl _))
  | int i => cases e1; rw [r1.int_of] at fin ⊢; exact fin (.base (.int _))
  | str i => cases e1; rw [r1.str_of] at fin ⊢; exact fin (.base (.str _))
  | lst ds =>
    cases e1
    obtain ⟨a, vs, rfl, _, h, r⟩ := r1.lst_of
    exact fin (.base (.lst h))
  | tup ds =>
    cases e1
    obtain ⟨a, vs, rfl, h, r⟩ := r1.tup_of
    exact fin (.base (.tup (dj.f h)))
  | _ => cases e1
theorem de_isi {e : Expr} {te : TE} {w : WE} {x : Str} {T : String} {p p2 pos : Pos} (hg : Gl X "isinstance") (hm : X.mg "isinstance" = none) (hgT : Gl X x) (hmT : X.mg x = none) (hvT : bootBuiltins x = some (.type T)) (ha : DP X e te w)
    (hv : bootBuiltins "isinstance" = some (.builtin "isinstance") := by decide +kernel) (hn : x ≠ "__name__" := by decide) (hdb : (x == ("__debug__" : Str)) = false := by decide)
    (he : starEach (e :: [.Name x p2]) X.env = (false, eval e X.env) :: starEach [.Name x p2] X.env := by rfl) (he2 : starEach (.Name x p2 :: []) X.env = (false, eval (.Name x p2) X.env) :: starEach [] X.env := by rfl)
    (hpl : (backTo pos (starEach [.Name x p2] X.env)).any (·.1) = false := by rfl) :
    DE X (.Call (.Name "isinstance" p) [e, .Name x p2] [] pos) (tCB (rIsi X.K) (tCons te (tCons (tC (.ty T)) tNil))) (wUn (dIsi T) w) :=
  ⟨pe_callB call_isi hg hm hv (pa_cons ha.pe (pa_cons (pe_bltn hgT hmT hvT rfl hn hdb) pa_nil he2) he) (by decide) (by decide) he hpl, fun {b ρ σ F M M0} R Qd Q hw k => snd_un (c := cy X) (r := fun x H Q => rIsi X.K [x, .ty T] H Q) rop_isi ha.sn R Qd Q hw k⟩

/-! ### zip -/
def zipD : List D → List D → List D
  | d :: ds, e :: es => .tup [d, e] :: zipD ds es
  | _, _ => []
theorem zipD_get : ∀ {ds es : List D} {i : Nat} {d : D}, (zipD ds es)[i]? = some d → ∃ x y, ds[i]? = some x ∧ es[i]? = some y ∧ d = .tup [x, y]
  | [], _, i, d, h => by simp [zipD] at h
  | _ :: _, [], i, d, h => by simp [zipD] at h
  | x :: ds, y :: es, 0, d, h => by simp [zipD] at h; exact ⟨x, y, rfl, rfl, h.symm⟩
  | x :: ds, y :: es, i + 1, d, h => by
    obtain ⟨a, b, h1, h2, h3⟩ := zipD_get (ds := ds) (es := es) (i := i) (by simpa [zipD] using h)
    exact ⟨a, b, by simpa using h1, by simpa using h2, h3⟩
theorem zipD_len : ∀ {ds es : List D}, (zipD ds es).length = min ds.length es.length
  | [], _ => by simp [zipD]
  | _ :: _, [] => by simp [zipD]
  | x :: ds, y :: es => by simp [zipD, zipD_len (ds := ds) (es := es)]
theorem itz_ok {F : Hp} {a a2 : Addr} {vs us : List V} {ds es : List D} (h : F a = some (.lst vs)) (r : DrL c F vs ds) (h2 : F a2 = some (.lst us)) (r2 : DrL c F us es) : ItOk c (Itz c.K a a2) F (zipD ds es) := fun F' M' s dj i => by
  have q : SqL c.K (HH F' M') a vs := SqL.of (dj.f (s _ _ h))
  have q2 : SqL c.K (HH F' M') a2 us := SqL.of (dj.f (s _ _ h2))
  refine ⟨fun d hd => ?_, fun e => ⟨vs, us, q, q2, by rw [r.length, r2.length]; rw [zipD_len] at e; omega⟩⟩
  obtain ⟨x, y, hx, hy, rfl⟩ := zipD_get hd
  obtain ⟨v, hv, rv⟩ := r.get hx
  obtain ⟨u, hu, ru⟩ := r2.get hy
  refine ⟨⟨vs, us, v, u, q, q2, hv, hu⟩, fun z H3 hz => ?_⟩
  obtain ⟨T, x', y', rfl, hT, rfl, e1, e2⟩ := hz
  have ex : x' = v := Option.some.inj ((e1 vs q).symm.trans hv)
  have ey : y' = u := Option.some.inj ((e2 us q2).symm.trans hu)
  subst ex ey
  obtain ⟨hf, hm⟩ := hh_none hT
  have s2 : Same F' (upd F' T (.tup [x', y'])) := Same.updF hf
  refine ⟨_, hh_updF hm, s2, dj.updF hm, ?_⟩
  simp only [Dr]
  exact ⟨T, _, rfl, upd_same, .cons (rv.up (s.trans s2)) (.cons (ru.up (s.trans s2)) .nil)⟩
def wZip (wt : WA) : WA := fun ρ Q => wt ρ fun ds ρ1 => match ds with
  | [.lst a, .lst b] => Q (zipD a b) ρ1
  | _ => False
theorem di_zip {e e2 : Expr} {ta : TA} {wt : WA} {p pos tpos : Pos} {elts : List Expr} {kk : Nat} (hg : Gl X "zip") (hm : X.mg "zip" = none) (ha : DA X [e, e2] ta wt)
    (hs : starEach [e, e2] X.env = (false, eval e X.env) :: starEach [e2] X.env := by rfl) (hpl : (backTo pos (starEach [e2] X.env)).any (·.1) = false := by rfl) :
    DI X (.Tuple elts kk tpos) (.Call (.Name "zip" p) [e, e2] [] pos) (iZip X.K ta) (wZip wt) := ⟨pi_zip hg hm ha.pe hs hpl, fun {b ρ σ F M M0} R Qd Q hw k => by
  refine ha.sn R _ _ hw fun ds ρ1 vs F1 M1 M01 q A r => ?_
  match ds, q, r with
  | [.lst xs, .lst ys], q, r =>
    obtain ⟨v, vr, rfl, r1, r2⟩ := r.cons_iff
    obtain ⟨v', vr', rfl, r1', r2'⟩ := r2.cons_iff
    have e2 := r2'.nil_iff
    subst e2
    simp only [Dr] at r1 r1'
    obtain ⟨a, us, rfl, h1, q1⟩ := r1
    obtain ⟨a', us', rfl, h1', q1'⟩ := r1'
    exact ⟨a, a', us, us', rfl, SqL.of (A.rel.dj.f h1), SqL.of (A.rel.dj.f h1'), k _ ρ1 _ F1 M1 M01 q A (itz_ok (c := cy X) h1 q1 h1' q1')⟩⟩
end
end DL

/-! Own dicts: stores. Rows of dicts: copied, read, stored into. -/
namespace DL
open PySem PySem.Spec PyProof.Rows L2

section
variable {κ : Type} [DecidableEq κ]
def setA : List κ → List D → κ → D → List D
  | k :: ks, d :: ds, x, y => (if k = x then y else d) :: setA ks ds x y
  | _, ds, _, _ => ds
def putA (ks : List κ) (ds : List D) (k : κ) (x : D) : List κ × List D := if k ∈ ks then (ks, setA ks ds k x) else (ks ++ [k], ds ++ [x])
theorem putK_A {c : Cy} {F : Hp} {ps : List (κ × V)} {ds : List D} {k : κ} {v : V} {x : D} (r : DrL c F (ps.map (·.2)) ds) (q : Dr c F v x) :
    (putK ps k v).map (·.1) = (putA (ps.map (·.1)) ds k x).1 ∧ DrL c F ((putK ps k v).map (·.2)) (putA (ps.map (·.1)) ds k x).2 := by
  have he : (ps.any fun kv => decide (kv.1 = k)) = decide (k ∈ ps.map (·.1)) := by
    rw [Bool.eq_iff_iff]
    simp only [List.any_eq_true, decide_eq_true_eq, List.mem_map]
  unfold putK putA
  rw [he]
  by_cases h : k ∈ ps.map (·.1)
  · rw [if_pos (decide_eq_true h), if_pos h]
    refine ⟨?_, ?_⟩
    · rw [List.map_map]
      refine List.map_congr_left fun p _ => ?_
      show (if p.1 = k then (p.1, v) else p).1 = p.1
      split <;> rfl
    · clear h he
      induction ps generalizing ds with
      | nil => rw [show ds = [] from by cases ds with | nil => rfl | cons d ds => have := r.length; simp at this]; exact .nil
      | cons p ps ih =>
        cases ds with
        | nil => have := r.length; simp at this
        | cons d ds =>
          obtain ⟨u, ur, e, r1, r2⟩ := r.cons_iff
          simp only [List.map_cons] at e
          cases e
          simp only [List.map_cons, setA]
          refine .cons ?_ (ih r2)
          by_cases z : p.1 = k
          · rw [if_pos z, if_pos z]; exact q
          · rw [if_neg z, if_neg z]; exact r1
  · rw [if_neg (by simpa using h), if_neg h]
    refine ⟨by simp, ?_⟩
    rw [List.map_append]
    exact r.append (.cons q .nil)
end
section
variable {X : Cx} {e e2 ev : Expr} {te t2 tv : TE} {w w2 wv : WE} {pos : Pos}
/-- the keys of a tuple of scalars -/
theorem keyT_v {c : Cy} {F : Hp} {v : V} {ds : List D} {ks : List Key} (h : keysD ds = some ks) (r : Dr c F v (.tup ds)) : ∃ a, v = .ref a ∧ F a = some (.tup (ks.map kV)) := by
  simp only [Dr] at r
  obtain ⟨a, vs, rfl, q, r⟩ := r
  exact ⟨a, rfl, by rw [q, keysD_v h r]⟩
/-! ### name[key] = value, an own dict -/
def isDict : Sl → Prop
  | .ok _ _ => True
  | .ot _ _ => True
  | _ => False
def ownDict (ρ : List Sl) (i : Nat) : Prop := ∃ sl, ρ[i]? = some sl ∧ isDict sl
def wPut (i : Nat) (wk wv : WE) : WS := fun ρ E => wv ρ fun d ρ1 => ownDict ρ1 i ∧ wk ρ1 fun dk ρ2 => match ρ2[i]? with
  | some (.ok ks ds) => ∃ k, keyD dk = some k ∧ ks.length < sizeLine ∧ E.nx (ρ2.set i (.ok (putA ks ds k d).1 (putA ks ds k d).2))
  | some (.ot ks ds) => ∃ kd k, dk = .tup kd ∧ keysD kd = some k ∧ ks.length < sizeLine ∧ E.nx (ρ2.set i (.ot (putA ks ds k d).1 (putA ks ds k d).2))
  | _ => False
theorem ds_put (i : Nat) {xn : Str} {np sp : Pos} (hu : X.A.units + 1 < cLine) (hk : DE X e2 t2 w2) (hv : DE X ev tv wv) (hs : swapsWith ev (some (.Subscript (.Name xn np) e2 sp)) pos.line X.env = pure false := by rfl)
    (hN : X.N[i]? = some xn := by rfl) (hvis : Vis X.env.scope xn := by first | exact Or.inl rfl | exact Or.inr (Or.inl rfl) | exact Or.inr (Or.inr rfl)) (hd : (xn == ("__debug__" : Str)) = false := by decide)
    (hcd : (xn == ("__classdict__" : Str)) = false := by decide) : DS X (.Assign [.Subscript (.Name xn np) e2 sp] ev pos) (sDPut (tVar i) t2 tv) (wPut i w2 wv) :=
  ⟨ps_dput hu (pe_var hN hvis hd hcd) hk.pe hv.pe hs, fun {b ρ σ F M M0} R E Dn hw fin => by
    refine hv.sn R _ _ hw fun d ρ1 v F1 M1 M01 q1 A1 r1 => ?_
    obtain ⟨⟨sl1, e1, hd1⟩, q1⟩ := q1
    have hs1 : isShal sl1 := by cases sl1 <;> first | trivial | exact hd1.elim
    obtain ⟨a, _, _, ha, _⟩ := A1.rel.env.own e1 hs1
    refine ⟨.ref a, ha, ?_⟩
    refine hk.sn A1.rel _ _ q1 fun dk ρ2 y F2 M2 M02 q2 A2 r2 => ?_
    cases e2 : ρ2[i]? with
    | none => simp only [e2] at q2
    | some sl =>
      simp only [e2] at q2
      have r1' := r1.up A2.same
      cases sl with
      | ok ks ds =>
        obtain ⟨k, hk, hl, q⟩ := q2
        obtain ⟨a', o, M', h1, h2, h3, h4, h5, h6, h7, h8⟩ := A2.rel.env.own e2 trivial
        rw [ha] at h1
        have ea : a = a' := by injection h1 with h1; injection h1 with h1; injection h1
        subst ea
        obtain ⟨ps, rfl, rfl, rd⟩ := h2
        have hH : HH F2 M2 a = some (.dK ps) := hh_m (by rw [h5]; exact upd_same)
        rw [keyD_v hk r2]
        refine ⟨a, _, rfl, DPut.k hH (by rw [← List.length_map (f := (·.1))]; exact hl), ?_⟩
        rw [hh_updM]
        have pk := putK_A (k := k) rd r1'
        have t := h8 (.ok _ _) (.dK (putK ps k v)) trivial ⟨_, rfl, pk.1, pk.2⟩
        have eM : upd M2 a (.dK (putK ps k v)) = upd M' a (.dK (putK ps k v)) := by rw [h5, upd_upd]
        rw [eM]
        refine fin.nx _ σ F2 _ M02 q (A1.trans A2).same ⟨?_, t, A2.rel.box⟩ (A1.trans A2).mr
        rw [← eM]
        exact A2.rel.dj.updM h3
      | ot ks ds =>
        obtain ⟨kd, k, rfl, hk, hl, q⟩ := q2
        obtain ⟨a', o, M', h1, h2, h3, h4, h5, h6, h7, h8⟩ := A2.rel.env.own e2 trivial
        rw [ha] at h1
        have ea : a = a' := by injection h1 with h1; injection h1 with h1; injection h1
        subst ea
        obtain ⟨ps, rfl, rfl, rd⟩ := h2
        have hH : HH F2 M2 a = some (.dT ps) := hh_m (by rw [h5]; exact upd_same)
        obtain ⟨kb, rfl, hkb⟩ := keyT_v hk r2
        refine ⟨a, _, rfl, DPut.t hH (A2.rel.dj.f hkb) (by rw [← List.length_map (f := (·.1))]; exact hl), ?_⟩
        rw [hh_updM]
        have pk := putK_A (k := k) rd r1'
        have t := h8 (.ot _ _) (.dT (putK ps k v)) trivial ⟨_, rfl, pk.1, pk.2⟩
        have eM : upd M2 a (.dT (putK ps k v)) = upd M' a (.dT (putK ps k v)) := by rw [h5, upd_upd]
        rw [eM]
        refine fin.nx _ σ F2 _ M02 q (A1.trans A2).same ⟨?_, t, A2.rel.box⟩ (A1.trans A2).mr
        rw [← eM]
        exact A2.rel.dj.updM h3
      | _ => exact q2.elim⟩
/-! ### {} -/
def wfDk : List Sl → (Sl → List Sl → Prop) → Prop := fun ρ Q => Q (.ok [] []) ρ
def wfDt : List Sl → (Sl → List Sl → Prop) → Prop := fun ρ Q => Q (.ot [] []) ρ
theorem df_dk : DF X (.Dict [] [] pos) tDNewK wfDk := ⟨pe_dnewK, fun {b ρ σ F M M0} R Qd Q hw k p hp => by
  obtain ⟨hf, hm⟩ := hh_none hp
  rw [hh_updM]
  exact k (.ok [] []) ρ p _ F M M0 hw R.aft trivial ⟨[], rfl, rfl, .nil⟩ hf hm⟩
theorem df_dt : DF X (.Dict [] [] pos) tDNewT wfDt := ⟨pe_dnewT, fun {b ρ σ F M M0} R Qd Q hw k p hp => by
  obtain ⟨hf, hm⟩ := hh_none hp
  rw [hh_updM]
  exact k (.ot [] []) ρ p _ F M M0 hw R.aft trivial ⟨[], rfl, rfl, .nil⟩ hf hm⟩

/-! ### rows of dicts -/
abbrev RowD := List Key × List D
def rowD (r : RowD) : D := .dk r.1 r.2
def rowT (r : RowD) : OT := .dk r.1 (r.2.map OT.sh)
def rowsT (rows : List RowD) : OT := .lst (rows.map rowT)
theorem otDL_sh : ∀ ds : List D, otDL (ds.map OT.sh) = ds
  | [] => rfl
  | d :: ds => by simp only [List.map_cons, otDL, otD, otDL_sh ds]
theorem otD_rows (rows : List RowD) : otD (rowsT rows) = .lst (rows.map rowD) := by
  have : ∀ rows : List RowD, otDL (rows.map rowT) = rows.map rowD := fun rows => by
    induction rows with
    | nil => rfl
    | cons r rows ih => simp only [List.map_cons, otDL, ih, rowT, otD, otDL_sh, rowD]
  simp only [rowsT, otD, this]
theorem OTRL.shs {c : Cy} {F : Hp} : ∀ {ds : List D} {vs : List V}, DrL c F vs ds → OTRL c F (ds.map OT.sh) vs emp
  | [], vs, r => by rw [r.nil_iff]; simp [OTRL]
  | d :: ds, vs, r => by
    obtain ⟨v, vr, rfl, q, t⟩ := r.cons_iff
    simp only [List.map_cons, OTRL]
    exact ⟨v, vr, emp, emp, rfl, by simp only [OTR]; exact ⟨q, trivial⟩, OTRL.shs t, (fun a o z => nomatch z), (hh_emp emp).symm⟩
theorem OTRL.unsh {c : Cy} {F : Hp} : ∀ {ds : List D} {vs : List V} {M : Hp}, OTRL c F (ds.map OT.sh) vs M → DrL c F vs ds ∧ M = emp
  | [], vs, M, h => by simp only [List.map_nil, OTRL] at h; rw [h.1]; exact ⟨.nil, h.2⟩
  | d :: ds, vs, M, h => by
    simp only [List.map_cons, OTRL] at h
    obtain ⟨v, vr, M1, M2, rfl, r1, r2, d12, rfl⟩ := h
    simp only [OTR] at r1
    obtain ⟨r3, e3⟩ := OTRL.unsh r2
    rw [r1.2, e3]
    exact ⟨.cons r1.1 r3, hh_emp emp⟩
theorem ifT {A B : Prop} (h : A) : (if true = true then A else B) := by rw [if_pos rfl]; exact h
/-- name = [dict(r) for r in rows] : own rows -/
def wCopy (i j : Nat) (w : WA) : WS := fun ρ E => w ρ fun ds ρ1 => ∃ rows : List RowD, ds = rows.map rowD ∧ ds.length ≤ sizeLine ∧ noOwnB ρ1 [i] = true ∧ i < ρ1.length ∧ j < ρ1.length ∧ ∀ x, E.nx (ρ1.set i (.od x (rowsT rows)))
theorem ds_copyRowsS (i j : Nat) {st : Stmt} {wi : TI} {w : WA} {w0 : WS} (hi : Sni (cy X) wi w) (h : DS X st (tAsg (tLc wi (gName j) tYes (tCB (rDict X.K) (tCons (tVar j) tNil)) [j]) (gName i)) w0) :
    DS X st (tAsg (tLc wi (gName j) tYes (tCB (rDict X.K) (tCons (tVar j) tNil)) [j]) (gName i)) (wCopy i j w) := ⟨h.ps, fun {b ρ σ F M M0} R E Dn hw f => by
  refine hi R _ _ hw fun ds ρ1 J F1 M1 M01 q A it => ?_
  obtain ⟨rows, rfl, hlen, hno, hil, hjl, q⟩ := q
  rw [List.length_map] at hlen
  intro p hp
  obtain ⟨hpf, hpm⟩ := hh_none hp
  refine ⟨fun n m H' => m = rows.length - n ∧ n ≤ rows.length ∧ ∃ (us : List V) (N F' : Hp), H' = HH F' (upd (HH M1 N) p (.lst us)) ∧ Same F1 F' ∧ Dj F' M1 ∧ F' p = none ∧ N p = none ∧ Dj M1 N ∧ OTRL (cy X) F' ((rows.take n).map rowT) us N ∧ us.length = n,
    ⟨rows.length, by simp, Nat.zero_le _, [], emp, F1, by rw [hh_emp, hh_updM], Same.refl _, A.rel.dj, hpf, rfl, (fun a o z => nomatch z), by simp [OTRL], rfl⟩, ?_⟩
  rintro n m H' ⟨rfl, hnl, us, N, F', rfl, s, djm, fp, np, djn, tr, ul⟩
  have dFN : Dj F' N := OTRL.dj _ tr
  have djA : Dj F' (upd (HH M1 N) p (.lst us)) := by
    refine Dj.updM (fun a o z => ?_) fp
    rcases hh_some z with z | ⟨_, z⟩
    · exact dFN a o z
    · exact djm a o z
  by_cases hlt : n < rows.length
  · have hd : (rows.map rowD)[n]? = some (rowD rows[n]) := by rw [List.getElem?_map, List.getElem?_eq_getElem hlt]; rfl
    refine .inr ⟨((it F' _ s djA n).1 _ hd).1, fun H2 => n + 1 ≤ rows.length ∧ ∃ (us : List V) (N F' : Hp), H2 = HH F' (upd (HH M1 N) p (.lst us)) ∧ Same F1 F' ∧ Dj F' M1 ∧ F' p = none ∧ N p = none ∧ Dj M1 N ∧ OTRL (cy X) F' ((rows.take (n + 1)).map rowT) us N ∧ us.length = n + 1,
      fun H2 n2 => ⟨rows.length - (n + 1), by omega, rfl, n2.1, n2.2⟩, fun y H3 hy => ?_⟩
    obtain ⟨F3, rfl, s3, dj3, r3⟩ := ((it F' _ s djA n).1 _ hd).2 y H3 hy
    have ej : (wipe σ [j]).length = σ.length := by simp [L2.wipe]
    have hjσ : j < (wipe σ [j]).length := by rw [ej, A.rel.env.length]; exact hjl
    refine ⟨?_, ?_⟩
    · show (((σ.set j none).set j (some y)).set j none) = σ.set j none
      rw [List.set_set, List.set_set]
    · unfold tYes
      dsimp only
      rw [if_pos rfl]
      refine ⟨y, by rw [List.getElem?_set_self hjσ], ?_⟩
      unfold rowD at r3
      simp only [Dr] at r3
      obtain ⟨a, ps, rfl, hrd, hk, rd⟩ := r3
      refine .inr ⟨a, ps, rfl, same_rd dj3.same hrd, fun pp hpp => ?_⟩
      obtain ⟨ppf, ppm⟩ := hh_none hpp
      have npp : pp ≠ p := fun z => by rw [z, upd_same] at ppm; cases ppm
      rw [upd_ne npp] at ppm
      have ppmn := hh_none ppm
      refine ⟨us, by rw [upd_ne npp.symm]; exact hh_m upd_same, by rw [ul]; omega, hlt, us ++ [.ref pp], upd N pp (.dK ps), F3, ?_, s.trans s3, ?_, ?_, ?_, ?_, ?_, by simp [ul]⟩
      · rw [hh_updM, hh_updM]
        congr 1
        rw [upd_comm npp.symm, upd_upd, hh_updM]
      · exact fun a o z => by
          by_cases e : a = p
          · rw [e, hpm] at z; cases z
          · refine dj3 a o ?_
            rw [upd_ne e]
            exact djn.f z
      · exact dj3 p _ upd_same
      · rw [upd_ne npp.symm]; exact np
      · intro a o z
        by_cases e : a = pp
        · rw [e]; exact ppmn.1
        · rw [upd_ne e] at z; exact djn a o z
      · have tr3 : OTRL (cy X) F3 ((rows.take n).map rowT) us N := OTRL.leD (.of s3) _ (fun a o z _ => by
          refine dj3 a o ?_
          have e : a ≠ p := fun e => by rw [e, np] at z; cases z
          rw [upd_ne e]; exact hh_m z) tr
        have t1 : OTR (cy X) F3 (rowT rows[n]) (.ref pp) (upd emp pp (.dK ps)) := by
          simp only [rowT, OTR]
          exact ⟨pp, ps, emp, rfl, hk, OTRL.shs rd, ppf, rfl, rfl⟩
        have := OTRL.snoc t1 tr3 (fun a o z => by
          by_cases e : a = pp
          · rw [e]; exact ppmn.2
          · rw [upd_ne e] at z; cases z)
        rw [← hh_updM, hh_emp] at this
        rw [List.take_succ_eq_append_getElem hlt, List.map_append]
        exact this
  · have en : n = rows.length := by omega
    subst en
    rw [List.take_length] at tr
    refine .inl ⟨(it F' _ s djA _).2 (by rw [List.length_map]), ?_⟩
    show Dn.nx (σ.set i (some (.ref p))) (HH F' (upd (HH M1 N) p (.lst us)))
    rw [hh_updM (F := M1) (M := N)]
    have rT : OTR (cy X) F' (rowsT rows) (.ref p) (upd N p (.lst us)) := by
      simp only [rowsT, OTR]
      exact ⟨p, us, N, rfl, tr, fp, np, rfl⟩
    have djT : Dj M1 (upd N p (.lst us)) := djn.updM hpm
    have G := A.rel.grow s djm
    have hsl : ∃ sl, ρ1[i]? = some sl := ⟨ρ1[i], List.getElem?_eq_getElem hil⟩
    obtain ⟨sl, esl⟩ := hsl
    have t := RelE.setOd (x := .ref p) rT G.rel.env djT esl (noOwn_of hno i (by simp) sl esl)
    refine f.nx _ _ F' _ M01 (q (.ref p)) (A.same.trans s) ⟨fun a o z => ?_, t, G.rel.box⟩ A.mr
    rcases hh_some z with z | ⟨_, z⟩
    · exact OTR.dj _ rT a o z
    · exact djm a o z⟩
theorem ds_copyRows (i j : Nat) {y : Str} {py lp sp : Pos} {elt tg iter : Expr} {ifs : List Expr} {scope : Scope} {wi : TI} {w : WA} {w0 : WS} (hi : DI X tg iter wi w)
    (h : DS X (.Assign [.Name y py] (.ListComp elt [⟨tg, iter, ifs, 0⟩] scope lp) sp) (tAsg (tLc wi (gName j) tYes (tCB (rDict X.K) (tCons (tVar j) tNil)) [j]) (gName i)) w0) :
    DS X (.Assign [.Name y py] (.ListComp elt [⟨tg, iter, ifs, 0⟩] scope lp) sp) (tAsg (tLc wi (gName j) tYes (tCB (rDict X.K) (tCons (tVar j) tNil)) [j]) (gName i)) (wCopy i j w) := ds_copyRowsS i j hi.sn h
/-- one tree of a list of trees: it may be another one -/
theorem OTRL.at {c : Cy} {F : Hp} : ∀ {ts : List OT} {vs : List V} {M : Hp} {k : Nat} {t : OT}, OTRL c F ts vs M → ts[k]? = some t → ∃ v Mk Mr, vs[k]? = some v ∧ OTR c F t v Mk ∧ Dj Mr Mk ∧ M = HH Mr Mk ∧
    ∀ t' Mk', OTR c F t' v Mk' → Dj Mr Mk' → OTRL c F (ts.set k t') vs (HH Mr Mk')
  | [], vs, M, k, t, h, e => by simp at e
  | t0 :: ts, vs, M, 0, t, h, e => by
    simp only [OTRL] at h
    obtain ⟨v, vr, M1, M2, rfl, r1, r2, d, rfl⟩ := h
    simp at e; subst e
    refine ⟨v, M1, M2, rfl, r1, d, rfl, fun t' Mk' r' d' => ?_⟩
    simp only [List.set_cons_zero, OTRL]
    exact ⟨v, vr, Mk', M2, rfl, r', r2, d', rfl⟩
  | t0 :: ts, vs, M, k + 1, t, h, e => by
    simp only [OTRL] at h
    obtain ⟨v, vr, M1, M2, rfl, r1, r2, d, rfl⟩ := h
    obtain ⟨u, Mk, Mr, h1, h2, h3, rfl, h5⟩ := OTRL.at (k := k) r2 (by simpa using e)
    refine ⟨u, Mk, HH Mr M1, by simpa using h1, h2, dj_hh h3 (dj_sym (dj_r d)), hh_swap (dj_r d), fun t' Mk' r' d' => ?_⟩
    simp only [List.set_cons_succ, OTRL]
    exact ⟨v, vr, M1, HH Mr Mk', rfl, r1, h5 t' Mk' r' (dj_l d'), dj_hh (dj_l d) (dj_sym (dj_r d')), hh_swap (dj_r d')⟩
theorem Rel.od_nb {c : Cy} {b : Option Addr} {ρ : List Sl} {σ : L2.St} {F M M0 Mo M' : Hp} (R : Rel c b ρ σ F M M0) (h : ∀ a o, M0 a = some o → M' a = some o) (d : Dj M' Mo) {a : Addr} {o : HO} (q : Mo a = some o) : b ≠ some a := fun e => by
  obtain ⟨_, _, _, h1, _⟩ := R.box a e
  have := d a o q
  rw [h _ _ h1] at this
  cases this
/-! ### name[e] of own rows -/
def wRowPk (i : Nat) (w : WE) : WE := fun ρ Q => (∃ x t, ρ[i]? = some (.od x t)) ∧ w ρ fun d1 ρ1 => ∃ x rows k r, ρ1[i]? = some (.od x (rowsT rows)) ∧ d1 = .int k ∧ 0 ≤ k ∧ rows[k.toNat]? = some r ∧ Q (rowD r) ρ1
theorem snp_row {i : Nat} (he : Snd (cy X) te w) : Snp (cy X) (tOp (rIxU X.K) (tVar i) te) (wRowPk i w) := fun {b ρ σ F M M0} R Qd Q hw k => by
  obtain ⟨⟨x, t, e0⟩, hw⟩ := hw
  obtain ⟨_, _, hx, _⟩ := R.env.ownT e0
  refine ⟨x, hx, ?_⟩
  refine he R _ _ hw fun d1 ρ1 y F1 M1 M01 q A r => ?_
  obtain ⟨x1, rows, n, r0, e1, rfl, h0, hr, q⟩ := q
  obtain ⟨Mo, M', h1, h2, h3, h4, h5, h6, h7⟩ := A.rel.env.ownT e1
  rw [hx] at h1
  have ex : x = x1 := by injection h1 with h1; injection h1 with h1
  subst ex
  simp only [rowsT, OTR] at h2
  obtain ⟨p, us, N, rfl, tr, fp, np, rfl⟩ := h2
  obtain ⟨u, Mk, Mr, g1, g2, g3, rfl, g5⟩ := OTRL.at (k := n.toNat) (t := rowT r0) tr (by rw [List.getElem?_map, hr]; rfl)
  simp only [rowT, OTR] at g2
  obtain ⟨a, ps, N1, rfl, hk, tr1, fa, na, rfl⟩ := g2
  obtain ⟨rd, rfl⟩ := OTRL.unsh tr1
  have hH : HH F1 M1 p = some (.lst us) := hh_m (by rw [h4]; exact hh_m upd_same)
  have hoa : upd (HH Mr (upd emp a (.dK ps))) p (.lst us) a = some (.dK ps) := by
    have nap : a ≠ p := fun z => by rw [← z, hh_m upd_same] at np; cases np
    rw [upd_ne nap]
    exact hh_m upd_same
  have hA : HH F1 M1 a = some (.dK ps) := hh_m (by rw [h4]; exact hh_m hoa)
  refine .inl (.inl ⟨p, us, n, .ref a, rfl, r.int_of, SqL.of hH, atI_nat h0 g1, ?_⟩)
  refine k (rowD r0) ρ1 (.ref a) F1 M1 M01 q A ?_
  exact ⟨a, ps, rfl, A.rel.od_nb h5 h3 hoa, .inl hA, hk, rd⟩
theorem dp_row (i : Nat) {xn : Str} {np : Pos} (hu : X.A.units + 1 < cLine) (he : DE X e te w) (hs : PlainIx e) (hN : X.N[i]? = some xn := by rfl) (hvis : Vis X.env.scope xn := by first | exact Or.inl rfl | exact Or.inr (Or.inl rfl) | exact Or.inr (Or.inr rfl)) (hd : (xn == ("__debug__" : Str)) = false := by decide)
    (hcd : (xn == ("__classdict__" : Str)) = false := by decide) : DP X (.Subscript (.Name xn np) e pos) (tOp (rIxU X.K) (tVar i) te) (wRowPk i w) := ⟨pe_ix (ix_U hu) (pe_var hN hvis hd hcd) he.pe hs, snp_row he.sn⟩
/-- name[e1][key] = value, own rows -/
def wPutRow (i : Nat) (w1 wk wv : WE) : WS := fun ρ E => wv ρ fun d ρ1 => (∃ x t, ρ1[i]? = some (.od x t)) ∧ w1 ρ1 fun d1 ρ2 => (∃ x rows k r, ρ2[i]? = some (.od x (rowsT rows)) ∧ d1 = .int k ∧ 0 ≤ k ∧ rows[k.toNat]? = some r) ∧
  wk ρ2 fun dk ρ3 => ∃ x rows k r key, ρ2[i]? = some (.od x (rowsT rows)) ∧ ρ3[i]? = some (.od x (rowsT rows)) ∧ d1 = .int k ∧ 0 ≤ k ∧ rows[k.toNat]? = some r ∧ keyD dk = some key ∧ r.1.length < sizeLine ∧ E.nx (ρ3.set i (.od x (rowsT (rows.set k.toNat (putA r.1 r.2 key d)))))
theorem ds_putRow (i : Nat) {xn : Str} {np sp sp2 : Pos} (hu : X.A.units + 1 < cLine) (h1 : DE X e te w) (hk : DE X e2 t2 w2) (hv : DE X ev tv wv) (hs1 : PlainIx e) (hs : swapsWith ev (some (.Subscript (.Subscript (.Name xn np) e sp) e2 sp2)) pos.line X.env = pure false := by rfl)
    (hN : X.N[i]? = some xn := by rfl) (hvis : Vis X.env.scope xn := by first | exact Or.inl rfl | exact Or.inr (Or.inl rfl) | exact Or.inr (Or.inr rfl)) (hd : (xn == ("__debug__" : Str)) = false := by decide)
    (hcd : (xn == ("__classdict__" : Str)) = false := by decide) : DS X (.Assign [.Subscript (.Subscript (.Name xn np) e sp) e2 sp2] ev pos) (sDPut (tOp (rIxU X.K) (tVar i) te) t2 tv) (wPutRow i w w2 wv) :=
  ⟨ps_dput hu (pe_ix (ix_U hu) (pe_var hN hvis hd hcd) h1.pe hs1) hk.pe hv.pe hs, fun {b ρ σ F M M0} R E Dn hw fin => by
    refine hv.sn R _ _ hw fun d ρ1 v F1 M1 M01 q1 A1 r1 => ?_
    obtain ⟨⟨x0, t0, e0⟩, q1⟩ := q1
    obtain ⟨_, _, hx, _⟩ := A1.rel.env.ownT e0
    refine ⟨x0, hx, ?_⟩
    refine h1.sn A1.rel _ _ q1 fun d1 ρ2 y F2 M2 M02 q2 A2 r2 => ?_
    obtain ⟨⟨x1, rows, n, r0, e1, rfl, h0, hr⟩, q2⟩ := q2
    obtain ⟨Mo, M', g1, g2, g3, g4, g5, g6, g7⟩ := A2.rel.env.ownT e1
    rw [hx] at g1
    have ex : x0 = x1 := by injection g1 with g1; injection g1 with g1
    subst ex
    simp only [rowsT, OTR] at g2
    obtain ⟨p, us, N, rfl, tr, fp, np, rfl⟩ := g2
    have hH : HH F2 M2 p = some (.lst us) := hh_m (by rw [g4]; exact hh_m upd_same)
    obtain ⟨u, Mk, Mr, k1, k2, k3, rfl, k5⟩ := OTRL.at (k := n.toNat) (t := rowT r0) tr (by rw [List.getElem?_map, hr]; rfl)
    simp only [rowT, OTR] at k2
    obtain ⟨a, ps, N1, rfl, hk', tr1, fa, na, rfl⟩ := k2
    have hnp : b ≠ some p := A2.rel.od_nb g5 g3 upd_same
    refine .inl (.inl ⟨p, us, n, .ref a, rfl, r2.int_of, SqL.of hH, atI_nat h0 k1, ?_⟩)
    refine hk.sn A2.rel _ _ q2 fun dk ρ3 z F3 M3 M03 q3 A3 r3 => ?_
    obtain ⟨x2, rows2, n2, r02, key, e2, e3, en, h02, hr2, hkey, hlen, q⟩ := q3
    cases en
    rw [e1] at e2
    have e2' : rows = rows2 ∧ V.ref p = x2 := by
      injection e2 with e2
      injection e2 with ex er
      have inj : ∀ {r r' : RowD}, rowT r = rowT r' → r = r' := fun {r r'} h => by
        have h' := congrArg otD h
        simp only [rowT, otD, otDL_sh, D.dk.injEq] at h'
        exact Prod.ext h'.1 h'.2
      refine ⟨?_, ex⟩
      simp only [rowsT, OT.lst.injEq] at er
      exact (List.map_inj_right fun _ _ h => inj h).mp er
    obtain ⟨rfl, rfl⟩ := e2'
    rw [hr] at hr2
    cases hr2
    obtain ⟨Mo3, M3', j1, j2, j3, j4, j5, j6, j7⟩ := A3.rel.env.ownT e3
    simp only [rowsT, OTR] at j2
    obtain ⟨p3, us3, N3, ep, tr3, fp3, np3, rfl⟩ := j2
    cases ep
    have hH3 : HH F3 M3 p = some (.lst us3) := hh_m (by rw [j4]; exact hh_m upd_same)
    have eus : us3 = us := by
      have := A3.ext p _ hnp hH
      rw [hH3] at this
      cases this; rfl
    subst eus
    obtain ⟨u3, Mk3, Mr3, l1, l2, l3, rfl, l5⟩ := OTRL.at (k := n.toNat) (t := rowT r0) tr3 (by rw [List.getElem?_map, hr]; rfl)
    rw [k1] at l1
    cases l1
    simp only [rowT, OTR] at l2
    obtain ⟨a3, ps3, N4, ea, hk3, tr4, fa3, na3, rfl⟩ := l2
    cases ea
    obtain ⟨rd, rfl⟩ := OTRL.unsh tr4
    have nap : a ≠ p := fun z => by rw [← z, hh_m upd_same] at np3; cases np3
    have hoa : upd (HH Mr3 (upd emp a (.dK ps3))) p (.lst us3) a = some (.dK ps3) := by
      rw [upd_ne nap]; exact hh_m upd_same
    have hA : HH F3 M3 a = some (.dK ps3) := hh_m (by rw [j4]; exact hh_m hoa)
    rw [keyD_v hkey r3]
    refine ⟨a, _, rfl, DPut.k hA (by rw [← List.length_map (f := (·.1)), hk3]; exact hlen), ?_⟩
    have rv := (r1.up A2.same).up A3.same
    have pk := putK_A (k := key) rd rv
    rw [hh_updM]
    have hMr : Mr3 a = none := l3 a _ upd_same
    have eM : upd M3 a (.dK (putK ps3 key v)) = HH M3' (upd (HH Mr3 (upd emp a (.dK (putK ps3 key v)))) p (.lst us3)) := by
      rw [j4, hh_updM, upd_comm nap.symm, hh_updM, upd_upd]
    rw [eM]
    have dk' : Dj Mr3 (upd emp a (.dK (putK ps3 key v))) := fun y o z => by
      by_cases e : y = a
      · rw [e]; exact hMr
      · rw [upd_ne e] at z; cases z
    have rn : OTR (cy X) F3 (rowsT (rows.set n.toNat (putA r0.1 r0.2 key d))) (.ref p) (upd (HH Mr3 (upd emp a (.dK (putK ps3 key v)))) p (.lst us3)) := by
      simp only [rowsT, OTR]
      refine ⟨p, us3, _, rfl, ?_, fp3, ?_, rfl⟩
      · have := l5 (rowT (putA r0.1 r0.2 key d)) (upd emp a (.dK (putK ps3 key v))) (by
          simp only [rowT, OTR]
          rw [← hk3]
          exact ⟨a, putK ps3 key v, emp, rfl, pk.1, OTRL.shs pk.2, fa3, rfl, rfl⟩) dk'
        rw [List.map_set]
        exact this
      · have h1 := hh_none np3
        rw [hh_n (by rw [upd_ne nap.symm]; rfl)]
        exact h1.1
    have djn : Dj M3' (upd (HH Mr3 (upd emp a (.dK (putK ps3 key v)))) p (.lst us3)) := fun y o z => by
      by_cases e : y = p
      · rw [e]; exact j3 p _ upd_same
      · rw [upd_ne e] at z
        by_cases e' : y = a
        · rw [e']; exact j3 a _ hoa
        · refine j3 y o ?_
          rw [upd_ne e]
          rcases hh_some z with z | ⟨_, z⟩
          · rw [upd_ne e'] at z; cases z
          · exact l3.f z
    have t2 := j7 _ _ rn djn
    have AA := (A1.trans A2).trans A3
    refine fin.nx _ σ F3 _ M03 q AA.same ⟨fun y o z => ?_, t2, A3.rel.box⟩ AA.mr
    rcases hh_some z with z | ⟨_, z⟩
    · exact OTR.dj _ rn y o z
    · exact A3.rel.dj y o (by rw [j4]; exact j3.f z)⟩
end
end DL

/-! Stores into own lists; what is never reached; the new readings, applied. -/
namespace DL
open PySem PySem.Spec PyProof.Rows L2
section
variable {X : Cx} {e ev : Expr} {te tv : TE} {w wv : WE} {pos : Pos}
def wLSet (i : Nat) (w1 wv : WE) : WS := fun ρ E => wv ρ fun d ρ1 => (∃ ds, ρ1[i]? = some (.ol ds)) ∧ w1 ρ1 fun d1 ρ2 => ∃ ds k, ρ2[i]? = some (.ol ds) ∧ d1 = .int k ∧ 0 ≤ k ∧ k < ds.length ∧ E.nx (ρ2.set i (.ol (ds.set k.toNat d)))
theorem ds_lset (i : Nat) {xn : Str} {np sp : Pos} (h1 : DE X e te w) (hv : DE X ev tv wv)
    (hs : swapsWithSole [.Subscript (.Name xn np) e sp] ev pos.line X.env = pure false := by rfl) (hw : swappedStores [.Subscript (.Name xn np) e sp] ev X.env = pure none := by rfl)
    (ha1 : (assignEach [.Subscript (.Name xn np) e sp] X.env).map (·.2) = [assign (.Subscript (.Name xn np) e sp) X.env] := by rfl)
    (ha : ∀ v, assign (.Subscript (.Name xn np) e sp) X.env v = (do
      let ov ← holding [v] (eval (.Name xn np) X.env)
      let iv ← holding [v, ov] (eval e X.env)
      standAt sp
      holding [v, ov, iv] (setItem ov iv v)
      release [v, ov, iv] []) := by intro _; rfl)
    (hN : X.N[i]? = some xn := by rfl) (hvis : Vis X.env.scope xn := by first | exact Or.inl rfl | exact Or.inr (Or.inl rfl) | exact Or.inr (Or.inr rfl)) (hd : (xn == ("__debug__" : Str)) = false := by decide)
    (hcd : (xn == ("__classdict__" : Str)) = false := by decide) : DS X (.Assign [.Subscript (.Name xn np) e sp] ev pos) (tAsg tv (gSub (tVar i) te rSetL)) (wLSet i w wv) :=
  ⟨ps_asg hv.pe (pg_sub (pe_var hN hvis hd hcd) h1.pe set_list ha) hs hw ha1, fun {b ρ σ F M M0} R E Dn hw fin => by
    refine hv.sn R _ _ hw fun d ρ1 v F1 M1 M01 q1 A1 r1 => ?_
    obtain ⟨⟨ds0, e0⟩, q1⟩ := q1
    obtain ⟨p, _, _, hp, _⟩ := A1.rel.env.own e0 trivial
    refine ⟨.ref p, hp, ?_⟩
    refine h1.sn A1.rel _ _ q1 fun d1 ρ2 y F2 M2 M02 q2 A2 r2 => ?_
    obtain ⟨ds, k, e1, rfl, h0, hl, q⟩ := q2
    obtain ⟨a, vs, g1, g2, g3, g4, g5⟩ := A2.rel.ownL e1
    rw [hp] at g1
    have ea : p = a := by injection g1 with g1; injection g1 with g1; injection g1
    subst ea
    have hj : ixN vs.length k = some k.toNat := by
      unfold ixN
      rw [if_pos h0, if_pos (by rw [g2.length]; exact hl)]
    refine ⟨p, vs, k, k.toNat, rfl, r2.int_of, g4, hj, ?_⟩
    show Dn.nx σ (upd (HH F2 M2) p (.lst (vs.set k.toNat v)))
    rw [hh_updM]
    exact fin.nx _ σ F2 _ M02 q (A1.trans A2).same (g5 _ _ (g2.set (r1.up A2.same))) (A1.trans A2).mr⟩
/-- list(e), a new own list -/
def wfList (w : WE) : List Sl → (Sl → List Sl → Prop) → Prop := fun ρ Q => w ρ fun d ρ1 => match d with
  | .lst ds => Q (.ol ds) ρ1
  | .tup ds => Q (.ol ds) ρ1
  | .scr ds => Q (.ol ds) ρ1
  | _ => False
theorem df_list {a : Expr} {ta : TE} {wa : WE} {x : Str} {p : Pos} {r : List V → Hp → VK → Prop} (hc : CallR X (.type "list") r)
    (hr : ∀ (v : V) (H : Hp) (Q : VK) (p : Addr) (ys : List V), v = .ref p → (SqL X.K H p ys ∨ SqT X.K H p ys) → (∀ l, H l = none → Q (.ref l) (upd H l (.lst ys))) → r [v] H Q)
    (hg : Gl X x) (hm : X.mg x = none) (hv : bootBuiltins x = some (.type "list")) (ha : DP X a ta wa)
    (hn : x ≠ "__name__" := by decide) (hdb : (x == ("__debug__" : Str)) = false := by decide) (he : starEach (a :: []) X.env = (false, eval a X.env) :: starEach [] X.env := by rfl) (hpl : (backTo pos (starEach [] X.env)).any (·.1) = false := by rfl) :
    DF X (.Call (.Name x p) [a] [] pos) (tCB r (tCons ta tNil)) (wfList wa) := ⟨pe_callTy hc hg hm hv (pa_cons ha.pe pa_nil he) hn hdb he hpl, fun {b ρ σ F M M0} R Qd Q hw k => by
  refine ha.sn R _ _ hw fun d ρ1 v F1 M1 M01 q A rk => ?_
  have go : ∀ (pp : Addr) (ys : List V) (ds : List D), v = .ref pp → (SqL X.K (HH F1 M1) pp ys ∨ SqT X.K (HH F1 M1) pp ys) → DrL (cy X) F1 ys ds → Qd (.ol ds) ρ1 → r [v] (HH F1 M1) Q := fun pp ys ds e h rd q => hr v _ _ pp ys e h fun l hl => by
    obtain ⟨hf, hm⟩ := hh_none hl
    rw [hh_updM]
    exact k (.ol ds) ρ1 l _ F1 M1 M01 q A trivial ⟨ys, rfl, rd⟩ hf hm
  cases d with
  | lst ds =>
    obtain ⟨a, vs, rfl, _, h, rd⟩ := rk.lst_of
    exact go a vs ds rfl (.inl (SqL.of h)) rd q
  | tup ds =>
    obtain ⟨a, vs, rfl, h, rd⟩ := rk.tup_of
    exact go a vs ds rfl (.inr (SqT.of (A.rel.dj.f h))) rd q
  | scr ds =>
    obtain ⟨a, vs, rfl, h, rd⟩ := rk.scr_of
    exact go a vs ds rfl (.inl (A.rel.dj.same.seq h)) rd q
  | _ => exact q.elim⟩
def wNever : WS := fun _ _ => False
theorem ds_never {st : Stmt} : DS X st tNever wNever := ⟨ps_never, fun {b ρ σ F M M0} R E Dn hw f => hw.elim⟩
end
section
variable {ρ : List Sl} {E : EnD} {w w1 w2 wk wv : WE} {wa : WAs} {wl : WA} {Qd : D → List Sl → Prop} {Ql : List D → List Sl → Prop} {Qs : Sl → List Sl → Prop} {i j : Nat} {n f m : Str}
theorem wLSet_e : wLSet i w1 wv ρ E = wv ρ fun d ρ1 => (∃ ds, ρ1[i]? = some (.ol ds)) ∧ w1 ρ1 fun d1 ρ2 => ∃ ds k, ρ2[i]? = some (.ol ds) ∧ d1 = .int k ∧ 0 ≤ k ∧ k < ds.length ∧ E.nx (ρ2.set i (.ol (ds.set k.toNat d))) := rfl
theorem wfList_e : wfList w ρ Qs = w ρ fun d ρ1 => match d with
  | .lst ds => Qs (.ol ds) ρ1
  | .tup ds => Qs (.ol ds) ρ1
  | .scr ds => Qs (.ol ds) ρ1
  | _ => False := rfl
theorem wNever_e : wNever ρ E = False := rfl
theorem wFld_e : wFld n f w ρ Qd = w ρ fun d ρ1 => match d with
  | .ins n' fs ds => n' = n ∧ ∃ d', lookD fs ds f = some d' ∧ Qd d' ρ1
  | _ => False := rfl
theorem wMeth_e {wf : WFn} : wMeth n m wf w wa ρ Qd = w ρ fun d ρ1 => match d with
  | .ins n' fs ds => (n' = n ∧ m ∉ fs) ∧ wa ρ1 fun as ρ2 => wf (.sh (.ins n' fs ds) :: as) fun r => Qd r ρ2
  | _ => False := rfl
theorem wMake_e {wf : WFo} : wMake n wf wa ρ Qd = wa ρ fun as ρ1 => ∀ x, wf (.od x (.ins n [] []) :: as) fun r as' => ∃ t, as' = .od x t :: as ∧ r = .non ∧ Qd (otD t) ρ1 := rfl
theorem wFldN_e : wFldN i n f w ρ E = w ρ fun d ρ1 => match ρ1[i]? with
  | some (.od x (.ins n' fs ts)) => (n' = n ∧ f ∉ fs ∧ fs.length < 1000) ∧ E.nx (ρ1.set i (.od x (.ins n' (fs ++ [f]) (ts ++ [.sh d]))))
  | _ => False := rfl
theorem wZip_e {wt : WA} : wZip wt ρ Ql = wt ρ fun ds ρ1 => match ds with
  | [.lst a, .lst b] => Ql (zipD a b) ρ1
  | _ => False := rfl
theorem wPut_e : wPut i wk wv ρ E = wv ρ fun d ρ1 => ownDict ρ1 i ∧ wk ρ1 fun dk ρ2 => match ρ2[i]? with
  | some (.ok ks ds) => ∃ k, keyD dk = some k ∧ ks.length < sizeLine ∧ E.nx (ρ2.set i (.ok (putA ks ds k d).1 (putA ks ds k d).2))
  | some (.ot ks ds) => ∃ kd k, dk = .tup kd ∧ keysD kd = some k ∧ ks.length < sizeLine ∧ E.nx (ρ2.set i (.ot (putA ks ds k d).1 (putA ks ds k d).2))
  | _ => False := rfl
theorem wfDk_e : wfDk ρ Qs = Qs (.ok [] []) ρ := rfl
theorem wfDt_e : wfDt ρ Qs = Qs (.ot [] []) ρ := rfl
theorem wCopy_e : wCopy i j wl ρ E = wl ρ fun ds ρ1 => ∃ rows : List RowD, ds = rows.map rowD ∧ ds.length ≤ sizeLine ∧ noOwnB ρ1 [i] = true ∧ i < ρ1.length ∧ j < ρ1.length ∧ ∀ x, E.nx (ρ1.set i (.od x (rowsT rows))) := rfl
theorem wRowPk_e : wRowPk i w ρ Qd = ((∃ x t, ρ[i]? = some (.od x t)) ∧ w ρ fun d1 ρ1 => ∃ x rows k r, ρ1[i]? = some (.od x (rowsT rows)) ∧ d1 = .int k ∧ 0 ≤ k ∧ rows[k.toNat]? = some r ∧ Qd (rowD r) ρ1) := rfl
theorem wPutRow_e : wPutRow i w1 wk wv ρ E = wv ρ fun d ρ1 => (∃ x t, ρ1[i]? = some (.od x t)) ∧ w1 ρ1 fun d1 ρ2 => (∃ x rows k r, ρ2[i]? = some (.od x (rowsT rows)) ∧ d1 = .int k ∧ 0 ≤ k ∧ rows[k.toNat]? = some r) ∧
  wk ρ2 fun dk ρ3 => ∃ x rows k r key, ρ2[i]? = some (.od x (rowsT rows)) ∧ ρ3[i]? = some (.od x (rowsT rows)) ∧ d1 = .int k ∧ 0 ≤ k ∧ rows[k.toNat]? = some r ∧ keyD dk = some key ∧ r.1.length < sizeLine ∧ E.nx (ρ3.set i (.od x (rowsT (rows.set k.toNat (putA r.1 r.2 key d))))) := rfl
end
end DL

/-! Lists unpacked. -/
namespace DL
open PySem PySem.Spec PyProof.Rows L2
def wTpL (is : List Nat) : WG := fun d ρ Q => match d with
  | .lst ds => ds.length = is.length ∧ wStL is ds ρ Q
  | _ => False
theorem wTpL_e {ρ : List Sl} {is : List Nat} {Q : List Sl → Prop} {ds : List D} : wTpL is (.lst ds) ρ Q = (ds.length = is.length ∧ wStL is ds ρ Q) := rfl
theorem sng_lst {c : Cy} (is : List Nat) {n : Nat} (hn : n = is.length) : Sng c (gLst c.K n (gNames is)) (wTpL is) is := fun {b ρ σ F M M0 v d} R r Qd Q hw k => by
  cases d with
  | lst ds =>
    simp only [Dr] at r
    obtain ⟨a, vs, e, q, rl⟩ := r
    exact ⟨a, vs, e, SqL.of (R.dj.f q), by rw [rl.length, hn]; exact hw.1, sngs_names is R rl Qd Q hw.2 k⟩
  | _ => exact hw.elim
section
variable {X : Cx} {pos : Pos}
theorem dg_lst {es : List Expr} {k : Nat} (is : List Nat) (hc : X.calm = true) (h : PGs X es (gNames is)) (hn : (assignEach es X.env).length = is.length := by rfl) (hst : (assignEach es X.env).findIdx? (·.1) = none := by rfl) : DG X (.Tuple es k pos) (gLst X.K is.length (gNames is)) (wTpL is) is :=
  ⟨pg_lst hc h hn hst, sng_lst (c := cy X) is rfl⟩
end
end DL

/-! name += int; own dict(..); == of equal flat dicts. -/
namespace DL
open PySem PySem.Spec PyProof.Rows L2
section
variable {X : Cx} {pos : Pos}
/-! ### name += e, name -= e -/
theorem rop_ipI {c : Cy} {g : Int → Int → Int} : Rop c (ipI g) (dI2 fun i j => .int (g i j)) := fun {b F M x y d1 d2} Qd Q dj r1 r2 hw k => by
  cases d1 with
  | int i =>
    cases d2 with
    | int j =>
      rw [r1.int_of, r2.int_of]
      exact ⟨i, j, rfl, rfl, k _ _ F hw (Same.refl _) dj (fun _ f _ => f) .of_int⟩
    | _ => exact hw.elim
  | _ => exact hw.elim
abbrev dAddI := dI2 fun i j => D.int (i + j)
theorem ip_mul : PIp X .Mult (rI CMul fun i j => .int (i * j)) := by
  intro pins s σ H x y v u Q I r1 r2 h
  obtain ⟨i, j, e1, e2, hc, q⟩ := h
  subst e1; subst e2
  obtain ⟨t, rfl⟩ := r1
  obtain ⟨t', rfl⟩ := r2
  exact PySem.AutoIntOps.imul_0 ⟨.int _, H, I.tok _, ⟨_, rfl⟩, q⟩ hc.ok
/-! ### name = dict(e), an own dict -/
def wfDict (w : WE) : List Sl → (Sl → List Sl → Prop) → Prop := fun ρ Q => w ρ fun d ρ1 => match d with
  | .lst ds => ∃ kds : List (Key × D), ds = kds.map pairD ∧ (kds.map (·.1)).Nodup ∧ Q (.ok (kds.map (·.1)) (kds.map (·.2))) ρ1
  | .dk ks ds => Q (.ok ks ds) ρ1
  | _ => False
theorem df_dict {a : Expr} {ta : TE} {wa : WE} {x : Str} {p : Pos} (hc : X.calm = true)
    (hg : Gl X x) (hm : X.mg x = none) (hv : bootBuiltins x = some (.type "dict")) (ha : DP X a ta wa)
    (hn : x ≠ "__name__" := by decide) (hdb : (x == ("__debug__" : Str)) = false := by decide) (he : starEach (a :: []) X.env = (false, eval a X.env) :: starEach [] X.env := by rfl) (hpl : (backTo pos (starEach [] X.env)).any (·.1) = false := by rfl) :
    DF X (.Call (.Name x p) [a] [] pos) (tCB (rDict X.K) (tCons ta tNil)) (wfDict wa) := ⟨pe_callTy (call_dictU hc) hg hm hv (pa_cons ha.pe pa_nil he) hn hdb he hpl, fun {b ρ σ F M M0} R Qd Q hw k => by
  refine ha.sn R _ _ hw fun d ρ1 v F1 M1 M01 q A rk => ?_
  have go : ∀ (l : Addr) (ps : List (Key × V)) (ks : List Key) (ds : List D), ps.map (·.1) = ks → DrL (cy X) F1 (ps.map (·.2)) ds → Qd (.ok ks ds) ρ1 → HH F1 M1 l = none → Q (.ref l) (upd (HH F1 M1) l (.dK ps)) := fun l ps ks ds e rd q hl => by
    obtain ⟨hf, hm⟩ := hh_none hl
    rw [hh_updM]
    exact k (.ok ks ds) ρ1 l _ F1 M1 M01 q A trivial ⟨ps, rfl, e, rd⟩ hf hm
  cases d with
  | lst ds =>
    obtain ⟨kds, rfl, nd, q⟩ := q
    obtain ⟨a, vs, rfl, _, h, r⟩ := rk.lst_of
    obtain ⟨ps, kvs, rfl, e, r2, pp⟩ := pairs_v r
    refine .inl ⟨a, ps, kvs, rfl, SqL.of h, pp _ _ A.rel.dj.same, fun p hp => ?_⟩
    rw [merge_new kvs [] (by simpa [e] using nd), List.nil_append]
    exact go p kvs _ _ e r2 q hp
  | dk ks ds =>
    obtain ⟨a, ps, rfl, _, h, e, r⟩ := rk
    exact .inr ⟨a, ps, rfl, h, fun p hp => go p ps _ _ e r q hp⟩
  | _ => exact q.elim⟩
/-! ### == of equal flat dicts -/
def dEqS : D → D → (D → Prop) → Prop
  | .dk ks ds, .dk ks' ds', Q => ks' = ks ∧ ds' = ds ∧ ks.Nodup ∧ (∀ d ∈ ds, flatD d = true) ∧ Q (.bl true)
  | _, _, _ => False
theorem flat_v {c : Cy} {F : Hp} {v u : V} : ∀ {d : D}, flatD d = true → Dr c F v d → Dr c F u d → v = u ∧ flatB v = true
  | .non, _, h, g => by rw [h.non_of, g.non_of]; exact ⟨rfl, rfl⟩
  | .bl _, _, h, g => by rw [h.bl_of, g.bl_of]; exact ⟨rfl, rfl⟩
  | .int _, _, h, g => by rw [h.int_of, g.int_of]; exact ⟨rfl, rfl⟩
  | .str _, _, h, g => by rw [h.str_of, g.str_of]; exact ⟨rfl, rfl⟩
theorem flat_dicts {c : Cy} {F : Hp} {κ : Type} [DecidableEq κ] : ∀ {ps qs : List (κ × V)} {ds : List D}, ps.map (·.1) = qs.map (·.1) → (ps.map (·.1)).Nodup → (∀ d ∈ ds, flatD d = true) → DrL c F (ps.map (·.2)) ds → DrL c F (qs.map (·.2)) ds →
    ∀ p ∈ ps, ∃ u, valV qs p.1 = some u ∧ (p.2 = u ∧ flatB p.2 = true) := by
  intro ps
  induction ps with
  | nil => intro qs ds _ _ _ _ _ p hp; cases hp
  | cons a ps ih =>
    intro qs ds e nd fl r1 r2 p hp
    cases qs with
    | nil => cases e
    | cons b qs =>
      obtain ⟨k1, v1⟩ := a
      obtain ⟨k2, v2⟩ := b
      simp only [List.map_cons, List.cons.injEq] at e
      obtain ⟨e1, e2⟩ := e
      subst e1
      cases ds with
      | nil => have := r1.length; simp at this
      | cons d ds =>
        simp only [List.map_cons] at r1 r2
        obtain ⟨u1, w1, f1, q1, t1⟩ := r1.cons_iff
        obtain ⟨u2, w2, f2, q2, t2⟩ := r2.cons_iff
        cases f1
        cases f2
        rw [List.map_cons, List.nodup_cons] at nd
        rcases List.mem_cons.mp hp with rfl | hp
        · have := flat_v (fl d List.mem_cons_self) q1 q2
          exact ⟨_, by simp [valV], this⟩
        · obtain ⟨u, hu, h⟩ := ih e2 nd.2 (fun d hd => fl d (List.mem_cons_of_mem _ hd)) t1 t2 p hp
          refine ⟨u, ?_, h⟩
          have hne : k1 ≠ p.1 := fun z => nd.1 (by rw [z]; exact List.mem_map.mpr ⟨p, hp, rfl⟩)
          unfold valV at hu ⊢
          rw [List.find?_cons_of_neg (by simpa using hne)]
          exact hu
def rDkS : R2 := fun x y H Q => ∃ a b ks ls, x = .ref a ∧ y = .ref b ∧ Rd H a (.dK ks) ∧ Rd H b (.dK ls) ∧ ks.length = ls.length ∧ (∀ p ∈ ks, ∃ u, valV ls p.1 = some u ∧ (p.2 = u ∧ flatB p.2 = true)) ∧ Q (.bl true) H
theorem op_dkS (hu : X.A.units + 64 < cLine) : OpR X (compareOp .Eq) rDkS := by
  intro pins s σ H x y v u Q I rx ry h
  obtain ⟨a, b, ks, ls, rfl, rfl, ha, hb, hl, hp, q⟩ := h
  cases (show v = Value.ref a from rx)
  cases (show u = Value.ref b from ry)
  obtain ⟨_, ya, va, ra, da⟩ := (show ObjOk X.prog X.w H s.heap a (.dK ks) from ha.ok I.hok)
  obtain ⟨_, yb, vb, rb, db⟩ := (show ObjOk X.prog X.w H s.heap b (.dK ls) from hb.ok I.hok)
  refine PySem.W.rcP_dicts (knd := mixKind X.prog X.w) (r := true) ya yb da db (by omega) (fun _ => hits_run (F := fun x y => x = y ∧ flatB x = true) (fun x y v u h r1 r2 => by
    obtain ⟨rfl, f⟩ := h
    exact (eqAt_same r1 r2 f).eqP) rb ra hp) _ _ ?_
  have e : va.length = vb.length := by rw [← ra.length, ← rb.length]; exact hl
  rw [show (va.length == vb.length && true) = true from by rw [e]; simp]
  exact ⟨.bl true, H, I, rfl, q⟩
theorem rop_eqS : Rop (cy X) rDkS dEqS := fun {b F M x y d1 d2} Qd Q dj r1 r2 hw k => by
  cases d1 with
  | dk ks ds =>
    cases d2 with
    | dk ks' ds' =>
      obtain ⟨rfl, rfl, nd, fl, q⟩ := hw
      obtain ⟨a, ps, rfl, _, h, e, r⟩ := r1
      obtain ⟨a2, qs, rfl, _, h2, e2, r2⟩ := r2
      refine ⟨a, a2, ps, qs, rfl, rfl, h, h2, ?_, flat_dicts (e.trans e2.symm) (by rw [e]; exact nd) fl r r2, k _ _ F q (Same.refl _) dj (fun _ f _ => f) .of_bl⟩
      have := congrArg List.length (e.trans e2.symm)
      simpa using this
    | _ => exact hw.elim
  | _ => exact hw.elim
end
section
variable {ρ : List Sl} {w : WE} {Qs : Sl → List Sl → Prop}
theorem wfDict_e : wfDict w ρ Qs = w ρ fun d ρ1 => match d with
  | .lst ds => ∃ kds : List (Key × D), ds = kds.map pairD ∧ (kds.map (·.1)).Nodup ∧ Qs (.ok (kds.map (·.1)) (kds.map (·.2))) ρ1
  | .dk ks ds => Qs (.ok ks ds) ρ1
  | _ => False := rfl
end
end DL

/-! Loops over mapped lists and ranges; comprehensions over mapped lists. -/
namespace DL
open PySem PySem.Spec PyProof.Rows L2
section
variable {α : Type} {g : α → D} {wg : WG} {wb : WS} {we : WE} {E : EnD} {vs : List Nat}
theorem for_pre {l : List α} (I : List α → List Sl → Prop)
    (step : ∀ dn a rest, l = dn ++ a :: rest → ∀ ρ, I dn ρ → ∀ K : List Sl → Prop, (∀ ρ', I (dn ++ [a]) ρ' → K ρ') → wg (g a) ρ fun ρ1 => wb ρ1 { nx := K, ct := K, bk := E.nx, rt := E.rt })
    (fin : ∀ ρ, I l ρ → E.nx ρ) (ρ : List Sl) (h : I [] ρ) : wForL wg wb (l.map g) ρ E := by
  refine wForL_rule (fun r ρ => ∃ dn rest, l = dn ++ rest ∧ r = rest.map g ∧ I dn ρ) ?_ ?_ _ _ ⟨[], l, rfl, rfl, h⟩
  · rintro d r ρ ⟨dn, rest, e, hr, hI⟩ C hC
    cases rest with
    | nil => cases hr
    | cons a rest =>
      cases hr
      exact step dn a rest e ρ hI C fun ρ' h' => hC ρ' ⟨dn ++ [a], rest, by rw [e]; simp, rfl, h'⟩
  · rintro ρ ⟨dn, rest, e, hr, hI⟩
    have : rest = [] := List.map_eq_nil_iff.mp hr.symm
    subst this
    rw [List.append_nil] at e
    subst e
    exact fin ρ hI
theorem rangeD_nat (n : Int) : rangeD 0 n = (List.range n.toNat).map fun i : Nat => D.int (i : Int) := by
  unfold rangeD
  rw [Int.sub_zero]
  refine List.map_congr_left fun i _ => ?_
  rw [Int.zero_add]
theorem range_split {n k : Nat} {a : Nat} {dn rest : List Nat} (h : List.range n = dn ++ a :: rest) : dn = List.range a ∧ a < n := by
  have ha : (List.range n)[dn.length]? = some a := by rw [h]; simp
  have hl : dn.length < n := by
    have := congrArg List.length h
    simp at this; omega
  rw [List.getElem?_range hl] at ha
  have e : dn.length = a := Option.some.inj ha
  refine ⟨?_, by omega⟩
  have ht : (List.range n).take dn.length = dn := by rw [h]; simp
  rw [List.take_range, Nat.min_eq_left (by omega), e] at ht
  exact ht.symm
theorem for_nat {n : Int} (I : Nat → List Sl → Prop)
    (step : ∀ k : Nat, (k : Int) < n → ∀ ρ, I k ρ → ∀ K : List Sl → Prop, (∀ ρ', I (k + 1) ρ' → K ρ') → wg (.int (k : Int)) ρ fun ρ1 => wb ρ1 { nx := K, ct := K, bk := E.nx, rt := E.rt })
    (fin : ∀ ρ, I n.toNat ρ → E.nx ρ) (ρ : List Sl) (h : I 0 ρ) : wForL wg wb (rangeD 0 n) ρ E := by
  rw [rangeD_nat]
  refine for_pre (g := fun i : Nat => D.int (i : Int)) (fun dn ρ => I dn.length ρ) ?_ ?_ ρ h
  · intro dn a rest e ρ hI C hC
    obtain ⟨e1, e2⟩ := range_split (k := 0) e
    have hl : dn.length = a := by rw [e1, List.length_range]
    subst hl
    exact step dn.length (by omega) ρ hI C fun ρ' h' => hC ρ' (by rw [List.length_append]; exact h')
  · intro ρ hI
    rw [List.length_range] at hI
    exact fin ρ hI
theorem lc_map {ρ : List Sl} {Q : List D → List Sl → Prop} (h : α → D) : ∀ (l : List α) (acc : List D),
    (∀ a ∈ l, ∀ Kt : D → List Sl → Prop, Kt (h a) ρ → wg (g a) ρ fun ρ1 => we ρ1 fun y ρ3 => noOwnB ρ3 vs = true ∧ Kt y (wipeD ρ3 vs)) → Q (acc ++ l.map h) ρ → wLcL vs wg wYes we (l.map g) ρ acc Q
  | [], acc, _, q => by rw [List.map_nil, List.append_nil] at q; exact q
  | a :: l, acc, st, q => st a List.mem_cons_self (fun y ρ' => wLcL vs wg wYes we (l.map g) ρ' (acc ++ [y]) Q) (lc_map h l (acc ++ [h a]) (fun b hb => st b (List.mem_cons_of_mem _ hb)) (by rw [List.append_assoc]; exact q))
end
theorem sum_snoc {α : Type} {l : List α} {a : α} {g : α → Int} : ((l ++ [a]).map g).sum = (l.map g).sum + g a := by
  rw [List.map_append, List.sum_append_int]; simp
end DL

/-! a, b = x, y with plain local names. -/
namespace DL
open PySem PySem.Spec PyProof.Rows L2
def wPar (i j : Nat) (w : WA) : WS := fun ρ E => w ρ fun ds ρ1 => match ds with
  | [d1, d2] => wSt i d1 ρ1 fun ρ2 => wSt j d2 ρ2 E.nx
  | _ => False
theorem wPar_e {i j : Nat} {w : WA} {ρ : List Sl} {E : EnD} : wPar i j w ρ E = w ρ fun ds ρ1 => match ds with
  | [d1, d2] => wSt i d1 ρ1 fun ρ2 => wSt j d2 ρ2 E.nx
  | _ => False := rfl
section
variable {X : Cx} {pos : Pos}
theorem ds_par {i j : Nat} {x y : Str} {a b : Expr} {ta : TA} {w : WA} {px py pt : Pos} {kt k2 pt2} (hc : X.calm = true) (hN : X.N.Nodup) (hi : X.N[i]? = some x) (hj : X.N[j]? = some y) (hij : i ≠ j)
    (hx : X.env.scope.names.lookup x = some .local) (hy : X.env.scope.names.lookup y = some .local) (ha : DA X [a, b] ta w)
    (hw : swappedStores [.Tuple [.Name x px, .Name y py] kt pt] (.Tuple [a, b] k2 pt2) X.env = pure (some [x, y]))
    (hs : swapsWithSole [.Tuple [.Name x px, .Name y py] kt pt] (.Tuple [a, b] k2 pt2) pos.line X.env = pure false := by rfl) :
    DS X (.Assign [.Tuple [.Name x px, .Name y py] kt pt] (.Tuple [a, b] k2 pt2) pos) (tPar i j ta) (wPar i j w) := ⟨ps_par hc hN hi hj hij hx hy ha.pe hw hs, fun {b ρ σ F M M0} R E Dn hw f => by
  refine ha.sn R _ _ hw fun ds ρ1 vs F1 M1 M01 q A r => ?_
  match ds, q with
  | [d1, d2], q =>
    obtain ⟨v1, vr, rfl, r1, rr⟩ := r.cons_iff
    obtain ⟨v2, vr2, rfl, r2, r3⟩ := rr.cons_iff
    have e3 := r3.nil_iff
    subst e3
    refine ⟨v1, v2, rfl, ?_⟩
    refine sng_name i A.rel r1 (fun ρ2 => wSt j d2 ρ2 E.nx) (fun σ' H' => gName j v2 σ' H' Dn.nx) q fun ρ2 σ2 F2 M2 M02 q2 s2 x2 R2 m2 _ => ?_
    refine sng_name j R2 (r2.up s2) _ _ q2 fun ρ3 σ3 F3 M3 M03 q3 s3 x3 R3 m3 _ => ?_
    exact f.nx ρ3 σ3 F3 M3 M03 q3 ((A.same.trans s2).trans s3) R3 ((A.mr.trans m2).trans m3)⟩
end
end DL

/-! Own instances whose fields hold own lists and dicts: reading, appending, storing. -/
namespace DL
open PySem PySem.Spec PyProof.Rows L2
theorem lookup_idx {f : Str} {u : V} : ∀ {ps : List (Str × V)} {j : Nat}, (ps.map (·.1)).Nodup → (ps.map (·.1))[j]? = some f → (ps.map (·.2))[j]? = some u → ps.lookup f = some u
  | [], j, _, h, _ => by simp at h
  | (g, v) :: ps, 0, _, h1, h2 => by
    simp at h1 h2; subst h1; subst h2
    rw [List.lookup_cons_self]
  | (g, v) :: ps, j + 1, nd, h1, h2 => by
    rw [List.map_cons, List.nodup_cons] at nd
    have h1' : (ps.map (·.1))[j]? = some f := by simpa using h1
    have h2' : (ps.map (·.2))[j]? = some u := by simpa using h2
    have ne : ¬ (f = g) := fun z => nd.1 (by rw [← z]; exact List.mem_of_getElem? h1')
    rw [List.lookup_cons, show (f == g) = false by simpa using ne]
    exact lookup_idx nd.2 h1' h2'
theorem Rel.fld {c : Cy} {b : Option Addr} {ρ : List Sl} {σ : L2.St} {F M M0 : Hp} {i j : Nat} {x : V} {n f : Str} {fs : List Str} {ts : List OT} {t : OT} (R : Rel c b ρ σ F M M0) (e : ρ[i]? = some (.od x (.ins n fs ts))) (hj : ts[j]? = some t) (hf : fs[j]? = some f) (nd : fs.Nodup) :
    ∃ a C dx ps u Mk, x = .ref a ∧ σ[i]? = some (some (.ref a)) ∧ c.mg n = some (.ref C) ∧ HH F M a = some (.ins C dx ps) ∧ b ≠ some a ∧ ps.lookup f = some u ∧ OTR c F t u Mk ∧ (∀ y o, Mk y = some o → M y = some o ∧ b ≠ some y) ∧
      ∀ l o o' t', Mk = upd emp l o → OTR c F t' u (upd emp l o') → Rel c b (ρ.set i (.od x (.ins n fs (ts.set j t')))) σ F (upd M l o') M0 := by
  obtain ⟨Mo, M', h1, h2, h3, h4, h5, h6, h7⟩ := R.env.ownT e
  simp only [OTR] at h2
  obtain ⟨a, C, dx, ps, M1, rfl, hg, rfl, rl, fa, ma, rfl⟩ := h2
  obtain ⟨u, Mk, Mr, g1, g2, g3, rfl, g5⟩ := OTRL.at (k := j) rl hj
  have hMa : M a = some (.ins C dx ps) := by rw [h4]; exact hh_m upd_same
  have kM : ∀ y o, Mk y = some o → upd (HH Mr Mk) a (.ins C dx ps) y = some o := fun y o q => by
    have ne : y ≠ a := fun z => by rw [z] at q; rw [hh_m q] at ma; cases ma
    rw [upd_ne ne]; exact hh_m q
  refine ⟨a, C, dx, ps, u, Mk, rfl, h1, hg, hh_m hMa, R.od_nb h5 h3 upd_same, lookup_idx nd hf g1, g2, fun y o q => ⟨by rw [h4]; exact hh_m (kM y o q), R.od_nb h5 h3 (kM y o q)⟩, fun l o o' t' eK r' => ?_⟩
  subst eK
  have hl : upd (emp : Hp) l o l = some o := upd_same
  have hla : l ≠ a := fun z => by rw [← z, hh_m hl] at ma; cases ma
  have d' : Dj Mr (upd emp l o') := fun y w q => by
    by_cases z : y = l
    · rw [z]; exact g3 l o hl
    · rw [upd_ne z] at q; cases q
  have rl' := g5 t' _ r' d'
  have eM1 : HH Mr (upd emp l o') = upd (HH Mr (upd emp l o)) l o' := by rw [hh_updM, upd_upd]
  have rn : OTR c F (.ins n (ps.map (·.1)) (ts.set j t')) (.ref a) (upd (upd (HH Mr (upd emp l o)) l o') a (.ins C dx ps)) := by
    simp only [OTR]
    refine ⟨a, C, dx, ps, _, rfl, hg, rfl, ?_, fa, ?_, rfl⟩
    · rw [← eM1]; exact rl'
    · rw [upd_ne (Ne.symm hla)]; exact ma
  have lM' : M' l = none := h3 l o (kM l o hl)
  have djn : Dj M' (upd (upd (HH Mr (upd emp l o)) l o') a (.ins C dx ps)) := fun y w q => by
    by_cases z : y = a
    · rw [z]; exact h3 a _ upd_same
    · rw [upd_ne z] at q
      by_cases z' : y = l
      · rw [z']; exact lM'
      · rw [upd_ne z'] at q
        exact h3 y w (by rw [upd_ne z]; exact q)
  have eM : upd M l o' = HH M' (upd (upd (HH Mr (upd emp l o)) l o') a (.ins C dx ps)) := by
    rw [h4, hh_updM, upd_comm (Ne.symm hla)]
  rw [eM]
  refine ⟨fun y w q => ?_, h7 _ _ rn djn, R.box⟩
  rcases hh_some q with q | ⟨_, q⟩
  · exact OTR.dj _ rn y w q
  · exact R.dj y w (by rw [h4]; exact h3.f q)
/-! ### what a field shows -/
def peekD : OT → D → Prop
  | .sh d, e => e = d
  | .lst us, e => ∃ ds, us = ds.map OT.sh ∧ e = .lst ds
  | .dk ks us, e => ∃ ds, us = ds.map OT.sh ∧ e = .dk ks ds
  | .dt ks us, e => ∃ ds, us = ds.map OT.sh ∧ e = .dt ks ds
  | _, _ => False
theorem peek_rk {c : Cy} {b : Option Addr} {F M : Hp} {t : OT} {d : D} {u : V} {Mk : Hp} (dj : Dj F M) (nb : ∀ a o, F a = some o → b ≠ some a) (h : peekD t d) (r : OTR c F t u Mk) (k : ∀ y o, Mk y = some o → M y = some o ∧ b ≠ some y) : Rk c b F M u d := by
  cases t with
  | sh d0 =>
    cases h
    simp only [OTR] at r
    exact Rk.of dj nb r.1
  | lst us =>
    obtain ⟨ds, rfl, rfl⟩ := h
    simp only [OTR] at r
    obtain ⟨l, vs, M1, rfl, r1, f1, m1, rfl⟩ := r
    obtain ⟨r2, rfl⟩ := OTRL.unsh r1
    have := k l _ upd_same
    exact ⟨l, vs, rfl, this.2, hh_m this.1, r2⟩
  | dk ks us =>
    obtain ⟨ds, rfl, rfl⟩ := h
    simp only [OTR] at r
    obtain ⟨l, ps, M1, rfl, e1, r1, f1, m1, rfl⟩ := r
    obtain ⟨r2, rfl⟩ := OTRL.unsh r1
    have := k l _ upd_same
    exact ⟨l, ps, rfl, this.2, .inl (hh_m this.1), e1, r2⟩
  | dt ks us =>
    obtain ⟨ds, rfl, rfl⟩ := h
    simp only [OTR] at r
    obtain ⟨l, ps, M1, rfl, e1, r1, f1, m1, rfl⟩ := r
    obtain ⟨r2, rfl⟩ := OTRL.unsh r1
    have := k l _ upd_same
    exact ⟨l, ps, rfl, this.2, .inl (hh_m this.1), e1, r2⟩
  | ins _ _ _ => exact h.elim
/-- where a field stands -/
def fldAt (fs : List Str) (ts : List OT) (f : Str) (j : Nat) (t : OT) : Prop := fs.Nodup ∧ fs[j]? = some f ∧ ts[j]? = some t
section
variable {X : Cx} {e e2 : Expr} {te t2 : TE} {w w2 : WE} {pos : Pos}
/-- name.f, name an own instance -/
def wOFld (i : Nat) (n f : Str) : WE := fun ρ Q => match ρ[i]? with
  | some (.od _ (.ins n' fs ts)) => n' = n ∧ ∃ j t d, fldAt fs ts f j t ∧ peekD t d ∧ Q d ρ
  | _ => False
theorem dp_ofld (i : Nat) {n f xn : Str} {C : Addr} {np : Pos} (hm : X.mg n = some (.ref C)) (hc : Cls X.K C) (hn : NoAttr X.K C f) (hN : X.N[i]? = some xn := by rfl) (hvis : Vis X.env.scope xn := by first | exact Or.inl rfl | exact Or.inr (Or.inl rfl) | exact Or.inr (Or.inr rfl))
    (hd : (xn == ("__debug__" : Str)) = false := by decide) (hcd : (xn == ("__classdict__" : Str)) = false := by decide) (hb : attributeBase (.Name xn np) f X.env (eval (.Name xn np) X.env) = eval (.Name xn np) X.env := by rfl) :
    DP X (.Attribute (.Name xn np) f pos) (tFld X.K (tVar i) f) (wOFld i n f) := ⟨pe_fld (pe_var hN hvis hd hcd) hb, fun {b ρ σ F M M0} R Qd Q hw k => by
  unfold wOFld at hw
  cases e1 : ρ[i]? with
  | none => simp only [e1] at hw
  | some sl =>
    simp only [e1] at hw
    cases sl with
    | od x t0 =>
      cases t0 with
      | ins n' fs ts =>
        obtain ⟨rfl, j, t, d, ⟨nd, hf, hj⟩, hp, q⟩ := hw
        obtain ⟨a, C', dx, ps, u, Mk, rfl, h1, hg, hH, hnb, hl, hr, hk, _⟩ := R.fld e1 hj hf nd
        have eC : C' = C := by
          have hg : X.mg n' = some (.ref C') := hg
          rw [hm] at hg
          cases hg; rfl
        subst eC
        exact ⟨.ref a, h1, a, _, dx, ps, u, rfl, hH, hc, hn, hl, k d ρ u F M M0 q R.aft (peek_rk R.dj (fun a o z => R.nb z) hp hr hk)⟩
      | _ => exact hw.elim
    | _ => exact hw.elim⟩
end
end DL

/-! Own instances: stores into their fields' lists and dicts, new own fields, own methods. -/
namespace DL
open PySem PySem.Spec PyProof.Rows L2
section
variable {X : Cx} {e e2 : Expr} {te t2 : TE} {w w2 : WE} {pos : Pos}
theorem cls_eq {n : Str} {C C' : Addr} (hm : X.mg n = some (.ref C)) (hg : (cy X).mg n = some (.ref C')) : C' = C := by
  have hg : X.mg n = some (.ref C') := hg
  rw [hm] at hg
  cases hg; rfl
/-- a shared field of an own instance -/
def wOFldS (i : Nat) (n f : Str) : WE := fun ρ Q => match ρ[i]? with
  | some (.od _ (.ins n' fs ts)) => n' = n ∧ ∃ j d, fldAt fs ts f j (.sh d) ∧ Q d ρ
  | _ => False
theorem de_ofld (i : Nat) {n f xn : Str} {C : Addr} {np : Pos} (hm : X.mg n = some (.ref C)) (hc : Cls X.K C) (hn : NoAttr X.K C f) (hN : X.N[i]? = some xn := by rfl) (hvis : Vis X.env.scope xn := by first | exact Or.inl rfl | exact Or.inr (Or.inl rfl) | exact Or.inr (Or.inr rfl))
    (hd : (xn == ("__debug__" : Str)) = false := by decide) (hcd : (xn == ("__classdict__" : Str)) = false := by decide) (hb : attributeBase (.Name xn np) f X.env (eval (.Name xn np) X.env) = eval (.Name xn np) X.env := by rfl) :
    DE X (.Attribute (.Name xn np) f pos) (tFld X.K (tVar i) f) (wOFldS i n f) := ⟨pe_fld (pe_var hN hvis hd hcd) hb, fun {b ρ σ F M M0} R Qd Q hw k => by
  unfold wOFldS at hw
  cases e1 : ρ[i]? with
  | none => simp only [e1] at hw
  | some sl =>
    simp only [e1] at hw
    cases sl with
    | od x t0 =>
      cases t0 with
      | ins n' fs ts =>
        obtain ⟨rfl, j, d, ⟨nd, hf, hj⟩, q⟩ := hw
        obtain ⟨a, C', dx, ps, u, Mk, rfl, h1, hg, hH, hnb, hl, hr, hk, _⟩ := R.fld e1 hj hf nd
        have eC := cls_eq hm hg
        subst eC
        simp only [OTR] at hr
        exact ⟨.ref a, h1, a, _, dx, ps, u, rfl, hH, hc, hn, hl, k d ρ u F M M0 q R.aft hr.1⟩
      | _ => exact hw.elim
    | _ => exact hw.elim⟩
/-! ### name.f.append(e) -/
def wOApp (i : Nat) (n f : Str) (w : WE) : WS := fun ρ E => (∃ (x : V) (fs : List Str) (ts : List OT) (j : Nat) (ds : List D), ρ[i]? = some (.od x (.ins n fs ts)) ∧ fldAt fs ts f j (.lst (ds.map OT.sh))) ∧ w ρ fun d ρ1 => match ρ1[i]? with
  | some (.od x (.ins n' fs ts)) => n' = n ∧ ∃ (j : Nat) (ds : List D), fldAt fs ts f j (.lst (ds.map OT.sh)) ∧ ds.length < sizeLine ∧ E.nx (ρ1.set i (.od x (.ins n' fs (ts.set j (.lst ((ds ++ [d]).map OT.sh))))))
  | _ => False
theorem sns_oapp {i : Nat} {n f : Str} {C : Addr} (hm : X.mg n = some (.ref C)) (hc : Cls X.K C) (hn : NoAttr X.K C f) (he : Snd (cy X) te w) : Sns (cy X) (tDrop (tBM X.K "list" rAppend (tFld X.K (tVar i) f) (tCons te tNil))) (wOApp i n f w) := fun {b ρ σ F M M0} R E Dn hw fin => by
  obtain ⟨⟨x, fs, ts, j, ds, e0, nd, hf, hj⟩, hw⟩ := hw
  obtain ⟨a, C', dx, ps, u, Mk, rfl, h1, hg, hH, hnb, hl, hr, hk, _⟩ := R.fld e0 hj hf nd
  have eC := cls_eq hm hg
  subst eC
  simp only [OTR] at hr
  obtain ⟨l, vs0, N1, rfl, r1, f1, m1, rfl⟩ := hr
  obtain ⟨r2, rfl⟩ := OTRL.unsh r1
  have hl0 := hk l _ upd_same
  refine ⟨.ref a, h1, a, _, dx, ps, .ref l, rfl, hH, hc, hn, hl, .inl ⟨rfl, vs0, SqL.of (hh_m hl0.1)⟩, ?_⟩
  refine he R _ _ hw fun d ρ1 v F1 M1 M01 q A r => ?_
  cases e1 : ρ1[i]? with
  | none => simp only [e1] at q
  | some sl =>
    simp only [e1] at q
    cases sl with
    | od x1 t0 =>
      cases t0 with
      | ins n' fs1 ts1 =>
        obtain ⟨rfl, j1, ds1, ⟨nd1, hf1, hj1⟩, hz, q⟩ := q
        obtain ⟨a1, C1, dx1, ps1, u1, Mk1, rfl, k1, kg, kH, knb, kl, kr, kk, kset⟩ := A.rel.fld e1 hj1 hf1 nd1
        rw [h1] at k1
        have ea : a = a1 := by injection k1 with k1; injection k1 with k1; injection k1
        subst ea
        have hH1 := A.ext a _ hnb hH
        rw [kH] at hH1
        cases hH1
        rw [hl] at kl
        cases kl
        simp only [OTR] at kr
        obtain ⟨l', vs, N2, el, r3, f3, m3, rfl⟩ := kr
        cases el
        obtain ⟨r4, rfl⟩ := OTRL.unsh r3
        have hl1 := kk l _ upd_same
        refine ⟨l, vs, v, rfl, rfl, hh_m hl1.1, by rw [r4.length]; exact hz, ?_⟩
        rw [hh_updM]
        have R2 := kset l _ (.lst (vs ++ [v])) (.lst ((ds1 ++ [d]).map OT.sh)) rfl (by
          simp only [OTR]
          exact ⟨l, vs ++ [v], emp, rfl, OTRL.shs (r4.append (.cons r .nil)), f3, rfl, rfl⟩)
        exact fin.nx _ _ F1 _ M01 q A.same R2 A.mr
      | _ => exact q.elim
    | _ => exact q.elim
theorem ds_oapp (i : Nat) {n f xn : Str} {C : Addr} {np fp apos cpos spos : Pos} (hm : X.mg n = some (.ref C)) (hc : Cls X.K C) (hn : NoAttr X.K C f) (he : DE X e te w) (hN : X.N[i]? = some xn := by rfl) (hvis : Vis X.env.scope xn := by first | exact Or.inl rfl | exact Or.inr (Or.inl rfl) | exact Or.inr (Or.inr rfl))
    (hd : (xn == ("__debug__" : Str)) = false := by decide) (hcd : (xn == ("__classdict__" : Str)) = false := by decide) (hb : attributeBase (.Name xn np) f X.env (eval (.Name xn np) X.env) = eval (.Name xn np) X.env := by rfl)
    (hbase : attributeBase (.Attribute (.Name xn np) f fp) "append" X.env (eval (.Attribute (.Name xn np) f fp) X.env) = eval (.Attribute (.Name xn np) f fp) X.env := by rfl)
    (hfew : ((backTo cpos (starEach (e :: []) X.env)).all (fun x => !x.1) && (backToKw cpos (keywordEach [] X.env)).all (fun x => x.1.isSome)
      && decide ((e :: []).length + ([] : List Keyword).length + (if ([] : List Keyword).isEmpty then 0 else 1) < 30)) = true := by rfl)
    (hline : (apos.endLine == cpos.line) = true := by rfl) (hs : starEach (e :: []) X.env = (false, eval e X.env) :: starEach [] X.env := by rfl) (hplain : (backTo cpos (starEach [] X.env)).any (·.1) = false := by rfl)
    (hsw : swapsWith (.Call (.Attribute (.Attribute (.Name xn np) f fp) "append" apos) [e] [] cpos) none spos.line X.env = pure false := by rfl) :
    DS X (.Expr (.Call (.Attribute (.Attribute (.Name xn np) f fp) "append" apos) [e] [] cpos) spos) (tDrop (tBM X.K "list" rAppend (tFld X.K (tVar i) f) (tCons te tNil))) (wOApp i n f w) :=
  ⟨ps_expr (pe_bm PySem.F.plainAttrs_list PySem.F.slot_list_append PySem.F.type_list_append mt_append (pe_fld (pe_var hN hvis hd hcd) hb) (pa_cons he.pe pa_nil hs) hbase hfew hline hs hplain) hsw, sns_oapp hm hc hn he.sn⟩
/-! ### name.f[key] = e, tuple keys -/
def wOPut (i : Nat) (n f : Str) (wk wv : WE) : WS := fun ρ E => wv ρ fun d ρ1 => (∃ (x : V) (fs : List Str) (ts : List OT) (j : Nat) (ks : List (List Key)) (ds : List D), ρ1[i]? = some (.od x (.ins n fs ts)) ∧ fldAt fs ts f j (.dt ks (ds.map OT.sh))) ∧ wk ρ1 fun dk ρ2 => match ρ2[i]? with
  | some (.od x (.ins n' fs ts)) => n' = n ∧ ∃ (j : Nat) (ks : List (List Key)) (ds : List D) (kd : List D) (k : List Key), fldAt fs ts f j (.dt ks (ds.map OT.sh)) ∧ dk = .tup kd ∧ keysD kd = some k ∧ ks.length < sizeLine ∧ E.nx (ρ2.set i (.od x (.ins n' fs (ts.set j (.dt (putA ks ds k d).1 ((putA ks ds k d).2.map OT.sh))))))
  | _ => False
theorem ds_oput (i : Nat) {n f xn : Str} {C : Addr} {ev : Expr} {tv : TE} {wv : WE} {np fp sp : Pos} (hm : X.mg n = some (.ref C)) (hc : Cls X.K C) (hn : NoAttr X.K C f) (hu : X.A.units + 1 < cLine) (hk : DE X e2 t2 w2) (hv : DE X ev tv wv)
    (hs : swapsWith ev (some (.Subscript (.Attribute (.Name xn np) f fp) e2 sp)) pos.line X.env = pure false := by rfl) (hN : X.N[i]? = some xn := by rfl) (hvis : Vis X.env.scope xn := by first | exact Or.inl rfl | exact Or.inr (Or.inl rfl) | exact Or.inr (Or.inr rfl))
    (hd : (xn == ("__debug__" : Str)) = false := by decide) (hcd : (xn == ("__classdict__" : Str)) = false := by decide) (hb : attributeBase (.Name xn np) f X.env (eval (.Name xn np) X.env) = eval (.Name xn np) X.env := by rfl) :
    DS X (.Assign [.Subscript (.Attribute (.Name xn np) f fp) e2 sp] ev pos) (sDPut (tFld X.K (tVar i) f) t2 tv) (wOPut i n f w2 wv) :=
  ⟨ps_dput hu (pe_fld (pe_var hN hvis hd hcd) hb) hk.pe hv.pe hs, fun {b ρ σ F M M0} R E Dn hw fin => by
    refine hv.sn R _ _ hw fun d ρ1 v F1 M1 M01 q1 A1 r1 => ?_
    obtain ⟨⟨x, fs, ts, j, ks, ds, e0, nd, hf, hj⟩, q1⟩ := q1
    obtain ⟨a, C', dx, ps, u, Mk, rfl, h1, hg, hH, hnb, hl, hr, hk', _⟩ := A1.rel.fld e0 hj hf nd
    have eC := cls_eq hm hg
    subst eC
    simp only [OTR] at hr
    obtain ⟨l, qs, N1, rfl, eq1, r3, f1, m1, rfl⟩ := hr
    refine ⟨.ref a, h1, a, _, dx, ps, .ref l, rfl, hH, hc, hn, hl, ?_⟩
    refine hk.sn A1.rel _ _ q1 fun dk ρ2 y F2 M2 M02 q2 A2 r2 => ?_
    cases e1 : ρ2[i]? with
    | none => simp only [e1] at q2
    | some sl =>
      simp only [e1] at q2
      cases sl with
      | od x1 t0 =>
        cases t0 with
        | ins n' fs1 ts1 =>
          obtain ⟨rfl, j1, ks1, ds1, kd, k, ⟨nd1, hf1, hj1⟩, rfl, hkey, hz, q⟩ := q2
          obtain ⟨a1, C1, dx1, ps1, u1, Mk1, rfl, k1, kg, kH, knb, kl, kr, kk, kset⟩ := A2.rel.fld e1 hj1 hf1 nd1
          rw [h1] at k1
          have ea : a = a1 := by injection k1 with k1; injection k1 with k1; injection k1
          subst ea
          have hH1 := A2.ext a _ hnb hH
          rw [kH] at hH1
          cases hH1
          rw [hl] at kl
          cases kl
          simp only [OTR] at kr
          obtain ⟨l', qs1, N2, el, eq2, r4, f3, m3, rfl⟩ := kr
          cases el
          subst eq2
          obtain ⟨r5, rfl⟩ := OTRL.unsh r4
          have hl1 := kk l _ upd_same
          obtain ⟨kb, rfl, hkb⟩ := keyT_v hkey r2
          refine ⟨l, _, rfl, DPut.t (hh_m hl1.1) (A2.rel.dj.f hkb) (by rw [← List.length_map (f := (·.1))]; exact hz), ?_⟩
          rw [hh_updM]
          have pk := putK_A (k := k) r5 (r1.up A2.same)
          have R2 := kset l _ (.dT (putK qs1 k v)) (.dt (putA (qs1.map (·.1)) ds1 k d).1 ((putA (qs1.map (·.1)) ds1 k d).2.map OT.sh)) rfl (by
            simp only [OTR]
            exact ⟨l, putK qs1 k v, emp, rfl, pk.1, OTRL.shs pk.2, f3, rfl, rfl⟩)
          exact fin.nx _ _ F2 _ M02 q (A1.trans A2).same R2 (A1.trans A2).mr
        | _ => exact q2.elim
      | _ => exact q2.elim⟩
end
end DL

/-! Own instances: new own fields, own methods; expressions that change own objects. -/
namespace DL
open PySem PySem.Spec PyProof.Rows L2
def slT : Sl → OT
  | .ol ds => .lst (ds.map OT.sh)
  | .ok ks ds => .dk ks (ds.map OT.sh)
  | .ot ks ds => .dt ks (ds.map OT.sh)
  | .oi n fs ds => .ins n fs (ds.map OT.sh)
  | .sh d => .sh d
  | _ => .sh .non
theorem ObR.otr {c : Cy} {F : Hp} {l : Addr} : ∀ {sl : Sl} {o : HO}, ObR c F sl o → F l = none → OTR c F (slT sl) (.ref l) (upd emp l o)
  | .ol ds, o, ⟨vs, e, h⟩, f => by subst e; simp only [slT, OTR]; exact ⟨l, vs, emp, rfl, OTRL.shs h, f, rfl, rfl⟩
  | .ok ks ds, o, ⟨ps, e, k, h⟩, f => by subst e; simp only [slT, OTR]; exact ⟨l, ps, emp, rfl, k, OTRL.shs h, f, rfl, rfl⟩
  | .ot ks ds, o, ⟨ps, e, k, h⟩, f => by subst e; simp only [slT, OTR]; exact ⟨l, ps, emp, rfl, k, OTRL.shs h, f, rfl, rfl⟩
  | .oi n fs ds, o, ⟨C, dx, ps, e, m, k, h⟩, f => by subst e; simp only [slT, OTR]; exact ⟨l, C, dx, ps, emp, rfl, m, k, OTRL.shs h, f, rfl, rfl⟩
  | .no, _, h, _ => h.elim
  | .sh _, _, h, _ => h.elim
  | .bx, _, h, _ => h.elim
  | .od _ _, _, h, _ => h.elim
section
variable {X : Cx} {e e2 : Expr} {te t2 : TE} {w w2 : WE} {pos : Pos} {C : Addr}
/-- name.f = a new own list or dict -/
def wFldNO (i : Nat) (n f : Str) (wf : List Sl → (Sl → List Sl → Prop) → Prop) : WS := fun ρ E => wf ρ fun sl ρ1 => match ρ1[i]? with
  | some (.od x (.ins n' fs ts)) => (n' = n ∧ f ∉ fs ∧ fs.length < 1000) ∧ E.nx (ρ1.set i (.od x (.ins n' (fs ++ [f]) (ts ++ [slT sl]))))
  | _ => False
theorem ds_fldNO (i : Nat) {n xn f : Str} {np pos' : Pos} {wf : List Sl → (Sl → List Sl → Prop) → Prop} (hm : X.mg n = some (.ref C)) (hc : Cls X.K C) (hn : NoAttr X.K C f) (hv : DF X e te wf)
    (hs : swapsWith e (some (.Attribute (.Name xn np) f pos')) pos.line X.env = pure false := by rfl) (hN : X.N[i]? = some xn := by rfl) (hvis : Vis X.env.scope xn := by first | exact Or.inl rfl | exact Or.inr (Or.inl rfl) | exact Or.inr (Or.inr rfl))
    (hd : (xn == ("__debug__" : Str)) = false := by decide) (hcd : (xn == ("__classdict__" : Str)) = false := by decide) : DS X (.Assign [.Attribute (.Name xn np) f pos'] e pos) (sFld X.K (tVar i) te f) (wFldNO i n f wf) :=
  ⟨ps_fld (pe_var hN hvis hd hcd) hv.pe hs, fun {b ρ σ F M M0} R E Dn hw fin => by
    refine hv.sn R _ _ hw fun sl ρ1 l o F1 M1 M01 q A hsl r fl ml => ?_
    cases e1 : ρ1[i]? with
    | none => simp only [e1] at q
    | some s0 =>
      simp only [e1] at q
      cases s0 with
      | od x t0 =>
        cases t0 with
        | ins n' fs ts =>
          obtain ⟨⟨rfl, hf, hl⟩, q⟩ := q
          obtain ⟨Mo, M', h1, h2, h3, h4, h5, h6, h7⟩ := A.rel.env.ownT e1
          simp only [OTR] at h2
          obtain ⟨a, C', dx, ps, M2, rfl, hg, rfl, rl, fa, ma, rfl⟩ := h2
          have eC := cls_eq hm hg
          subst eC
          have hMa : M1 a = some (.ins C' dx ps) := by rw [h4]; exact hh_m upd_same
          have nla : l ≠ a := fun z => by rw [z, hMa] at ml; cases ml
          have hH : HH F1 (upd M1 l o) a = some (.ins C' dx ps) := hh_m (by rw [upd_ne (Ne.symm nla)]; exact hMa)
          refine ⟨.ref a, h1, a, C', dx, ps, rfl, hH, hc, hn, by rw [← List.length_map (f := (·.1))]; exact hl, ?_⟩
          rw [putF_new hf, hh_updM]
          have lM' : M' l = none := by
            cases z : M' l with
            | none => rfl
            | some w0 => rw [h4, h3.f z] at ml; cases ml
          have lM2 : M2 l = none := by
            cases z : M2 l with
            | none => rfl
            | some w0 =>
              have : M1 l = some w0 := by rw [h4]; exact hh_m (by rw [upd_ne nla]; exact z)
              rw [this] at ml; cases ml
          have eN : HH M2 (upd emp l o) = upd M2 l o := by rw [← hh_updM, hh_emp]
          have eM : upd (upd M1 l o) a (.ins C' dx (ps ++ [(f, .ref l)])) = HH M' (upd (upd M2 l o) a (.ins C' dx (ps ++ [(f, .ref l)]))) := by
            rw [h4, hh_updM, hh_updM, upd_comm (Ne.symm nla), upd_upd]
          rw [eM]
          have d2 : Dj M2 (upd emp l o) := fun y w0 z => by
            by_cases e : y = l
            · rw [e]; exact lM2
            · rw [upd_ne e] at z; cases z
          have djn : Dj M' (upd (upd M2 l o) a (.ins C' dx (ps ++ [(f, .ref l)]))) := fun y w0 z => by
            by_cases e : y = a
            · rw [e]; exact h3 a _ upd_same
            · rw [upd_ne e] at z
              by_cases e' : y = l
              · rw [e']; exact lM'
              · rw [upd_ne e'] at z
                exact h3 y w0 (by rw [upd_ne e]; exact z)
          have rn : OTR (cy X) F1 (.ins n' (ps.map (·.1) ++ [f]) (ts ++ [slT sl])) (.ref a) (upd (upd M2 l o) a (.ins C' dx (ps ++ [(f, .ref l)]))) := by
            simp only [OTR]
            refine ⟨a, C', dx, ps ++ [(f, .ref l)], upd M2 l o, rfl, hg, by simp, ?_, fa, by rw [upd_ne (Ne.symm nla)]; exact ma, rfl⟩
            have := OTRL.snoc (r.otr fl) rl d2
            rw [eN] at this
            simpa using this
          have t2 := h7 _ _ rn djn
          refine fin.nx _ σ F1 _ M01 q A.same ⟨fun y w0 z => ?_, t2, A.rel.box⟩ A.mr
          rcases hh_some z with z | ⟨_, z⟩
          · exact OTR.dj _ rn y w0 z
          · exact A.rel.dj y w0 (by rw [h4]; exact (h3.f z))
        | _ => exact q.elim
      | _ => exact q.elim⟩
/-! ### expressions that change own objects -/
def Sndx (c : Cy) (te : TE) (w : WE) : Prop := ∀ {b : Option Addr} {ρ : List Sl} {σ : L2.St} {F M M0 : Hp}, Rel c b ρ σ F M M0 → ∀ (Qd : D → List Sl → Prop) (Q : VK), w ρ Qd →
  (∀ d ρ' v F' M' M0', Qd d ρ' → Same F F' → Rel c b ρ' σ F' M' M0' → MR b M0 M0' → Dr c F' v d → Q v (HH F' M')) → te σ (HH F M) Q
structure DX (X : Cx) (e : Expr) (te : TE) (w : WE) : Prop where
  pe : PE X e te
  sn : Sndx (cy X) te w
theorem DE.dx (h : DE X e te w) : DX X e te w := ⟨h.pe, fun {b ρ σ F M M0} R Qd Q hw k => h.sn R Qd Q hw fun d ρ' v F' M' M0' q A r => k d ρ' v F' M' M0' q A.same A.rel A.mr r⟩
/-- name.m(..), name an own instance -/
def wMethO (i : Nat) (n m : Str) (wf : WFo) (wa : WAs) : WE := fun ρ Q => (∃ (x : V) (fs : List Str) (ts : List OT), ρ[i]? = some (.od x (.ins n fs ts)) ∧ m ∉ fs) ∧ wa ρ fun as ρ1 => match ρ1[i]? with
  | some (.od x t) => wf (.od x t :: as) fun r as' => ∃ t', as' = .od x t' :: as ∧ Q r (ρ1.set i (.od x t'))
  | _ => False
theorem snx_methO {t : TA} {wt : WAs} {i : Nat} {n m : Str} {wf : WFo} {E : XK} (hm : X.mg n = some (.ref C)) (ha : Snas (cy X) t wt) : Sndx (cy X) (tMeth C m (spO (cy X) wf) [] E (tVar i) t) (wMethO i n m wf wt) := fun {b ρ σ F M M0} R Qd Q hw k => by
  obtain ⟨⟨x, fs, ts, e0, hnm⟩, hw⟩ := hw
  obtain ⟨Mo, M', h1, h2, h3, h4, h5, h6, h7⟩ := R.env.ownT e0
  simp only [OTR] at h2
  obtain ⟨a, C', dx, ps, M2, rfl, hg, rfl, rl, fa, ma, rfl⟩ := h2
  have eC := cls_eq hm hg
  subst eC
  have hH : HH F M a = some (.ins C' dx ps) := hh_m (by rw [h4]; exact hh_m upd_same)
  refine ⟨.ref a, h1, a, dx, ps, rfl, hH, lookup_no hnm, ?_⟩
  refine ha R _ _ hw fun as ρ1 vs F1 M1 M01 q A ar => ?_
  rw [List.append_nil]
  cases e1 : ρ1[i]? with
  | none => simp only [e1] at q
  | some sl =>
    simp only [e1] at q
    cases sl with
    | od x1 t1 =>
      obtain ⟨Mo1, M1', k1, k2, k3, k4, k5, k6, k7⟩ := A.rel.env.ownT e1
      rw [h1] at k1
      have ex : x1 = .ref a := by injection k1 with k1; injection k1 with k1; exact k1.symm
      subst ex
      refine ⟨b, F1, M1, M1', .od (.ref a) t1 :: as, _, rfl, ⟨A.rel.dj, ⟨some (.ref a), vs.map some, rfl, Mo1, M1', rfl, k2, k3, k4, ar.relE M1'⟩, fun z hz => ?_⟩, q, fun d v as' F' M'' M1'' hq s R' mr r => ?_⟩
      · obtain ⟨da, ns, n0, g1, g2, g3⟩ := A.rel.box z hz
        exact ⟨da, ns, n0, k5 _ _ g1, g2, g3⟩
      · obtain ⟨t', rfl, q⟩ := hq
        obtain ⟨v1, σr, ee, Mo2, M3, e2, j2, j3, rfl, tt⟩ := R'.env
        cases ee
        cases e2
        have e3 := argsD_only ar tt
        subst e3
        have Rn : Rel (cy X) b (ρ1.set i .no) (σ.set i none) F1 M1' M01 := ⟨fun y o z => A.rel.dj y o (by rw [k4]; exact k3.f z), k6 none, A.rel.box⟩
        have dj' : Dj F' M3 := fun y o z => R'.dj y o (j3.f z)
        obtain ⟨M0', A2⟩ := Rn.after s dj' (fun z hz => R'.box z hz) mr
        have hi : i < ρ1.length := by
          rcases Nat.lt_or_ge i ρ1.length with z | z
          · exact z
          · rw [List.getElem?_eq_none z] at e1; cases e1
        have st := RelE.setOd j2 A2.rel.env j3 (i := i) (sl := .no) (by rw [List.getElem?_set_self hi]) (fun z => z)
        rw [List.set_set, List.set_set] at st
        have eσ : σ.set i (some (.ref a)) = σ := by
          refine List.ext_getElem? fun y => ?_
          by_cases z : y = i
          · rw [z, h1]
            have hl : i < σ.length := by
              rcases Nat.lt_or_ge i σ.length with z | z
              · exact z
              · rw [List.getElem?_eq_none z] at h1; cases h1
            rw [List.getElem?_set_self hl]
          · rw [List.getElem?_set_ne (Ne.symm z)]
        rw [eσ] at st
        exact k d _ v F' (HH M3 Mo2) M0' q (A.same.trans s) ⟨R'.dj, st, A2.rel.box⟩ (A.mr.trans A2.mr) r
    | _ => exact q.elim
theorem dx_methO (i : Nat) {n m xn : Str} {np apos : Pos} {t : TA} {wt : WAs} {es : List Expr} {k : Nat} {f : Addr} {fd : FuncData} {ps : List Str} {wf : WFo} {pl : Sem Bool} (G : FnOk X.prog X.w X.K X.mg X.base CX0 k f fd ps (spO (cy X) wf)) (hr : Room k X.A) (hm : X.mg n = some (.ref C)) (hc : Cls X.K C) (hme : Meth X.K C m f) (hb : Binds X.K fd ps []) (ha : DAs X (e :: es) t wt)
    (hN : X.N[i]? = some xn := by rfl) (hvis : Vis X.env.scope xn := by first | exact Or.inl rfl | exact Or.inr (Or.inl rfl) | exact Or.inr (Or.inr rfl)) (hd : (xn == ("__debug__" : Str)) = false := by decide) (hcd : (xn == ("__classdict__" : Str)) = false := by decide)
    (hst : starEach (e :: es) X.env = (false, eval e X.env) :: starEach es X.env := by rfl) (hpl : (backTo pos (starEach es X.env)).any (·.1) = false := by rfl)
    (ht : eval (.Call (.Attribute (.Name xn np) m apos) (e :: es) [] pos) X.env = (do
      let ov ← eval (.Name xn np) X.env
      standAt apos.atName
      let (f, first) ← holding [ov] (getMethod ov m pl)
      callWith pos f first (backTo pos (starEach (e :: es) X.env)) (backToKw pos (keywordEach [] X.env))) := by rfl) :
    DX X (.Call (.Attribute (.Name xn np) m apos) (e :: es) [] pos) (tMeth C m (spO (cy X) wf) [] E0 (tVar i) t) (wMethO i n m wf wt) :=
  ⟨pe_meth (pe_var hN hvis hd hcd) hc hme G hr hb .nil pass0 ha.pe hst hpl ht, snx_methO hm ha.sn⟩
/-! ### statements of them -/
theorem dsx_expr (he : DX X e te w) (hs : swapsWith e none pos.line X.env = pure false := by rfl) : DS X (.Expr e pos) (tDrop te) (wDrop w) := ⟨ps_expr he.pe hs, fun {b ρ σ F M M0} R E Dn hw f =>
  he.sn R _ _ hw fun d ρ1 v F1 M1 M01 q s R1 m r => f.nx ρ1 σ F1 M1 M01 q s R1 m⟩
theorem dsx_ret (he : DX X e te w) : DS X (.Return (some e) pos) (tRet te) (wRet w) := ⟨ps_ret he.pe, fun {b ρ σ F M M0} R E Dn hw f =>
  he.sn R _ _ hw fun d ρ1 v F1 M1 M01 q s R1 m r => f.rt d v ρ1 σ F1 M1 M01 q s R1 m r⟩
theorem dsx_set {i : Nat} {x : Str} {pos' : Pos} (hN : X.N.Nodup) (hi : X.N[i]? = some x) (hx : Loc X.env.scope x) (he : DX X e te w) (hs : swapsWith e (some (.Name x pos')) pos.line X.env = pure false := by rfl) (hf : X.fn x = true ∨ X.env.scope.names.lookup x = some .local := by first | exact .inl rfl | exact .inr rfl | assumption) :
    DS X (.Assign [.Name x pos'] e pos) (tAsg te (gName i)) (wAsg w (wSt i)) := ⟨ps_set hN hi hx he.pe hs hf, fun {b ρ σ F M M0} R E Dn hw f =>
  he.sn R _ _ hw fun d ρ1 v F1 M1 M01 q s R1 m r => sng_name i R1 r _ _ q fun ρ2 σ2 F2 M2 M02 q2 s2 x2 R2 m2 _ => f.nx ρ2 σ2 F2 M2 M02 q2 (s.trans s2) R2 (m.trans m2)⟩
end
section
variable {X : Cx} {e e2 ev : Expr} {te t2 tv : TE} {w w2 wv : WE} {pos : Pos}
theorem dsx_put (i : Nat) {xn : Str} {np sp : Pos} (hu : X.A.units + 1 < cLine) (hk : DE X e2 t2 w2) (hv : DX X ev tv wv) (hs : swapsWith ev (some (.Subscript (.Name xn np) e2 sp)) pos.line X.env = pure false := by rfl)
    (hN : X.N[i]? = some xn := by rfl) (hvis : Vis X.env.scope xn := by first | exact Or.inl rfl | exact Or.inr (Or.inl rfl) | exact Or.inr (Or.inr rfl)) (hd : (xn == ("__debug__" : Str)) = false := by decide)
    (hcd : (xn == ("__classdict__" : Str)) = false := by decide) : DS X (.Assign [.Subscript (.Name xn np) e2 sp] ev pos) (sDPut (tVar i) t2 tv) (wPut i w2 wv) :=
  ⟨ps_dput hu (pe_var hN hvis hd hcd) hk.pe hv.pe hs, fun {b ρ σ F M M0} R E Dn hw fin => by
    refine hv.sn R _ _ hw fun d ρ1 v F1 M1 M01 q1 s1 R1 m1 r1 => ?_
    obtain ⟨⟨sl1, e1, hd1⟩, q1⟩ := q1
    have hs1 : isShal sl1 := by cases sl1 <;> first | trivial | exact hd1.elim
    obtain ⟨a, _, _, ha, _⟩ := R1.env.own e1 hs1
    refine ⟨.ref a, ha, ?_⟩
    refine hk.sn R1 _ _ q1 fun dk ρ2 y F2 M2 M02 q2 A2 r2 => ?_
    cases e2 : ρ2[i]? with
    | none => simp only [e2] at q2
    | some sl =>
      simp only [e2] at q2
      have r1' := r1.up A2.same
      cases sl with
      | ok ks ds =>
        obtain ⟨k, hk, hl, q⟩ := q2
        obtain ⟨a', o, M', h1, h2, h3, h4, h5, h6, h7, h8⟩ := A2.rel.env.own e2 trivial
        rw [ha] at h1
        have ea : a = a' := by injection h1 with h1; injection h1 with h1; injection h1
        subst ea
        obtain ⟨ps, rfl, rfl, rd⟩ := h2
        have hH : HH F2 M2 a = some (.dK ps) := hh_m (by rw [h5]; exact upd_same)
        rw [keyD_v hk r2]
        refine ⟨a, _, rfl, DPut.k hH (by rw [← List.length_map (f := (·.1))]; exact hl), ?_⟩
        rw [hh_updM]
        have pk := putK_A (k := k) rd r1'
        have t := h8 (.ok _ _) (.dK (putK ps k v)) trivial ⟨_, rfl, pk.1, pk.2⟩
        have eM : upd M2 a (.dK (putK ps k v)) = upd M' a (.dK (putK ps k v)) := by rw [h5, upd_upd]
        rw [eM]
        refine fin.nx _ σ F2 _ M02 q (s1.trans A2.same) ⟨?_, t, A2.rel.box⟩ (m1.trans A2.mr)
        rw [← eM]
        exact A2.rel.dj.updM h3
      | ot ks ds =>
        obtain ⟨kd, k, rfl, hk, hl, q⟩ := q2
        obtain ⟨a', o, M', h1, h2, h3, h4, h5, h6, h7, h8⟩ := A2.rel.env.own e2 trivial
        rw [ha] at h1
        have ea : a = a' := by injection h1 with h1; injection h1 with h1; injection h1
        subst ea
        obtain ⟨ps, rfl, rfl, rd⟩ := h2
        have hH : HH F2 M2 a = some (.dT ps) := hh_m (by rw [h5]; exact upd_same)
        obtain ⟨kb, rfl, hkb⟩ := keyT_v hk r2
        refine ⟨a, _, rfl, DPut.t hH (A2.rel.dj.f hkb) (by rw [← List.length_map (f := (·.1))]; exact hl), ?_⟩
        rw [hh_updM]
        have pk := putK_A (k := k) rd r1'
        have t := h8 (.ot _ _) (.dT (putK ps k v)) trivial ⟨_, rfl, pk.1, pk.2⟩
        have eM : upd M2 a (.dT (putK ps k v)) = upd M' a (.dT (putK ps k v)) := by rw [h5, upd_upd]
        rw [eM]
        refine fin.nx _ σ F2 _ M02 q (s1.trans A2.same) ⟨?_, t, A2.rel.box⟩ (m1.trans A2.mr)
        rw [← eM]
        exact A2.rel.dj.updM h3
      | _ => exact q2.elim⟩
end
end DL

/-! {k: v}; name.pop(0). -/
namespace DL
open PySem PySem.Spec PyProof.Rows L2
section
variable {X : Cx} {e e2 : Expr} {te t2 : TE} {w w2 : WE} {pos : Pos}
def wfDisp1 (wk wv : WE) : List Sl → (Sl → List Sl → Prop) → Prop := fun ρ Q => wk ρ fun dk ρ1 => wv ρ1 fun d ρ2 => ∃ k, keyD dk = some k ∧ Q (.ok [k] [d]) ρ2
theorem df_disp1 (hk : DE X e te w) (hv : DE X e2 t2 w2) : DF X (.Dict [some e] [e2] pos) (tDisp [(te, t2)]) (wfDisp1 w w2) := ⟨pe_disp (pps_cons hk.pe hv.pe pps_nil) rfl rfl (by simp) (by simp), fun {b ρ σ F M M0} R Qd Q hw k => by
  intro p hp
  obtain ⟨pf, pm⟩ := hh_none hp
  have nbp : b ≠ some p := fun e => by
    obtain ⟨_, _, _, h1, _⟩ := R.box p e
    rw [R.env.sub _ _ h1] at pm; cases pm
  have L := R.lay (o := .dK []) pf pm
  rw [hh_updM]
  refine hk.sn L _ _ hw fun dk ρ1 y F1 M1 M01 q A1 r1 => ?_
  refine hv.sn A1.rel _ _ q fun d ρ2 v F2 M2 M02 q2 A2 r2 => ?_
  obtain ⟨key, hkey, q2⟩ := q2
  have A := A1.trans A2
  have e0 : M02 p = some (.dK []) := by rw [A.mr p nbp, upd_same]
  have e1 := A.rel.env.sub _ _ e0
  have e2 := A.rel.dj _ _ e1
  refine ⟨hh_m e1, [(key, v)], by rw [keyD_v hkey r1]; rfl, by simp, ?_⟩
  have em : mergeK [] [(key, v)] = [(key, v)] := rfl
  rw [em, hh_updM, ← upd_del]
  refine k (.ok [key] [d]) ρ2 p _ F2 (del M2 p) (del M02 p) q2 ⟨A.same, fun a o na qa => ?_, A.rel.unlay e0 nbp, fun a na => ?_⟩ trivial ⟨[(key, v)], rfl, rfl, .cons r2 .nil⟩ e2 del_same
  · have nap : a ≠ p := fun z => by rw [z, hp] at qa; cases qa
    have q1 : HH F (upd M p (.dK [])) a = some o := by rw [← hh_updM, upd_ne nap]; exact qa
    have q2 := A.ext a o na q1
    rcases hh_some q2 with z | ⟨z1, z2⟩
    · exact hh_m (by rw [del_ne nap]; exact z)
    · rw [hh_n (by rw [del_ne nap]; exact z1)]; exact z2
  · by_cases e : a = p
    · subst e
      rw [del_same]
      cases z : M0 a with
      | none => rfl
      | some u => rw [R.env.sub _ _ z] at pm; cases pm
    · rw [del_ne e, A.mr a na, upd_ne e]⟩
/-- name.pop(0), an own list -/
def wPop0 (i : Nat) : WE := fun ρ Q => match ρ[i]? with
  | some (.ol (d :: ds)) => Q d (ρ.set i (.ol ds))
  | _ => False
theorem dx_pop0 (i : Nat) {xn : Str} {np apos cpos p0 : Pos} {j} (hN : X.N[i]? = some xn := by rfl) (hv : Vis X.env.scope xn := by first | exact Or.inl rfl | exact Or.inr (Or.inl rfl) | exact Or.inr (Or.inr rfl))
    (hd : (xn == ("__debug__" : Str)) = false := by decide) (hcd : (xn == ("__classdict__" : Str)) = false := by decide)
    (hbase : attributeBase (.Name xn np) "pop" X.env (eval (.Name xn np) X.env) = eval (.Name xn np) X.env := by rfl)
    (hfew : ((backTo cpos (starEach [.Constant (.int 0) j p0] X.env)).all (fun x => !x.1) && (backToKw cpos (keywordEach [] X.env)).all (fun x => x.1.isSome)
      && decide (([.Constant (.int 0) j p0] : List Expr).length + ([] : List Keyword).length + (if ([] : List Keyword).isEmpty then 0 else 1) < 30)) = true := by rfl)
    (hline : (apos.endLine == cpos.line) = true := by rfl) (hs : starEach [.Constant (.int 0) j p0] X.env = (false, eval (.Constant (.int 0) j p0) X.env) :: starEach [] X.env := by rfl) (hplain : (backTo cpos (starEach [] X.env)).any (·.1) = false := by rfl) :
    DX X (.Call (.Attribute (.Name xn np) "pop" apos) [.Constant (.int 0) j p0] [] cpos) (tBM X.K "list" rPopAt (tVar i) (tCons (tC (.int 0)) tNil)) (wPop0 i) :=
  ⟨pe_bm PySem.F.plainAttrs_list PySem.F.slot_list_pop PySem.F.type_list_pop mt_popAt (pe_var hN hv hd hcd) (pa_cons pe_int pa_nil hs) hbase hfew hline hs hplain, fun {b ρ σ F M M0} R Qd Q hw k => by
  unfold wPop0 at hw
  cases e0 : ρ[i]? with
  | none => simp only [e0] at hw
  | some s0 =>
    simp only [e0] at hw
    cases s0 with
    | ol ds0 =>
      cases ds0 with
      | nil => exact hw.elim
      | cons d ds =>
        obtain ⟨a, vs, h1, h2, h3, h4, h5⟩ := R.ownL e0
        obtain ⟨v, vr, rfl, r1, r2⟩ := h2.cons_iff
        refine ⟨.ref a, h1, .inl ⟨rfl, _, SqL.of h4⟩, ?_⟩
        refine ⟨a, v :: vr, 0, 0, v, rfl, rfl, h4, by decide, by decide, by simp [seqIndex?], rfl, ?_⟩
        rw [hh_updM]
        exact k d _ v F _ M0 hw (Same.refl _) (h5 ds vr r2) (MR.refl _ _) r1
    | _ => exact hw.elim⟩
end
section
variable {ρ : List Sl} {E : EnD} {w w1 w2 wk wv : WE} {wa : WAs} {Qd : D → List Sl → Prop} {Qs : Sl → List Sl → Prop} {i : Nat} {n f m : Str} {wf : List Sl → (Sl → List Sl → Prop) → Prop}
theorem wfDisp1_e : wfDisp1 wk wv ρ Qs = wk ρ fun dk ρ1 => wv ρ1 fun d ρ2 => ∃ k, keyD dk = some k ∧ Qs (.ok [k] [d]) ρ2 := rfl
theorem wPop0_e : wPop0 i ρ Qd = match ρ[i]? with
  | some (.ol (d :: ds)) => Qd d (ρ.set i (.ol ds))
  | _ => False := rfl
theorem wOFld_e : wOFld i n f ρ Qd = match ρ[i]? with
  | some (.od _ (.ins n' fs ts)) => n' = n ∧ ∃ j t d, fldAt fs ts f j t ∧ peekD t d ∧ Qd d ρ
  | _ => False := rfl
theorem wOFldS_e : wOFldS i n f ρ Qd = match ρ[i]? with
  | some (.od _ (.ins n' fs ts)) => n' = n ∧ ∃ j d, fldAt fs ts f j (.sh d) ∧ Qd d ρ
  | _ => False := rfl
theorem wOApp_e : wOApp i n f w ρ E = ((∃ (x : V) (fs : List Str) (ts : List OT) (j : Nat) (ds : List D), ρ[i]? = some (.od x (.ins n fs ts)) ∧ fldAt fs ts f j (.lst (ds.map OT.sh))) ∧ w ρ fun d ρ1 => match ρ1[i]? with
  | some (.od x (.ins n' fs ts)) => n' = n ∧ ∃ (j : Nat) (ds : List D), fldAt fs ts f j (.lst (ds.map OT.sh)) ∧ ds.length < sizeLine ∧ E.nx (ρ1.set i (.od x (.ins n' fs (ts.set j (.lst ((ds ++ [d]).map OT.sh))))))
  | _ => False) := rfl
theorem wOPut_e : wOPut i n f wk wv ρ E = wv ρ fun d ρ1 => (∃ (x : V) (fs : List Str) (ts : List OT) (j : Nat) (ks : List (List Key)) (ds : List D), ρ1[i]? = some (.od x (.ins n fs ts)) ∧ fldAt fs ts f j (.dt ks (ds.map OT.sh))) ∧ wk ρ1 fun dk ρ2 => match ρ2[i]? with
  | some (.od x (.ins n' fs ts)) => n' = n ∧ ∃ (j : Nat) (ks : List (List Key)) (ds : List D) (kd : List D) (k : List Key), fldAt fs ts f j (.dt ks (ds.map OT.sh)) ∧ dk = .tup kd ∧ keysD kd = some k ∧ ks.length < sizeLine ∧ E.nx (ρ2.set i (.od x (.ins n' fs (ts.set j (.dt (putA ks ds k d).1 ((putA ks ds k d).2.map OT.sh))))))
  | _ => False := rfl
theorem wFldNO_e : wFldNO i n f wf ρ E = wf ρ fun sl ρ1 => match ρ1[i]? with
  | some (.od x (.ins n' fs ts)) => (n' = n ∧ f ∉ fs ∧ fs.length < 1000) ∧ E.nx (ρ1.set i (.od x (.ins n' (fs ++ [f]) (ts ++ [slT sl]))))
  | _ => False := rfl
theorem wMethO_e {wfo : WFo} : wMethO i n m wfo wa ρ Qd = ((∃ (x : V) (fs : List Str) (ts : List OT), ρ[i]? = some (.od x (.ins n fs ts)) ∧ m ∉ fs) ∧ wa ρ fun as ρ1 => match ρ1[i]? with
  | some (.od x t) => wfo (.od x t :: as) fun r as' => ∃ t', as' = .od x t' :: as ∧ Qd r (ρ1.set i (.od x t'))
  | _ => False) := rfl
end
end DL

/-! sorted(d) of int keys; d.get(k). -/
namespace DL
open PySem PySem.Spec PyProof.Rows L2
def rSortDI : V → Hp → VK → Prop := fun x H Q => ∃ (a : Addr) (kvs : List (Key × V)) (ks : List Int), [x] = [V.ref a] ∧ Rd H a (.dK kvs) ∧ kvs.map (·.1) = ks.map Sum.inl ∧ ks.length < 64 ∧
    ∀ (ys : List Int) (p : Addr), ys.Perm ks → ys.Pairwise (· ≤ ·) → H p = none → Q (.ref p) (upd H p (.lst (ys.map V.int)))
def dSortDI : D → (D → Prop) → Prop
  | .dk ks xs, Q => ∃ ns : List Int, ks = ns.map Sum.inl ∧ ns.length < 64 ∧ ∀ ms : List Int, ms.Perm ns → ms.Pairwise (· ≤ ·) → Q (.lst (ms.map D.int))
  | _, _ => False
section
variable {X : Cx} {e e2 : Expr} {te t2 : TE} {w w2 : WE} {pos : Pos}
theorem ro1_sortDI : Ro1 (cy X) (fun x H Q => (fun xs H Q => ∃ (a : Addr) (kvs : List (Key × V)) (ks : List Int), xs = [V.ref a] ∧ Rd H a (.dK kvs) ∧ kvs.map (·.1) = ks.map Sum.inl ∧ ks.length < 64 ∧
    ∀ (ys : List Int) (p : Addr), ys.Perm ks → ys.Pairwise (· ≤ ·) → H p = none → Q (.ref p) (upd H p (.lst (ys.map V.int)))) [x] H Q) dSortDI := fun {b F M x d1} Qd Q dj r1 hw k => by
  cases d1 with
  | dk ks xs =>
    obtain ⟨ns, rfl, h64, q⟩ := hw
    obtain ⟨a, ps, rfl, _, h, e, r⟩ := r1
    exact ⟨a, ps, ns, rfl, h, e, h64, fun ms p hp hs hn => new_lst (c := cy X) dj (DrL.of_ints ms) hn (q ms hp hs) k⟩
  | _ => exact hw.elim
def isDkt : D → Prop
  | .dk _ _ => True
  | .dt _ _ => True
  | _ => False
/-- d.get(k) -/
def wGet1 (wa wb : WE) : WE := fun ρ Q => wa ρ fun d1 ρ1 => isDkt d1 ∧ wb ρ1 fun d2 ρ2 => ∃ o, getD' d1 d2 = some o ∧ Q (o.getD .non) ρ2
theorem wGet1_e {wa wb : WE} {ρ : List Sl} {Qd : D → List Sl → Prop} : wGet1 wa wb ρ Qd = wa ρ fun d1 ρ1 => isDkt d1 ∧ wb ρ1 fun d2 ρ2 => ∃ o, getD' d1 d2 = some o ∧ Qd (o.getD .non) ρ2 := rfl
theorem de_get1 {apos cpos : Pos} (hu : X.A.units + 1 < cLine) (ha : DP X e te w) (hb : DP X e2 t2 w2) (m : M1 X e "get" apos e2 cpos) : DE X (.Call (.Attribute e "get" apos) [e2] [] cpos) (tDGet1 te t2) (wGet1 w w2) :=
  ⟨pe_dget1 hu ha.pe hb.pe m, fun {b ρ σ F M M0} R Qd Q hw k => by
  refine ha.sn R _ _ hw fun d1 ρ1 x F1 M1 M01 q1 A1 r1 => ?_
  obtain ⟨hd, q1⟩ := q1
  have hx : ∃ a, x = .ref a ∧ IsD (HH F1 M1) a := by
    cases d1 with
    | dk ks xs =>
      obtain ⟨a, ps, rfl, _, h, _⟩ := r1
      exact ⟨a, rfl, .inl ⟨ps, h⟩⟩
    | dt ks xs =>
      obtain ⟨a, ps, rfl, _, h, _⟩ := r1
      exact ⟨a, rfl, .inr ⟨ps, h⟩⟩
    | _ => exact hd.elim
  obtain ⟨a, rfl, hI⟩ := hx
  refine ⟨a, rfl, hI, ?_⟩
  refine hb.sn A1.rel _ _ q1 fun d2 ρ2 y F2 M2 M02 q2 A2 r2 => ?_
  obtain ⟨o, ho, q⟩ := q2
  obtain ⟨a', ov, e1, g, h1, h2⟩ := getD_DGet A2.rel.dj (r1.stay A2.same A2.ext) r2 ho
  cases e1
  refine ⟨ov, g, ?_⟩
  cases o with
  | none =>
    rw [h2 rfl]
    exact k .non ρ2 .non F2 M2 M02 q (A1.trans A2) .of_non
  | some d =>
    obtain ⟨v, rfl, rv⟩ := h1 d rfl
    exact k d ρ2 v F2 M2 M02 q (A1.trans A2) rv⟩
end
end DL

/-! A def that raises for sure; an own exception class called without arguments. -/
namespace DL
open PySem PySem.Spec PyProof.Rows L2
theorem ArgsD.nobox {c : Cy} {b : Option Addr} {F : Hp} : ∀ {as : List Sl} {vs : List V}, (∀ s ∈ as, s ≠ .bx) → ArgsD c b F as vs → ArgsD c none F as vs
  | [], vs, _, h => h
  | s :: as, vs, hn, h => by
    obtain ⟨v, vr, e, q, t⟩ := h
    refine ⟨v, vr, e, ?_, ArgsD.nobox (fun x hx => hn x (List.mem_cons_of_mem _ hx)) t⟩
    cases s with
    | sh d => exact q
    | bx => exact absurd rfl (hn _ List.mem_cons_self)
    | _ => exact q.elim
section
variable {X : Cx} {C : Addr} {bmB : List Value} {B newId initId : String}
/-- X() -/
theorem pmk_own0 {x : Str} {p pos : Pos} (F : ExcBaseFacts B newId initId bmB) (q : PySem.W.excIn X.K C bmB newId = true) (gC : X.mg x = some (.ref C)) (kC : PySem.W.keepIn X.K (.ref C) = true) (r : Raises X (.ref C)) (hg : Gl X x)
    (hdb : (x == ("__debug__" : Str)) = false := by decide) : PMk X (.Call (.Name x p) [] [] pos) (fun _ H Q => Q (.ref C) none H) := by
  intro pins s σ H Q I h
  refine wpAny_Call_Name_kw (ld_glob I hg gC ?_ hdb)
  refine PySem.W.callWith_K0 I.kIn kC ?_
  show wpAny _ _ (call (.ref C) []) _ _ _
  obtain ⟨bm, N, nm, qn, bs, hdct, sn, sub, ab, col, dd, k0, k1, k2, k3, k5, mN, hC, hN, hni, T⟩ := exc_obj I.kIn q
  refine wpAny_call_exc_subT F T hC hN hni (fun h' e hm => ?_) (by show 0 ≤ sizeLine; exact Nat.zero_le _)
  exact mk_of I hm r h (I.hok.gone hm.new)
end
/-- a def that raises C() for sure: all that is tracked stays -/
def spRz (c : Cy) (C : Addr) (wf : List Sl → Prop) : Sp := fun vs H _ E => ∃ (F M : Hp) (as : List Sl), H = HH F M ∧ Dj F M ∧ ArgsD c none F as vs ∧ wf as ∧ ∀ H', Ext none H H' → E (.ref C) none H'
/-- an __init__ that raises C() for sure -/
def spOz (c : Cy) (C : Addr) (wf : List Sl → Prop) : Sp := fun vs H _ E => ∃ (F M M1 : Hp) (as : List Sl), H = HH F M ∧ Rel c none as (vs.map some) F M M1 ∧ wf as ∧ ∀ H', Ext none H H' → E (.ref C) none H'
section
variable {P : Program} {w : World} {K : PySem.W.Frag} {mg : Str → Option Value} {base : Heap}
/-- if test: raise C() -/
theorem fun_rz {x qual : Str} {st : Stmt} {f C : Addr} {fd : FuncData} {N ps : List Str} {k : Nat} {wf : List Sl → Prop} (F : Fun K x qual st f fd) (S : FnScope N ps (defScope st)) (len : ∀ as, wf as → as.length = ps.length)
    (hbody : ∀ (cdv : Value) (A : Around) (outer : List Env) (s : Shared) (H : Hp) (E : XK), Room k (A.deeper (envOfC qual (defScope st) s.heap.objs.size f cdv)) →
      ∃ (test : Expr) (xs : Stmt) (tt : TT) (wt : WT) (pos : Pos), defBody st = [.If test [xs] [] pos] ∧ DT (cxOf (L2.CX P w) P w K mg base N qual (defScope st) f cdv A outer s H E) test tt wt ∧
        PS (cxOf (L2.CX P w) P w K mg base N qual (defScope st) f cdv A outer s H E) xs (fun _ _ H' => E (.ref C) none H') ∧ ∀ as, wf as → wt (startD N as) fun b _ => b = true) :
    FnOk P w K mg base (L2.CX P w) (k + 1) f fd ps (spRz ⟨K, mg⟩ C wf) := by
  refine F.okX S (fun vs H Q E h => ?_) (fun cdv A outer s H vs Q E hr h => ?_)
  · obtain ⟨F, M, as, _, _, ar, hw, _⟩ := h
    rw [ar.length, len as hw]
  · obtain ⟨F, M, as, rfl, dj, ar, hw, hE⟩ := h
    obtain ⟨test, xs, tt, wt, pos, eb, dt, px, hp⟩ := hbody cdv A outer s (HH F M) E hr
    refine ⟨_, by rw [eb]; exact pss_one (ps_if dt.pe (pss_one px) pss_nil), ?_⟩
    have R : Rel ⟨K, mg⟩ none (startD N as) (L2.start N vs) F M M := by
      refine ⟨dj, ?_, fun a z => nomatch z⟩
      unfold startD L2.start
      rw [show vs.length = as.length from ar.length]
      exact relE_nos (ar.relE M)
    refine dt.sn R _ _ (hp as hw) fun b ρ' F' M' M0' q A => ?_
    have eb : b = true := q
    subst eb
    rw [if_pos rfl]
    exact hE _ A.ext
end
end DL

/-! try: C(..) except X: return True, where X is raised for sure; try of what never raises; an __init__ that raises for sure. -/
namespace DL
open PySem PySem.Spec PyProof.Rows L2
/-- what is tracked stays, and things are new -/
theorem Rel.ext0 {c : Cy} {b : Option Addr} {ρ : List Sl} {σ : L2.St} {F M M0 H' : Hp} (R : Rel c b ρ σ F M M0) (x : Ext none (HH F M) H') : ∃ F', H' = HH F' M ∧ Same F F' ∧ Rel c b ρ σ F' M M0 := by
  let F' : Hp := fun a => match M a with
    | some _ => none
    | none => H' a
  have hF : ∀ a o, M a = some o → F' a = none := fun a o h => by show (match M a with | some _ => none | none => H' a) = none; rw [h]
  have hN : ∀ a, M a = none → F' a = H' a := fun a h => by show (match M a with | some _ => none | none => H' a) = _; rw [h]
  have s : Same F F' := fun a o q => by
    have m : M a = none := by
      cases z : M a with
      | none => rfl
      | some u => rw [R.dj a u z] at q; cases q
    rw [hN a m]
    exact x a o (fun z => nomatch z) (by rw [hh_n m]; exact q)
  refine ⟨F', ?_, s, hF, R.env.leD (.of s) (fun a o q _ => hF a o (R.env.sub a o q)) (fun a o q _ => hF a o q), fun a z => (R.box a z).leD (.of s)⟩
  funext a
  cases z : M a with
  | some u => rw [hh_m z]; exact x a u (fun z => nomatch z) (hh_m z)
  | none => rw [hh_n z, hN a z]
section
variable {P : Program} {w : World} {K : PySem.W.Frag} {mg : Str → Option Value} {base : Heap}
theorem FnOk.or {CX : CXT} {k : Nat} {f : Addr} {fd : FuncData} {ps : List Str} {sp1 sp2 : Sp} (h1 : FnOk P w K mg base CX k f fd ps sp1) (h2 : FnOk P w K mg base CX k f fd ps sp2) :
    FnOk P w K mg base CX k f fd ps (fun vs H Q E => sp1 vs H Q E ∨ sp2 vs H Q E) :=
  ⟨fun vs H Q E h => h.elim (h1.len vs H Q E) (h2.len vs H Q E), fun A outer s H args us vs Q E hr e0 hb hv h => h.elim (h1.run A outer s H args us vs Q E hr e0 hb hv) (h2.run A outer s H args us vs Q E hr e0 hb hv)⟩
theorem spF_or {c : Cy} {wf wf1 wf2 : WFn} (h : ∀ as Q, wf as Q → wf1 as Q ∨ wf2 as Q) : ∀ vs H Q E, spF c wf vs H Q E → spF c wf1 vs H Q E ∨ spF c wf2 vs H Q E := by
  rintro vs H Q E ⟨b, F, M, as, Qd, h1, h2, h3, h4, h5, h6⟩
  rcases h as Qd h5 with h5 | h5
  · exact .inl ⟨b, F, M, as, Qd, h1, h2, h3, h4, h5, h6⟩
  · exact .inr ⟨b, F, M, as, Qd, h1, h2, h3, h4, h5, h6⟩
theorem FnOk.cases {CX : CXT} {k : Nat} {f : Addr} {fd : FuncData} {ps : List Str} {wf wf1 wf2 : WFn} (h1 : FnOk P w K mg base CX k f fd ps (spF ⟨K, mg⟩ wf1)) (h2 : FnOk P w K mg base CX k f fd ps (spF ⟨K, mg⟩ wf2)) (h : ∀ as Q, wf as Q → wf1 as Q ∨ wf2 as Q) :
    FnOk P w K mg base CX k f fd ps (spF ⟨K, mg⟩ wf) := (FnOk.or h1 h2).imp (spF_or h)
end
theorem pss_any {X : Cx} : ∀ sts : List Stmt, ∃ t, PSs X sts t
  | [] => ⟨_, pss_nil⟩
  | st :: r => by
    obtain ⟨t, h⟩ := pss_any (X := X) r
    exact ⟨_, pss_cons ps_never h⟩
section
variable {X : Cx} {e : Expr} {es : List Expr} {t : TA} {wt : WAs} {p pos : Pos} {k : Nat} {f C : Addr} {fd : FuncData} {ps : List Str} {n : Str}
/-- try: what never raises -/
theorem ds_try0 {body : List Stmt} {h₀ : ExceptHandler} {hs : List ExceptHandler} {tb : TS} {wb : WS} (hb : DSs X.nox body tb wb) : DS X (.Try body (h₀ :: hs) [] [] pos) tb wb := ⟨ps_try_thru0 hb.ps, hb.sn⟩
def wTryT (n : Str) (wf : List Sl → Prop) (wt : WAs) : WS := fun ρ E => wt ρ fun as ρ1 => (∀ s ∈ as, s ≠ .bx) ∧ (∀ x, wf (.od x (.ins n [] []) :: as)) ∧ E.rt (.bl true) ρ1
/-- C'(args), which raises C for sure -/
theorem ds_tryTrue {x : Str} {C' : Addr} {wf : List Sl → Prop} {np p1 p2 p3 p4 p5 p6 : Pos} {i : Nat} (hs : X.stack = X.env :: X.outer) (hf : X.env.frame = some X.env.locals) (hc : Names X x (.ref C)) (hm : PySem.W.exmOne X.K (.ref C) (.ref C) = some true) (mC : X.mg n = some (.ref C'))
    (has : DAs X es t wt)
    (hb : ∀ (W : WX) (pn : List (Addr × Obj)) (xe : Value → Shared → Prop), Takes (X.tr pn xe) W → PE (X.tr pn xe) (.Call (.Name n p5) es [] p6) (tMake C' (spOz (cy X) C wf) [] (fun cls d H => ∀ σ, W cls d σ H) t)) (hsw : swapsWith (.Call (.Name n p5) es [] p6) none p1.line X.env = pure false := by rfl) :
    DS X (.Try [.Expr (.Call (.Name n p5) es [] p6) p1] [.ExceptHandler (some (.Name x np)) none [.Return (some (.Constant (.bool true) i p2)) p3] p4] [] [] pos)
      (fun D σ H => (tDrop (tMake C' (spOz (cy X) C wf) [] (fun cls d H => ∀ σ, wOnly X.K (.ref C) (fun _ _ _ => tRet (tC (.bl true))) (fun _ _ _ _ => False) D cls d σ H) t)) D σ H) (wTryT n wf wt) := by
  refine ⟨ps_try_only (X := X) (c := .ref C) (tb := fun W => tDrop (tMake C' (spOz (cy X) C wf) [] (fun cls d H => ∀ σ, W cls d σ H) t)) hs hf hc takes0 (fun W pn xe tk _ => pss_one (ps_expr (hb W pn xe tk) hsw)) (fun a oe cls d pn _ _ => pss_one (ps_ret pe_bl)), ?_⟩
  intro b ρ σ F M M0 R E Dn hw fin
  refine has.sn R _ _ hw fun as ρ1 vs F1 M1 M01 q A ar => ?_
  intro x dx hx hdx ne
  obtain ⟨hnb, q, qe⟩ := q
  obtain ⟨fx, mx⟩ := hh_none hx
  obtain ⟨fdx, mdx⟩ := hh_none hdx
  have sF : Same F1 (upd F1 dx (.own x)) := Same.updF fdx
  have dj1 : Dj (upd F1 dx (.own x)) M1 := A.rel.dj.updF mdx
  have djo : Dj M1 (upd emp x (.ins C' dx [])) := fun a o z => by
    by_cases e : a = x
    · rw [e]; exact mx
    · rw [upd_ne e] at z; cases z
  have eH : upd (upd (HH F1 M1) dx (.own x)) x (.ins C' dx []) = HH (upd F1 dx (.own x)) (HH M1 (upd emp x (.ins C' dx []))) := by
    rw [hh_updF mdx, hh_updM]
    congr 1
    rw [← hh_updM, hh_emp]
  rw [List.append_nil]
  refine ⟨upd F1 dx (.own x), HH M1 (upd emp x (.ins C' dx [])), M1, .od (.ref x) (.ins n [] []) :: as, eH, ⟨?_, ?_, fun a z => nomatch z⟩, q (.ref x), fun H' hE σ' => ?_⟩
  · intro a o z
    rcases hh_some z with z | ⟨_, z⟩
    · by_cases e : a = x
      · rw [e, upd_ne (fun z => ne z.symm)]; exact fx
      · rw [upd_ne e] at z; cases z
    · exact dj1 a o z
  · refine ⟨some (.ref x), vs.map some, rfl, _, M1, rfl, ?_, djo, rfl, ((ar.nobox hnb).up sF).relE M1⟩
    simp only [OTR]
    exact ⟨x, C', dx, [], emp, rfl, mC, rfl, by simp [OTRL], by rw [upd_ne (fun z => ne z.symm)]; exact fx, rfl, rfl⟩
  · have ex : Ext none (HH F1 M1) H' := fun a o z h => hE a o z (by
      have n1 : a ≠ dx := fun z => by rw [z, hdx] at h; cases h
      have n2 : a ≠ x := fun z => by rw [z, hx] at h; cases h
      rw [upd_ne n2, upd_ne n1]; exact h)
    obtain ⟨F', rfl, s, R'⟩ := A.rel.ext0 ex
    exact ⟨true, hm, fun _ a _ => fin.rt _ (.bl true) ρ1 σ F' M1 M01 qe (A.same.trans s) R' A.mr (by simp only [Dr]), fun z => nomatch z⟩
end
section
variable {P : Program} {w : World} {K : PySem.W.Frag} {mg : Str → Option Value} {base : Heap}
/-- an __init__ whose first statement, a call, raises for sure -/
theorem fun_initRz {x qual : Str} {st : Stmt} {f C : Addr} {fd : FuncData} {N ps : List Str} {k : Nat} {wf wf2 : List Sl → Prop} (F : Fun K x qual st f fd) (S : FnScope N ps (defScope st)) (len : ∀ as, wf as → as.length = ps.length)
    (hbody : ∀ (cdv : Value) (A : Around) (outer : List Env) (s : Shared) (H : Hp) (E : XK), Room k (A.deeper (envOfC qual (defScope st) s.heap.objs.size f cdv)) →
      ∃ (e : Expr) (rest : List Stmt) (es : List Expr) (t : TA) (wt : WAs) (pos : Pos), defBody st = .Expr e pos :: rest ∧ swapsWith e none pos.line (cxOf (L2.CX P w) P w K mg base N qual (defScope st) f cdv A outer s H E).env = pure false ∧
        DAs (cxOf (L2.CX P w) P w K mg base N qual (defScope st) f cdv A outer s H E) es t wt ∧ (PA (cxOf (L2.CX P w) P w K mg base N qual (defScope st) f cdv A outer s H E) es t → PE (cxOf (L2.CX P w) P w K mg base N qual (defScope st) f cdv A outer s H E) e (tCall (spRz ⟨K, mg⟩ C wf2) [] E t)) ∧ ∀ as, wf as → wt (startD N as) fun as2 _ => (∀ s ∈ as2, s ≠ .bx) ∧ wf2 as2) :
    FnOk P w K mg base (L2.CX P w) (k + 1) f fd ps (spOz ⟨K, mg⟩ C wf) := by
  refine F.okX S (fun vs H Q E h => ?_) (fun cdv A outer s H vs Q E hr h => ?_)
  · obtain ⟨F, M, M1, as, _, R, hw, _⟩ := h
    have := R.env.length
    rw [List.length_map] at this
    rw [this, len as hw]
  · obtain ⟨F, M, M1, as, rfl, R, hw, hE⟩ := h
    obtain ⟨e, rest, es, t, wt, pos, eb, hsw, ha, he, hp⟩ := hbody cdv A outer s (HH F M) E hr
    obtain ⟨tr, htr⟩ := pss_any (X := cxOf (L2.CX P w) P w K mg base N qual (defScope st) f cdv A outer s (HH F M) E) rest
    refine ⟨_, by rw [eb]; exact pss_cons (ps_expr (he ha.pe) hsw) htr, ?_⟩
    have el : vs.length = as.length := by
      have := R.env.length
      rw [List.length_map] at this
      exact this
    have R0 : Rel ⟨K, mg⟩ none (startD N as) (L2.start N vs) F M M1 := by
      refine ⟨R.dj, ?_, R.box⟩
      unfold startD L2.start
      rw [el]
      exact relE_nos R.env
    refine ha.sn R0 _ _ (hp as hw) fun as2 ρ1 vs2 F1 M2 M02 q A ar => ?_
    rw [List.append_nil]
    exact ⟨F1, M2, as2, rfl, A.rel.dj, ar.nobox q.1, q.2, fun H' x => hE H' (A.ext.trans x)⟩
end
end DL

/-! A slice of a list as an own list. -/
namespace DL
open PySem PySem.Spec PyProof.Rows L2
def wfCut (w : WE) (wl wh : WO) : List Sl → (Sl → List Sl → Prop) → Prop := fun ρ Q => w ρ fun d ρ1 => wl ρ1 fun lo ρ2 => wh ρ2 fun hi ρ3 => match d with
  | .lst ds => Q (.ol (cutD ds lo hi)) ρ3
  | _ => False
theorem wfCut_e {w : WE} {wl wh : WO} {ρ : List Sl} {Qs : Sl → List Sl → Prop} : wfCut w wl wh ρ Qs = w ρ fun d ρ1 => wl ρ1 fun lo ρ2 => wh ρ2 fun hi ρ3 => match d with
  | .lst ds => Qs (.ol (cutD ds lo hi)) ρ3
  | _ => False := rfl
theorem df_cut {X : Cx} {e : Expr} {te : TE} {w : WE} {pos : Pos} {lo hi : Option Expr} {tl th : TO} {wl wh : WO} {p2 : Pos} (he : DP X e te w) (hl : DO X lo tl wl) (hh : DO X hi th wh) : DF X (.Subscript e (.Slice lo hi none p2) pos) (tSl (rSlU X.K) te tl th) (wfCut w wl wh) :=
  ⟨pe_slice sl_U he.pe hl.po hh.po, fun {b ρ σ F M M0} R Qd Q hw k => by
    refine he.sn R _ _ hw fun d ρ1 v F1 M1 M01 q1 A1 r1 => ?_
    refine hl.sn A1.rel _ _ q1 fun lo ρ2 F2 M2 M02 q2 A2 => ?_
    refine hh.sn A2.rel _ _ q2 fun hi ρ3 F3 M3 M03 q3 A3 => ?_
    have r3 := (r1.stay A2.same A2.ext).stay A3.same A3.ext
    have A := (A1.trans A2).trans A3
    cases d with
    | lst ds =>
      obtain ⟨a, vs, rfl, _, h, r⟩ := r3.lst_of
      refine .inl ⟨a, vs, rfl, SqL.of h, fun p hp => ?_⟩
      have e : DrL (cy X) F3 (cutV vs lo hi) (cutD ds lo hi) := by
        unfold cutV cutD
        rw [r.length]
        exact (r.drop _).take _
      obtain ⟨hf, hm⟩ := hh_none hp
      rw [hh_updM]
      exact k (.ol (cutD ds lo hi)) ρ3 p _ F3 M3 M03 q3 A trivial ⟨_, rfl, e⟩ hf hm
    | _ => exact q3.elim⟩
end DL

namespace DL
open PySem PySem.Spec PyProof.Rows L2
/-- a machine: facts, and for each state a row of steps, a row of gains (aligned with the facts), what leaving pays -/
structure Mach where
  facts : List Str
  step : List (List Int)
  gain : List (List Int)
  leave : List Int
def keysOf (fs : List Str) : List Key := fs.map Sum.inr
def rowOf (fs : List Str) (r : List Int) : RowD := (keysOf fs, r.map D.int)
def Mach.ds (m : Mach) : List D := [.lst (m.facts.map D.str), .lst (m.step.map fun r => rowD (rowOf m.facts r)), .lst (m.gain.map fun r => rowD (rowOf m.facts r)), .lst (m.leave.map D.int)]
def machF : List Str := ["facts", "step", "gain", "leave"]
def Mach.dd (m : Mach) : D := .ins "Machine" machF m.ds
structure Mach.ok (m : Mach) (top : Nat) (B : Int) : Prop where
  nd : m.facts.Nodup
  f1 : 1 ≤ m.facts.length
  f3 : m.facts.length ≤ 3
  n1 : 1 ≤ m.leave.length
  n8 : m.leave.length ≤ top
  ls : m.step.length = m.leave.length
  lg : m.gain.length = m.leave.length
  rs : ∀ r ∈ m.step, r.length = m.facts.length ∧ ∀ s ∈ r, 0 ≤ s ∧ s < m.leave.length
  rg : ∀ r ∈ m.gain, r.length = m.facts.length ∧ ∀ g ∈ r, -B ≤ g ∧ g ≤ B
  rl : ∀ l ∈ m.leave, -B ≤ l ∧ l ≤ B
theorem lk_facts (m : Mach) : lookD machF m.ds "facts" = some (.lst (m.facts.map D.str)) := by
  unfold machF Mach.ds
  simp only [lookD, if_true]
theorem lk_step (m : Mach) : lookD machF m.ds "step" = some (.lst (m.step.map fun r => rowD (rowOf m.facts r))) := by
  unfold machF Mach.ds
  simp only [lookD, if_true, show (("step" : Str) = "facts") = False from eq_false (by decide +kernel), if_false]
theorem lk_gain (m : Mach) : lookD machF m.ds "gain" = some (.lst (m.gain.map fun r => rowD (rowOf m.facts r))) := by
  unfold machF Mach.ds
  simp only [lookD, if_true, show (("gain" : Str) = "facts") = False from eq_false (by decide +kernel), show (("gain" : Str) = "step") = False from eq_false (by decide +kernel), if_false]
theorem lk_leave (m : Mach) : lookD machF m.ds "leave" = some (.lst (m.leave.map D.int)) := by
  unfold machF Mach.ds
  simp only [lookD, if_true, show (("leave" : Str) = "facts") = False from eq_false (by decide +kernel), show (("leave" : Str) = "step") = False from eq_false (by decide +kernel), show (("leave" : Str) = "gain") = False from eq_false (by decide +kernel), if_false]
/-- what stands in a row at a fact -/
def look : List Str → List Int → Str → Int
  | f :: fs, r :: rs, x => if f = x then r else look fs rs x
  | _, _, _ => 0
theorem look_al : ∀ {fs : List Str} {r : List Int} {x : Str}, r.length = fs.length → x ∈ fs → alD (keysOf fs) (r.map D.int) (Sum.inr x) = some (.int (look fs r x))
  | [], _, x, _, h => by cases h
  | f :: fs, [], x, h, _ => by simp at h
  | f :: fs, r :: rs, x, hl, h => by
    unfold keysOf
    simp only [List.map_cons, alD, look]
    by_cases z : f = x
    · rw [if_pos (by rw [z]), if_pos z]
    · rw [if_neg (fun e => z (Sum.inr.inj e)), if_neg z]
      exact look_al (by simpa using hl) (by
        rcases List.mem_cons.mp h with e | h
        · exact absurd e.symm z
        · exact h)
theorem look_mem : ∀ {fs : List Str} {r : List Int} {x : Str}, r.length = fs.length → x ∈ fs → look fs r x ∈ r
  | [], _, x, _, h => by cases h
  | f :: fs, [], x, h, _ => by simp at h
  | f :: fs, r :: rs, x, hl, h => by
    unfold look
    by_cases z : f = x
    · rw [if_pos z]; exact List.mem_cons_self
    · rw [if_neg z]
      exact List.mem_cons_of_mem _ (look_mem (by simpa using hl) (by
        rcases List.mem_cons.mp h with e | h
        · exact absurd e.symm z
        · exact h))
def Mach.stp (m : Mach) (s : Nat) (x : Str) : Int := look m.facts (m.step.getD s []) x
def Mach.gn (m : Mach) (s : Nat) (x : Str) : Int := look m.facts (m.gain.getD s []) x
def Mach.lv (m : Mach) (s : Nat) : Int := m.leave.getD s 0
def totM (m : Mach) : Nat → List Str → Int
  | s, [] => m.lv s
  | s, f :: w => m.gn s f + totM m (m.stp s f).toNat w
theorem getD_at {α : Type} {l : List α} {s : Nat} {a : α} (h : s < l.length) : l[s]? = some (l.getD s a) := by
  rw [List.getD_eq_getElem?_getD, List.getElem?_eq_getElem h]; rfl
theorem getD_in {α : Type} {l : List α} {s : Nat} {a : α} (h : s < l.length) : l.getD s a ∈ l := by
  rw [List.getD_eq_getElem?_getD, List.getElem?_eq_getElem h]; exact List.getElem_mem h
section
variable {m : Mach} {top : Nat} {B : Int} (k : m.ok top B)
include k
/-- reading step[s][f], gain[s][f], leave[s] -/
theorem Mach.at_step {s : Int} (h0 : 0 ≤ s) (h1 : s < m.leave.length) : atI (m.step.map fun r => rowD (rowOf m.facts r)) s = some (rowD (rowOf m.facts (m.step.getD s.toNat []))) := by
  refine atI_nat h0 ?_
  rw [List.getElem?_map, getD_at (a := []) (by have := k.ls; omega)]; rfl
theorem Mach.at_gain {s : Int} (h0 : 0 ≤ s) (h1 : s < m.leave.length) : atI (m.gain.map fun r => rowD (rowOf m.facts r)) s = some (rowD (rowOf m.facts (m.gain.getD s.toNat []))) := by
  refine atI_nat h0 ?_
  rw [List.getElem?_map, getD_at (a := []) (by have := k.lg; omega)]; rfl
theorem Mach.at_leave {s : Int} (h0 : 0 ≤ s) (h1 : s < m.leave.length) : atI (m.leave.map D.int) s = some (.int (m.lv s.toNat)) := by
  refine atI_nat h0 ?_
  rw [List.getElem?_map, getD_at (a := 0) (by omega)]; rfl
theorem Mach.ix_step {s : Nat} {x : Str} {Q : D → Prop} (h1 : s < m.leave.length) (hx : x ∈ m.facts) (q : Q (.int (m.stp s x))) : dIx (rowD (rowOf m.facts (m.step.getD s []))) (.str x) Q := by
  have h := k.rs _ (getD_in (a := []) (show s < m.step.length by have := k.ls; omega))
  exact ⟨_, by show Option.map _ (some _) = _; exact congrArg some (look_al h.1 hx), q⟩
theorem Mach.ix_gain {s : Nat} {x : Str} {Q : D → Prop} (h1 : s < m.leave.length) (hx : x ∈ m.facts) (q : Q (.int (m.gn s x))) : dIx (rowD (rowOf m.facts (m.gain.getD s []))) (.str x) Q := by
  have h := k.rg _ (getD_in (a := []) (show s < m.gain.length by have := k.lg; omega))
  exact ⟨_, by show Option.map _ (some _) = _; exact congrArg some (look_al h.1 hx), q⟩
theorem Mach.stp_in {s : Nat} {x : Str} (h1 : s < m.leave.length) (hx : x ∈ m.facts) : 0 ≤ m.stp s x ∧ m.stp s x < m.leave.length := by
  have h := k.rs _ (getD_in (a := []) (show s < m.step.length by have := k.ls; omega))
  exact h.2 _ (look_mem h.1 hx)
theorem Mach.gn_in {s : Nat} {x : Str} (h1 : s < m.leave.length) (hx : x ∈ m.facts) : -B ≤ m.gn s x ∧ m.gn s x ≤ B := by
  have h := k.rg _ (getD_in (a := []) (show s < m.gain.length by have := k.lg; omega))
  exact h.2 _ (look_mem h.1 hx)
theorem Mach.lv_in {s : Nat} (h1 : s < m.leave.length) : -B ≤ m.lv s ∧ m.lv s ≤ B := k.rl _ (getD_in h1)
end
/-- a carry -/
structure Cary where
  to : List Int
  cost : List Int
structure Cary.ok (c : Cary) (n k : Nat) : Prop where
  lt : c.to.length = n
  lc : c.cost.length = n
  rt : ∀ s ∈ c.to, 0 ≤ s ∧ s < k
  rc : ∀ g ∈ c.cost, -50 ≤ g ∧ g ≤ 50
def caryF : List Str := ["to", "cost"]
def Cary.ds (c : Cary) : List D := [.lst (c.to.map D.int), .lst (c.cost.map D.int)]
def Cary.dd (c : Cary) : D := .ins "Carry" caryF c.ds
theorem lk_to (c : Cary) : lookD caryF c.ds "to" = some (.lst (c.to.map D.int)) := by
  unfold caryF Cary.ds
  simp only [lookD, if_true]
theorem lk_cost (c : Cary) : lookD caryF c.ds "cost" = some (.lst (c.cost.map D.int)) := by
  unfold caryF Cary.ds
  simp only [lookD, if_true, show (("cost" : Str) = "to") = False from eq_false (by decide +kernel), if_false]
theorem Mach.ok.mono {m : Mach} {t t' : Nat} {B B' : Int} (h : m.ok t B) (ht : t ≤ t') (hB : B ≤ B') : m.ok t' B' :=
  ⟨h.nd, h.f1, h.f3, h.n1, Nat.le_trans h.n8 ht, h.ls, h.lg, h.rs, fun r hr => ⟨(h.rg r hr).1, fun g hg => by have := (h.rg r hr).2 g hg; omega⟩, fun l hl => by have := h.rl l hl; omega⟩
def wordD (w : List Str) : D := .lst (w.map D.str)
def minL : List Int → Int
  | [] => 0
  | [x] => x
  | x :: y :: r => min x (minL (y :: r))
theorem minL_mem : ∀ {l : List Int}, l ≠ [] → minL l ∈ l
  | [], h => absurd rfl h
  | [x], _ => by simp [minL]
  | x :: y :: r, _ => by
    have ih := minL_mem (l := y :: r) (by simp)
    unfold minL
    rcases Int.le_total x (minL (y :: r)) with h | h
    · rw [Int.min_eq_left h]; exact List.mem_cons_self
    · rw [Int.min_eq_right h]; exact List.mem_cons_of_mem _ ih
theorem minL_le : ∀ {l : List Int} {y : Int}, y ∈ l → minL l ≤ y
  | [], y, h => by cases h
  | [x], y, h => by simp at h; simp [minL, h]
  | x :: z :: r, y, h => by
    unfold minL
    rcases List.mem_cons.mp h with rfl | h
    · exact Int.min_le_left _ _
    · exact Int.le_trans (Int.min_le_right _ _) (minL_le h)
theorem minL_uniq {l : List Int} {m : Int} (h1 : m ∈ l) (h2 : ∀ y ∈ l, m ≤ y) : m = minL l := by
  have hn : l ≠ [] := by intro e; rw [e] at h1; cases h1
  exact Int.le_antisymm (h2 _ (minL_mem hn)) (minL_le h1)
theorem dMinL_of {ns : List Int} {Q : D → Prop} (h : ns ≠ []) (q : Q (.int (minL ns))) : dMinL (.lst (ns.map D.int)) Q :=
  ⟨ns, rfl, List.length_pos_iff.mpr h, fun m h1 h2 => by rw [minL_uniq h1 h2]; exact q⟩
theorem eqDL_strs (fs : List Str) : eqDL (fs.map D.str) (fs.map D.str) = true := by
  induction fs with
  | nil => rfl
  | cons f fs ih => simp [eqDL, eqD, ih]
theorem shD_strs {fs : List Str} (h : ∀ f ∈ fs, PyData.strOk f = true) : shD (.lst (fs.map D.str)) := by
  refine ⟨?_, ?_⟩
  · simp only [okD]
    refine okDL_of fun d hd => ?_
    obtain ⟨n, hn, rfl⟩ := List.mem_map.mp hd
    simp only [okD]; exact h n hn
  · simp only [depD]
    have := depDL_of (ds := fs.map D.str) (B := 0) fun d hd => by
      obtain ⟨n, _, rfl⟩ := List.mem_map.mp hd
      simp only [depD]; omega
    omega
theorem rng_lc {n : Int} {h : Nat → Int} {vs : List Nat} {wg : WG} {we : WE} {ρ : List Sl} {Q : List D → List Sl → Prop}
    (step : ∀ i : Nat, (i : Int) < n → ∀ Kt : D → List Sl → Prop, Kt (.int (h i)) ρ → wg (.int (i : Int)) ρ fun ρ1 => we ρ1 fun y ρ3 => noOwnB ρ3 vs = true ∧ Kt y (wipeD ρ3 vs))
    (q : Q (((List.range n.toNat).map h).map D.int) ρ) : wLcL vs wg wYes we (rangeD 0 n) ρ [] Q := by
  refine wLcL_rule (fun d => ∃ i : Nat, d = .int (i : Int) ∧ (i : Int) < n) (fun d o => o = some (match d with | .int i => .int (h i.toNat) | d => d)) ?_ _ _ _ ?_ ?_
  · rintro d ⟨i, rfl, hi⟩ Kt Kf ht hf
    simp only [↓wSeq_e, ↓wNext_e, ↓wBreak_e, ↓wCont_e, ↓wRet_e, ↓wRetN_e, ↓wDrop_e, ↓wIf_e, ↓wAnd_e, ↓wOr_e, ↓wNot_e, ↓wTst_e, ↓wAndV_e, ↓wOrV_e, ↓wNotV_e, ↓wIfE_e, ↓wChain_e, ↓wVar_e, ↓wPk_e, ↓wC_e, ↓wOp_e, ↓wUn_e, ↓wM1_e, ↓wTup_e, ↓wfLst_e, ↓wFz_e, ↓waNil_e, ↓waCons_e, ↓asNil_e, ↓asCons_e, ↓asBox_e, ↓wCall_e, ↓wAsg_e, ↓wSt_e, ↓wAsgO_e, ↓wTp_e, ↓wTpL_e, ↓wPar_e, ↓wStL_nil, ↓wStL_cons, ↓wFor_e, ↓wRg1_e, ↓wRg2_e, ↓wItL_e, ↓wItT_e, ↓wItS_e, ↓wApp_e, ↓woNone_e, ↓woSome_e, ↓wCut_e, ↓wBx1_e, ↓wBx0_e, ↓wBxPut_e, ↓wDraw_e, ↓wLSet_e, ↓wNever_e, ↓wFld_e, ↓wMeth_e, ↓wMake_e, ↓wFldN_e, ↓wZip_e, ↓wPut_e, ↓wfList_e, ↓wfDict_e, ↓wfDisp1_e, ↓wPop0_e, ↓wOFld_e, ↓wOFldS_e, ↓wOApp_e, ↓wOPut_e, ↓wFldNO_e, ↓wMethO_e, ↓wGet1_e, ↓wfCut_e, ↓wfDk_e, ↓wfDt_e, ↓wCopy_e, ↓wRowPk_e, ↓wPutRow_e, ↓wTru_e, ↓wLc_e, ↓wYes_e, ↓wAug_e, dLt, dLe, dGt, dGe, dSub, dMul, dMod, dFdiv, dPow, dI2, dI2C, dAdd, dEq, dNe, dLen, dInt, dIx_l, dIx_t, dIx_s, dList, dSum, dCut, atI_zero, atI_one, Option.some.injEq, dTru, dMax2, dMin2, dAddI, dEqS, dIs, dNotIs, dSortDI, obD, id_eq, List.getElem?_cons_zero, List.getElem?_cons_succ, List.set_cons_zero, List.set_cons_succ, List.length_cons, List.length_nil, D.bl.injEq, exists_eq_left', decide_eq_true_eq, decide_eq_false_iff_not, Bool.not_eq_true', Bool.not_eq_false', Nat.zero_add, Nat.reduceAdd, true_and, and_true, forall_const, reduceCtorEq, not_true_eq_false, not_false_eq_true, false_implies, true_implies, implies_true, sz_line, Nat.reduceLeDiff, Int.reduceLE, Int.reduceLT, Int.reduceNeg, Int.reducePow, Int.reduceAdd, Int.reduceSub, Int.reduceMul]
    exact step i hi Kt (ht _ (by simp))
  · intro d hd
    obtain ⟨i, rfl, i0, i1⟩ := rangeD_mem hd
    exact ⟨i.toNat, by rw [Int.toNat_of_nonneg i0], by omega⟩
  · intro ys hy
    rw [Outs.map hy, List.nil_append]
    have e : (rangeD 0 n).map (fun d => match d with | .int i => D.int (h i.toNat) | d => d) = ((List.range n.toNat).map h).map D.int := by
      unfold rangeD
      rw [List.map_map, List.map_map, Int.sub_zero]
      refine List.map_congr_left fun i _ => ?_
      show D.int (h ((0 : Int) + (i : Nat)).toNat) = _
      rw [Int.zero_add, Int.toNat_natCast]; rfl
    rw [e]; exact q
theorem fs_lc {fs : List Str} {h : Str → Int} {vs : List Nat} {wg : WG} {we : WE} {ρ : List Sl} {Q : List D → List Sl → Prop}
    (step : ∀ f ∈ fs, ∀ Kt : D → List Sl → Prop, Kt (.int (h f)) ρ → wg (.str f) ρ fun ρ1 => we ρ1 fun y ρ3 => noOwnB ρ3 vs = true ∧ Kt y (wipeD ρ3 vs))
    (q : Q ((fs.map h).map D.int) ρ) : wLcL vs wg wYes we (fs.map D.str) ρ [] Q := by
  refine wLcL_rule (fun d => ∃ f ∈ fs, d = .str f) (fun d o => o = some (match d with | .str f => .int (h f) | d => d)) ?_ _ _ _ ?_ ?_
  · rintro d ⟨f, hf, rfl⟩ Kt Kf ht hf'
    simp only [↓wSeq_e, ↓wNext_e, ↓wBreak_e, ↓wCont_e, ↓wRet_e, ↓wRetN_e, ↓wDrop_e, ↓wIf_e, ↓wAnd_e, ↓wOr_e, ↓wNot_e, ↓wTst_e, ↓wAndV_e, ↓wOrV_e, ↓wNotV_e, ↓wIfE_e, ↓wChain_e, ↓wVar_e, ↓wPk_e, ↓wC_e, ↓wOp_e, ↓wUn_e, ↓wM1_e, ↓wTup_e, ↓wfLst_e, ↓wFz_e, ↓waNil_e, ↓waCons_e, ↓asNil_e, ↓asCons_e, ↓asBox_e, ↓wCall_e, ↓wAsg_e, ↓wSt_e, ↓wAsgO_e, ↓wTp_e, ↓wTpL_e, ↓wPar_e, ↓wStL_nil, ↓wStL_cons, ↓wFor_e, ↓wRg1_e, ↓wRg2_e, ↓wItL_e, ↓wItT_e, ↓wItS_e, ↓wApp_e, ↓woNone_e, ↓woSome_e, ↓wCut_e, ↓wBx1_e, ↓wBx0_e, ↓wBxPut_e, ↓wDraw_e, ↓wLSet_e, ↓wNever_e, ↓wFld_e, ↓wMeth_e, ↓wMake_e, ↓wFldN_e, ↓wZip_e, ↓wPut_e, ↓wfList_e, ↓wfDict_e, ↓wfDisp1_e, ↓wPop0_e, ↓wOFld_e, ↓wOFldS_e, ↓wOApp_e, ↓wOPut_e, ↓wFldNO_e, ↓wMethO_e, ↓wGet1_e, ↓wfCut_e, ↓wfDk_e, ↓wfDt_e, ↓wCopy_e, ↓wRowPk_e, ↓wPutRow_e, ↓wTru_e, ↓wLc_e, ↓wYes_e, ↓wAug_e, dLt, dLe, dGt, dGe, dSub, dMul, dMod, dFdiv, dPow, dI2, dI2C, dAdd, dEq, dNe, dLen, dInt, dIx_l, dIx_t, dIx_s, dList, dSum, dCut, atI_zero, atI_one, Option.some.injEq, dTru, dMax2, dMin2, dAddI, dEqS, dIs, dNotIs, dSortDI, obD, id_eq, List.getElem?_cons_zero, List.getElem?_cons_succ, List.set_cons_zero, List.set_cons_succ, List.length_cons, List.length_nil, D.bl.injEq, exists_eq_left', decide_eq_true_eq, decide_eq_false_iff_not, Bool.not_eq_true', Bool.not_eq_false', Nat.zero_add, Nat.reduceAdd, true_and, and_true, forall_const, reduceCtorEq, not_true_eq_false, not_false_eq_true, false_implies, true_implies, implies_true, sz_line, Nat.reduceLeDiff, Int.reduceLE, Int.reduceLT, Int.reduceNeg, Int.reducePow, Int.reduceAdd, Int.reduceSub, Int.reduceMul]
    exact step f hf Kt (ht _ rfl)
  · intro d hd
    obtain ⟨f, hf, rfl⟩ := List.mem_map.mp hd
    exact ⟨f, hf, rfl⟩
  · intro ys hy
    rw [Outs.map hy, List.nil_append, List.map_map]
    rw [List.map_map] at q
    exact q
theorem zipD_map {fs : List Str} {g : Str → Int} : zipD (fs.map D.str) ((fs.map g).map D.int) = fs.map fun f => .tup [.str f, .int (g f)] := by
  induction fs with
  | nil => rfl
  | cons f fs ih => simp only [List.map_cons, zipD, ih]
theorem zip_lc {fs : List Str} {g h : Str → Int} {vs : List Nat} {wg : WG} {we : WE} {ρ : List Sl} {Q : List D → List Sl → Prop}
    (step : ∀ f ∈ fs, ∀ Kt : D → List Sl → Prop, Kt (.int (h f)) ρ → wg (.tup [.str f, .int (g f)]) ρ fun ρ1 => we ρ1 fun y ρ3 => noOwnB ρ3 vs = true ∧ Kt y (wipeD ρ3 vs))
    (q : Q ((fs.map h).map D.int) ρ) : wLcL vs wg wYes we (zipD (fs.map D.str) ((fs.map g).map D.int)) ρ [] Q := by
  rw [zipD_map]
  refine wLcL_rule (fun d => ∃ f ∈ fs, d = .tup [.str f, .int (g f)]) (fun d o => o = some (match d with | .tup [.str f, _] => .int (h f) | d => d)) ?_ _ _ _ ?_ ?_
  · rintro d ⟨f, hf, rfl⟩ Kt Kf ht hf'
    simp only [↓wSeq_e, ↓wNext_e, ↓wBreak_e, ↓wCont_e, ↓wRet_e, ↓wRetN_e, ↓wDrop_e, ↓wIf_e, ↓wAnd_e, ↓wOr_e, ↓wNot_e, ↓wTst_e, ↓wAndV_e, ↓wOrV_e, ↓wNotV_e, ↓wIfE_e, ↓wChain_e, ↓wVar_e, ↓wPk_e, ↓wC_e, ↓wOp_e, ↓wUn_e, ↓wM1_e, ↓wTup_e, ↓wfLst_e, ↓wFz_e, ↓waNil_e, ↓waCons_e, ↓asNil_e, ↓asCons_e, ↓asBox_e, ↓wCall_e, ↓wAsg_e, ↓wSt_e, ↓wAsgO_e, ↓wTp_e, ↓wTpL_e, ↓wPar_e, ↓wStL_nil, ↓wStL_cons, ↓wFor_e, ↓wRg1_e, ↓wRg2_e, ↓wItL_e, ↓wItT_e, ↓wItS_e, ↓wApp_e, ↓woNone_e, ↓woSome_e, ↓wCut_e, ↓wBx1_e, ↓wBx0_e, ↓wBxPut_e, ↓wDraw_e, ↓wLSet_e, ↓wNever_e, ↓wFld_e, ↓wMeth_e, ↓wMake_e, ↓wFldN_e, ↓wZip_e, ↓wPut_e, ↓wfList_e, ↓wfDict_e, ↓wfDisp1_e, ↓wPop0_e, ↓wOFld_e, ↓wOFldS_e, ↓wOApp_e, ↓wOPut_e, ↓wFldNO_e, ↓wMethO_e, ↓wGet1_e, ↓wfCut_e, ↓wfDk_e, ↓wfDt_e, ↓wCopy_e, ↓wRowPk_e, ↓wPutRow_e, ↓wTru_e, ↓wLc_e, ↓wYes_e, ↓wAug_e, dLt, dLe, dGt, dGe, dSub, dMul, dMod, dFdiv, dPow, dI2, dI2C, dAdd, dEq, dNe, dLen, dInt, dIx_l, dIx_t, dIx_s, dList, dSum, dCut, atI_zero, atI_one, Option.some.injEq, dTru, dMax2, dMin2, dAddI, dEqS, dIs, dNotIs, dSortDI, obD, id_eq, List.getElem?_cons_zero, List.getElem?_cons_succ, List.set_cons_zero, List.set_cons_succ, List.length_cons, List.length_nil, D.bl.injEq, exists_eq_left', decide_eq_true_eq, decide_eq_false_iff_not, Bool.not_eq_true', Bool.not_eq_false', Nat.zero_add, Nat.reduceAdd, true_and, and_true, forall_const, reduceCtorEq, not_true_eq_false, not_false_eq_true, false_implies, true_implies, implies_true, sz_line, Nat.reduceLeDiff, Int.reduceLE, Int.reduceLT, Int.reduceNeg, Int.reducePow, Int.reduceAdd, Int.reduceSub, Int.reduceMul]
    exact step f hf Kt (ht _ rfl)
  · intro d hd
    obtain ⟨f, hf, rfl⟩ := List.mem_map.mp hd
    exact ⟨f, hf, rfl⟩
  · intro ys hy
    rw [Outs.map hy, List.nil_append, List.map_map]
    rw [List.map_map] at q
    exact q
theorem shw_ints {ns : List Int} (h : ∀ n ∈ ns, -1000000 ≤ n ∧ n ≤ 1000000) (hl : ns.length ≤ 10000) : Shw (.lst (ns.map D.int)) := by
  refine .of ?_ ?_ ?_
  · simp only [smD]
    refine smDL_of fun d hd => ?_
    obtain ⟨n, hn, rfl⟩ := List.mem_map.mp hd
    have := h n hn
    simp only [smD, Bool.and_eq_true, decide_eq_true_eq]; omega
  · simp only [depD]
    have := depDL_of (ds := ns.map D.int) (B := 0) fun d hd => by
      obtain ⟨n, _, rfl⟩ := List.mem_map.mp hd
      simp only [depD]; omega
    omega
  · simp only [szD]
    have := szDL_of (ds := ns.map D.int) (B := 41) fun d hd => by
      obtain ⟨n, _, rfl⟩ := List.mem_map.mp hd
      simp only [szD]; omega
    rw [List.length_map] at this
    omega
theorem shw_list {ds : List D} (B : Nat) (h1 : ∀ d ∈ ds, smD d = true) (h2 : ∀ d ∈ ds, depD d ≤ 5) (h3 : ∀ d ∈ ds, szD d ≤ 100) (hl : ds.length ≤ 10000) : Shw (.lst ds) := by
  refine .of ?_ ?_ ?_
  · simp only [smD]
    exact smDL_of h1
  · simp only [depD]
    have := depDL_of h2
    omega
  · simp only [szD]
    have := szDL_of h3
    omega
theorem lc_filter {α : Type} {g : α → D} {wg : WG} {wt : WT} {we : WE} {vs : List Nat} {ρ : List Sl} {Q : List D → List Sl → Prop} (p : α → Bool) (h : α → D) : ∀ (l : List α) (acc : List D),
    (∀ a ∈ l, ∀ (Kt : D → List Sl → Prop) (Kf : List Sl → Prop), (p a = true → Kt (h a) ρ) → (p a = false → Kf ρ) → wg (g a) ρ fun ρ1 => wt ρ1 fun k ρ2 => (k = true → we ρ2 fun y ρ3 => noOwnB ρ3 vs = true ∧ Kt y (wipeD ρ3 vs)) ∧ (k = false → noOwnB ρ2 vs = true ∧ Kf (wipeD ρ2 vs))) →
    Q (acc ++ (l.filter p).map h) ρ → wLcL vs wg wt we (l.map g) ρ acc Q
  | [], acc, _, q => by
    rw [List.filter_nil, List.map_nil, List.append_nil] at q
    exact q
  | a :: l, acc, st, q => by
    have fix : ∀ (A B : List Sl → Prop), (fun (k : Bool) (ρ2 : List Sl) => (k = true → A ρ2) ∧ (k = false → B ρ2)) = fun (k : Bool) (ρ2 : List Sl) => match k with | true => A ρ2 | false => B ρ2 := fun A B => by funext k ρ2; cases k <;> simp
    have go := st a List.mem_cons_self (fun y ρ' => wLcL vs wg wt we (l.map g) ρ' (acc ++ [y]) Q) (fun ρ' => wLcL vs wg wt we (l.map g) ρ' acc Q)
      (fun hp => lc_filter p h l (acc ++ [h a]) (fun b hb => st b (List.mem_cons_of_mem _ hb)) (by
        rw [List.append_assoc]
        rw [List.filter_cons_of_pos hp] at q
        exact q))
      (fun hp => lc_filter p h l acc (fun b hb => st b (List.mem_cons_of_mem _ hb)) (by
        rw [List.filter_cons_of_neg (by rw [hp]; exact Bool.false_ne_true)] at q
        exact q))
    simp only [fix] at go
    exact go
def nos (s : Sl) : Prop := noOwnB [s] [0] = true
theorem nin_many : ("many" : Str) ∉ machF := by unfold machF; decide +kernel
/-! ### check_facts -/
def wf_check_facts : WFn
  | [.sh d, .sh e], Q => ∃ m o : Mach, d = m.dd ∧ e = o.dd ∧ o.facts = m.facts ∧ (∀ f ∈ m.facts, PyData.strOk f = true) ∧ Q .non
  | _, _ => False
theorem len_check_facts : ∀ as Qd, wf_check_facts as Qd → as.length = 2 := fun as Qd h => by
  unfold wf_check_facts at h
  split at h
  · rfl
  · exact h.elim

def w_check_facts : WS := (wIf (wTst (wOp dNe (wFld "Machine" "facts" (wPk 0)) (wFld "Machine" "facts" (wPk 1))))
 wNever
 wNext)

theorem p_check_facts : ∀ as Qd, wf_check_facts as Qd → w_check_facts (startD ["machine", "other"] as) { nx := fun _ => Qd .non, rt := fun d _ => Qd d } := fun as Qd h => by
  unfold wf_check_facts at h
  split at h
  · obtain ⟨m, o, rfl, rfl, hf, hs, q⟩ := h
    show w_check_facts [.sh m.dd, .sh o.dd] _
    simp only [w_check_facts, Mach.dd, Cary.dd, lk_facts, lk_step, lk_gain, lk_leave, lk_to, lk_cost, ↓wSeq_e, ↓wNext_e, ↓wBreak_e, ↓wCont_e, ↓wRet_e, ↓wRetN_e, ↓wDrop_e, ↓wIf_e, ↓wAnd_e, ↓wOr_e, ↓wNot_e, ↓wTst_e, ↓wAndV_e, ↓wOrV_e, ↓wNotV_e, ↓wIfE_e, ↓wChain_e, ↓wVar_e, ↓wPk_e, ↓wC_e, ↓wOp_e, ↓wUn_e, ↓wM1_e, ↓wTup_e, ↓wfLst_e, ↓wFz_e, ↓waNil_e, ↓waCons_e, ↓asNil_e, ↓asCons_e, ↓asBox_e, ↓wCall_e, ↓wAsg_e, ↓wSt_e, ↓wAsgO_e, ↓wTp_e, ↓wTpL_e, ↓wPar_e, ↓wStL_nil, ↓wStL_cons, ↓wFor_e, ↓wRg1_e, ↓wRg2_e, ↓wItL_e, ↓wItT_e, ↓wItS_e, ↓wApp_e, ↓woNone_e, ↓woSome_e, ↓wCut_e, ↓wBx1_e, ↓wBx0_e, ↓wBxPut_e, ↓wDraw_e, ↓wLSet_e, ↓wNever_e, ↓wFld_e, ↓wMeth_e, ↓wMake_e, ↓wFldN_e, ↓wZip_e, ↓wPut_e, ↓wfList_e, ↓wfDict_e, ↓wfDisp1_e, ↓wPop0_e, ↓wOFld_e, ↓wOFldS_e, ↓wOApp_e, ↓wOPut_e, ↓wFldNO_e, ↓wMethO_e, ↓wGet1_e, ↓wfCut_e, ↓wfDk_e, ↓wfDt_e, ↓wCopy_e, ↓wRowPk_e, ↓wPutRow_e, ↓wTru_e, ↓wLc_e, ↓wYes_e, ↓wAug_e, dLt, dLe, dGt, dGe, dSub, dMul, dMod, dFdiv, dPow, dI2, dI2C, dAdd, dEq, dNe, dLen, dInt, dIx_l, dIx_t, dIx_s, dList, dSum, dCut, atI_zero, atI_one, Option.some.injEq, dTru, dMax2, dMin2, dAddI, dEqS, dIs, dNotIs, dSortDI, obD, id_eq, List.getElem?_cons_zero, List.getElem?_cons_succ, List.set_cons_zero, List.set_cons_succ, List.length_cons, List.length_nil, D.bl.injEq, exists_eq_left', decide_eq_true_eq, decide_eq_false_iff_not, Bool.not_eq_true', Bool.not_eq_false', Nat.zero_add, Nat.reduceAdd, true_and, and_true, forall_const, reduceCtorEq, not_true_eq_false, not_false_eq_true, false_implies, true_implies, implies_true, sz_line, Nat.reduceLeDiff, Int.reduceLE, Int.reduceLT, Int.reduceNeg, Int.reducePow, Int.reduceAdd, Int.reduceSub, Int.reduceMul, dEqB, hf]
    refine ⟨⟨shD_strs hs, shD_strs hs⟩, ?_⟩
    simp only [eqD, eqDL_strs, ↓wSeq_e, ↓wNext_e, ↓wBreak_e, ↓wCont_e, ↓wRet_e, ↓wRetN_e, ↓wDrop_e, ↓wIf_e, ↓wAnd_e, ↓wOr_e, ↓wNot_e, ↓wTst_e, ↓wAndV_e, ↓wOrV_e, ↓wNotV_e, ↓wIfE_e, ↓wChain_e, ↓wVar_e, ↓wPk_e, ↓wC_e, ↓wOp_e, ↓wUn_e, ↓wM1_e, ↓wTup_e, ↓wfLst_e, ↓wFz_e, ↓waNil_e, ↓waCons_e, ↓asNil_e, ↓asCons_e, ↓asBox_e, ↓wCall_e, ↓wAsg_e, ↓wSt_e, ↓wAsgO_e, ↓wTp_e, ↓wTpL_e, ↓wPar_e, ↓wStL_nil, ↓wStL_cons, ↓wFor_e, ↓wRg1_e, ↓wRg2_e, ↓wItL_e, ↓wItT_e, ↓wItS_e, ↓wApp_e, ↓woNone_e, ↓woSome_e, ↓wCut_e, ↓wBx1_e, ↓wBx0_e, ↓wBxPut_e, ↓wDraw_e, ↓wLSet_e, ↓wNever_e, ↓wFld_e, ↓wMeth_e, ↓wMake_e, ↓wFldN_e, ↓wZip_e, ↓wPut_e, ↓wfList_e, ↓wfDict_e, ↓wfDisp1_e, ↓wPop0_e, ↓wOFld_e, ↓wOFldS_e, ↓wOApp_e, ↓wOPut_e, ↓wFldNO_e, ↓wMethO_e, ↓wGet1_e, ↓wfCut_e, ↓wfDk_e, ↓wfDt_e, ↓wCopy_e, ↓wRowPk_e, ↓wPutRow_e, ↓wTru_e, ↓wLc_e, ↓wYes_e, ↓wAug_e, dLt, dLe, dGt, dGe, dSub, dMul, dMod, dFdiv, dPow, dI2, dI2C, dAdd, dEq, dNe, dLen, dInt, dIx_l, dIx_t, dIx_s, dList, dSum, dCut, atI_zero, atI_one, Option.some.injEq, dTru, dMax2, dMin2, dAddI, dEqS, dIs, dNotIs, dSortDI, obD, id_eq, List.getElem?_cons_zero, List.getElem?_cons_succ, List.set_cons_zero, List.set_cons_succ, List.length_cons, List.length_nil, D.bl.injEq, exists_eq_left', decide_eq_true_eq, decide_eq_false_iff_not, Bool.not_eq_true', Bool.not_eq_false', Nat.zero_add, Nat.reduceAdd, true_and, and_true, forall_const, reduceCtorEq, not_true_eq_false, not_false_eq_true, false_implies, true_implies, implies_true, sz_line, Nat.reduceLeDiff, Int.reduceLE, Int.reduceLT, Int.reduceNeg, Int.reducePow, Int.reduceAdd, Int.reduceSub, Int.reduceMul]
    first
      | exact q
      | exact ⟨fun z => by cases z, fun _ => q⟩
  · exact h.elim
/-! ### Pairs.meet -/
abbrev P2 := Int × Int
def pD (p : P2) : D := .tup [.int p.1, .int p.2]
def pK (p : P2) : List Key := [.inl p.1, .inl p.2]
theorem pK_inj {p q : P2} (h : pK p = pK q) : p = q := by
  unfold pK at h
  simp only [List.cons.injEq, Sum.inl.injEq, and_true] at h
  exact Prod.ext h.1 h.2
def endv (m o : Mach) (p : P2) : Int := m.lv p.1.toNat - o.lv p.2.toNat
def aft (m o : Mach) (p : P2) (f : Str) : P2 := (m.stp p.1.toNat f, o.stp p.2.toNat f)
def gnv (m o : Mach) (p : P2) (f : Str) : Int := m.gn p.1.toNat f - o.gn p.2.toNat f
structure inR (m o : Mach) (p : P2) : Prop where
  a0 : 0 ≤ p.1
  a1 : p.1 < m.leave.length
  b0 : 0 ≤ p.2
  b1 : p.2 < o.leave.length
def stRow (m o : Mach) (prs : List P2) (p : P2) : D := rowD (rowOf m.facts (m.facts.map fun f => (prs.idxOf (aft m o p f) : Int)))
def gnRow (m o : Mach) (p : P2) : D := rowD (rowOf m.facts (m.facts.map fun f => gnv m o p f))
def stR (m o : Mach) (prs : List P2) (k : Nat) : List D := (prs.take k).map (stRow m o prs)
def gnR (m o : Mach) (prs : List P2) (k : Nat) : List D := (prs.take k).map (gnRow m o)
def plV (prs : List P2) : List D := (List.range prs.length).map fun i : Nat => D.int i
def enV (m o : Mach) (prs : List P2) : List D := prs.map fun p => D.int (endv m o p)
def pairsF : List Str := ["facts", "pairs", "places", "step", "gain", "end"]
def psTs (m o : Mach) (prs : List P2) (k : Nat) : List OT :=
  [.sh (.lst (m.facts.map D.str)), .lst ((prs.map pD).map OT.sh), .dt (prs.map pK) ((plV prs).map OT.sh), .lst ((stR m o prs k).map OT.sh), .lst ((gnR m o prs k).map OT.sh), .lst ((enV m o prs).map OT.sh)]
def psD (m o : Mach) (prs : List P2) (k : Nat) : D :=
  .ins "Pairs" pairsF [.lst (m.facts.map D.str), .lst (prs.map pD), .dt (prs.map pK) (plV prs), .lst (stR m o prs k), .lst (gnR m o prs k), .lst (enV m o prs)]
theorem psD_ot (m o : Mach) (prs : List P2) (k : Nat) : otD (.ins "Pairs" pairsF (psTs m o prs k)) = psD m o prs k := by
  simp only [otD, psTs, otDL, otDL_sh, psD]
section
variable (a b c d e f : D)
theorem lp_facts : lookD pairsF [a, b, c, d, e, f] "facts" = some a := by
  unfold pairsF
  simp only [lookD, if_true]
theorem lp_pairs : lookD pairsF [a, b, c, d, e, f] "pairs" = some b := by
  unfold pairsF
  simp only [lookD, if_true, show (("pairs" : Str) = "facts") = False from eq_false (by decide +kernel), if_false]
theorem lp_places : lookD pairsF [a, b, c, d, e, f] "places" = some c := by
  unfold pairsF
  simp only [lookD, if_true, show (("places" : Str) = "facts") = False from eq_false (by decide +kernel), show (("places" : Str) = "pairs") = False from eq_false (by decide +kernel), if_false]
theorem lp_step : lookD pairsF [a, b, c, d, e, f] "step" = some d := by
  unfold pairsF
  simp only [lookD, if_true, show (("step" : Str) = "facts") = False from eq_false (by decide +kernel), show (("step" : Str) = "pairs") = False from eq_false (by decide +kernel), show (("step" : Str) = "places") = False from eq_false (by decide +kernel), if_false]
theorem lp_gain : lookD pairsF [a, b, c, d, e, f] "gain" = some e := by
  unfold pairsF
  simp only [lookD, if_true, show (("gain" : Str) = "facts") = False from eq_false (by decide +kernel), show (("gain" : Str) = "pairs") = False from eq_false (by decide +kernel), show (("gain" : Str) = "places") = False from eq_false (by decide +kernel), show (("gain" : Str) = "step") = False from eq_false (by decide +kernel), if_false]
theorem lp_end : lookD pairsF [a, b, c, d, e, f] "end" = some f := by
  unfold pairsF
  simp only [lookD, if_true, show (("end" : Str) = "facts") = False from eq_false (by decide +kernel), show (("end" : Str) = "pairs") = False from eq_false (by decide +kernel), show (("end" : Str) = "places") = False from eq_false (by decide +kernel), show (("end" : Str) = "step") = False from eq_false (by decide +kernel), show (("end" : Str) = "gain") = False from eq_false (by decide +kernel), if_false]
end
theorem pairsF_nd : pairsF.Nodup := by unfold pairsF; decide +kernel
theorem nin_meet : ("meet" : Str) ∉ pairsF := by unfold pairsF; decide +kernel
theorem nin_goon : ("go_on" : Str) ∉ pairsF := by unfold pairsF; decide +kernel
theorem fa0 (ts : List OT) (t : OT) (h : ts[0]? = some t) : fldAt pairsF ts "facts" 0 t := ⟨pairsF_nd, rfl, h⟩
theorem fa1 (ts : List OT) (t : OT) (h : ts[1]? = some t) : fldAt pairsF ts "pairs" 1 t := ⟨pairsF_nd, rfl, h⟩
theorem fa2 (ts : List OT) (t : OT) (h : ts[2]? = some t) : fldAt pairsF ts "places" 2 t := ⟨pairsF_nd, rfl, h⟩
theorem fa3 (ts : List OT) (t : OT) (h : ts[3]? = some t) : fldAt pairsF ts "step" 3 t := ⟨pairsF_nd, rfl, h⟩
theorem fa4 (ts : List OT) (t : OT) (h : ts[4]? = some t) : fldAt pairsF ts "gain" 4 t := ⟨pairsF_nd, rfl, h⟩
theorem fa5 (ts : List OT) (t : OT) (h : ts[5]? = some t) : fldAt pairsF ts "end" 5 t := ⟨pairsF_nd, rfl, h⟩
/-- what stands at a pair's key -/
theorem places_at : ∀ {prs : List P2} {p : P2} {n : Nat}, alD (prs.map pK) ((List.range' n prs.length).map fun i : Nat => D.int i) (pK p) = if p ∈ prs then some (.int ((n + prs.idxOf p : Nat) : Int)) else none
  | [], p, n => by simp [alD]
  | q :: prs, p, n => by
    simp only [List.map_cons, List.length_cons, List.range'_succ, alD]
    by_cases h : q = p
    · subst h
      rw [if_pos rfl, if_pos List.mem_cons_self, List.idxOf_cons_self]; rfl
    · rw [if_neg (fun e => h (pK_inj e)), places_at]
      have hi : List.idxOf p (q :: prs) = List.idxOf p prs + 1 := by
        rw [List.idxOf_cons]
        rw [show (q == p) = false by simpa using h]; rfl
      rw [hi]
      by_cases hm : p ∈ prs
      · rw [if_pos hm, if_pos (List.mem_cons_of_mem _ hm)]
        congr 3; omega
      · rw [if_neg hm, if_neg (fun z => by
          rcases List.mem_cons.mp z with z | z
          · exact h z.symm
          · exact hm z)]
theorem places_get {prs : List P2} {p : P2} : getD' (.dt (prs.map pK) (plV prs)) (pD p) = some (if p ∈ prs then some (.int (prs.idxOf p : Nat)) else none) := by
  have := places_at (prs := prs) (p := p) (n := 0)
  rw [← List.range_eq_range', Nat.zero_add] at this
  show (keysD [.int p.1, .int p.2]).map _ = _
  have hk : keysD [D.int p.1, D.int p.2] = some (pK p) := rfl
  rw [hk]
  exact congrArg some this
def meetL (prs : List P2) (p : P2) : List P2 := if p ∈ prs then prs else prs ++ [p]
/-- the rows told so far know the pairs behind them -/
structure PInv (m o : Mach) (prs : List P2) (k : Nat) : Prop where
  nd : prs.Nodup
  rg : ∀ p ∈ prs, inR m o p
  cl : ∀ p ∈ prs.take k, ∀ f ∈ m.facts, aft m o p f ∈ prs
  kl : k ≤ prs.length
theorem idxOf_app {prs : List P2} {p q : P2} (h : p ∈ prs) : (prs ++ [q]).idxOf p = prs.idxOf p := by
  rw [List.idxOf_append, if_pos h]
theorem PInv.meet {m o : Mach} {prs : List P2} {k : Nat} (h : PInv m o prs k) {p : P2} (hp : inR m o p) : PInv m o (meetL prs p) k := by
  unfold meetL
  split
  · exact h
  · rename_i hn
    refine ⟨?_, fun q hq => ?_, fun q hq f hf => ?_, by rw [List.length_append]; have := h.kl; omega⟩
    · rw [List.nodup_append]
      refine ⟨h.nd, by simp, fun a ha b hb e => hn (by rw [List.mem_singleton.mp hb] at e; rw [← e]; exact ha)⟩
    · rcases List.mem_append.mp hq with hq | hq
      · exact h.rg q hq
      · rw [List.mem_singleton.mp hq]; exact hp
    · rw [List.take_append_of_le_length h.kl] at hq
      exact List.mem_append_left _ (h.cl q hq f hf)
theorem stR_meet {m o : Mach} {prs : List P2} {k : Nat} (h : PInv m o prs k) {p : P2} (hn : p ∉ prs) : stR m o (prs ++ [p]) k = stR m o prs k := by
  unfold stR
  rw [List.take_append_of_le_length h.kl]
  refine List.map_congr_left fun q hq => ?_
  unfold stRow
  congr 2
  refine List.map_congr_left fun f hf => ?_
  rw [idxOf_app (h.cl q hq f hf)]
theorem gnR_meet {m o : Mach} {prs : List P2} {k : Nat} (h : PInv m o prs k) (p : P2) : gnR m o (prs ++ [p]) k = gnR m o prs k := by
  unfold gnR
  rw [List.take_append_of_le_length h.kl]
def wf_Pairs_meet : WFo
  | [.od x (.ins n fs ts), .sh d, .sh e, .sh g], Q => ∃ (m o : Mach) (prs : List P2) (k : Nat) (p : P2), n = "Pairs" ∧ fs = pairsF ∧ ts = psTs m o prs k ∧ d = m.dd ∧ e = o.dd ∧ g = pD p ∧ m.ok 8 20 ∧ o.ok 8 20 ∧ PInv m o prs k ∧ inR m o p ∧ prs.length ≤ 100 ∧
    Q (.int ((meetL prs p).idxOf p : Nat)) [.od x (.ins "Pairs" pairsF (psTs m o (meetL prs p) k)), .sh d, .sh e, .sh g]
  | _, _ => False
theorem len_Pairs_meet : ∀ as Qd, wf_Pairs_meet as Qd → as.length = 4 := fun as Qd h => by
  unfold wf_Pairs_meet at h
  split at h
  · rfl
  · exact h.elim

def w_Pairs_meet : WS := (wSeq (wIf (wTst (wOp dNotIn (wPk 3) (wOFld 0 "Pairs" "places")))
 (wSeq (wOPut 0 "Pairs" "places" (wVar 3) (wUn dLen (wOFld 0 "Pairs" "pairs")))
 (wSeq (wOApp 0 "Pairs" "pairs" (wVar 3))
 (wOApp 0 "Pairs" "end" (wOp dSub (wOp dIx (wFld "Machine" "leave" (wPk 1)) (wOp dIx (wPk 3) (wC (.int 0)))) (wOp dIx (wFld "Machine" "leave" (wPk 2)) (wOp dIx (wPk 3) (wC (.int 1))))))))
 wNext)
 (wRet (wOp dIx (wOFld 0 "Pairs" "places") (wPk 3))))

theorem p_Pairs_meet : ∀ as Qd, wf_Pairs_meet as Qd → w_Pairs_meet (startD ["self", "machine", "other", "pair"] as) { nx := fun ρ => ∃ as2, back as ρ as2 ∧ Qd .non as2, rt := fun d ρ => ∃ as2, back as ρ as2 ∧ Qd d as2 } := fun as Qd h => by
  unfold wf_Pairs_meet at h
  split at h
  · rename_i x n fs ts d e g
    obtain ⟨m, o, prs, k, p, rfl, rfl, rfl, rfl, rfl, rfl, okm, oko, inv, hp, hl, q⟩ := h
    show w_Pairs_meet [.od x (.ins "Pairs" pairsF (psTs m o prs k)), .sh m.dd, .sh o.dd, .sh (pD p)] _
    simp only [w_Pairs_meet, Mach.dd, Cary.dd, lk_facts, lk_step, lk_gain, lk_leave, lk_to, lk_cost, ↓wSeq_e, ↓wNext_e, ↓wBreak_e, ↓wCont_e, ↓wRet_e, ↓wRetN_e, ↓wDrop_e, ↓wIf_e, ↓wAnd_e, ↓wOr_e, ↓wNot_e, ↓wTst_e, ↓wAndV_e, ↓wOrV_e, ↓wNotV_e, ↓wIfE_e, ↓wChain_e, ↓wVar_e, ↓wPk_e, ↓wC_e, ↓wOp_e, ↓wUn_e, ↓wM1_e, ↓wTup_e, ↓wfLst_e, ↓wFz_e, ↓waNil_e, ↓waCons_e, ↓asNil_e, ↓asCons_e, ↓asBox_e, ↓wCall_e, ↓wAsg_e, ↓wSt_e, ↓wAsgO_e, ↓wTp_e, ↓wTpL_e, ↓wPar_e, ↓wStL_nil, ↓wStL_cons, ↓wFor_e, ↓wRg1_e, ↓wRg2_e, ↓wItL_e, ↓wItT_e, ↓wItS_e, ↓wApp_e, ↓woNone_e, ↓woSome_e, ↓wCut_e, ↓wBx1_e, ↓wBx0_e, ↓wBxPut_e, ↓wDraw_e, ↓wLSet_e, ↓wNever_e, ↓wFld_e, ↓wMeth_e, ↓wMake_e, ↓wFldN_e, ↓wZip_e, ↓wPut_e, ↓wfList_e, ↓wfDict_e, ↓wfDisp1_e, ↓wPop0_e, ↓wOFld_e, ↓wOFldS_e, ↓wOApp_e, ↓wOPut_e, ↓wFldNO_e, ↓wMethO_e, ↓wGet1_e, ↓wfCut_e, ↓wfDk_e, ↓wfDt_e, ↓wCopy_e, ↓wRowPk_e, ↓wPutRow_e, ↓wTru_e, ↓wLc_e, ↓wYes_e, ↓wAug_e, dLt, dLe, dGt, dGe, dSub, dMul, dMod, dFdiv, dPow, dI2, dI2C, dAdd, dEq, dNe, dLen, dInt, dIx_l, dIx_t, dIx_s, dList, dSum, dCut, atI_zero, atI_one, Option.some.injEq, dTru, dMax2, dMin2, dAddI, dEqS, dIs, dNotIs, dSortDI, obD, id_eq, List.getElem?_cons_zero, List.getElem?_cons_succ, List.set_cons_zero, List.set_cons_succ, List.length_cons, List.length_nil, D.bl.injEq, exists_eq_left', decide_eq_true_eq, decide_eq_false_iff_not, Bool.not_eq_true', Bool.not_eq_false', Nat.zero_add, Nat.reduceAdd, true_and, and_true, forall_const, reduceCtorEq, not_true_eq_false, not_false_eq_true, false_implies, true_implies, implies_true, sz_line, Nat.reduceLeDiff, Int.reduceLE, Int.reduceLT, Int.reduceNeg, Int.reducePow, Int.reduceAdd, Int.reduceSub, Int.reduceMul]
    refine ⟨2, _, .dt (prs.map pK) (plV prs), fa2 _ _ rfl, ⟨_, rfl, rfl⟩, ?_⟩
    refine ⟨_, places_get, ?_⟩
    by_cases hm : p ∈ prs
    · have em : meetL prs p = prs := if_pos hm
      rw [em] at q
      rw [if_pos hm]
      simp only [↓wSeq_e, ↓wNext_e, ↓wBreak_e, ↓wCont_e, ↓wRet_e, ↓wRetN_e, ↓wDrop_e, ↓wIf_e, ↓wAnd_e, ↓wOr_e, ↓wNot_e, ↓wTst_e, ↓wAndV_e, ↓wOrV_e, ↓wNotV_e, ↓wIfE_e, ↓wChain_e, ↓wVar_e, ↓wPk_e, ↓wC_e, ↓wOp_e, ↓wUn_e, ↓wM1_e, ↓wTup_e, ↓wfLst_e, ↓wFz_e, ↓waNil_e, ↓waCons_e, ↓asNil_e, ↓asCons_e, ↓asBox_e, ↓wCall_e, ↓wAsg_e, ↓wSt_e, ↓wAsgO_e, ↓wTp_e, ↓wTpL_e, ↓wPar_e, ↓wStL_nil, ↓wStL_cons, ↓wFor_e, ↓wRg1_e, ↓wRg2_e, ↓wItL_e, ↓wItT_e, ↓wItS_e, ↓wApp_e, ↓woNone_e, ↓woSome_e, ↓wCut_e, ↓wBx1_e, ↓wBx0_e, ↓wBxPut_e, ↓wDraw_e, ↓wLSet_e, ↓wNever_e, ↓wFld_e, ↓wMeth_e, ↓wMake_e, ↓wFldN_e, ↓wZip_e, ↓wPut_e, ↓wfList_e, ↓wfDict_e, ↓wfDisp1_e, ↓wPop0_e, ↓wOFld_e, ↓wOFldS_e, ↓wOApp_e, ↓wOPut_e, ↓wFldNO_e, ↓wMethO_e, ↓wGet1_e, ↓wfCut_e, ↓wfDk_e, ↓wfDt_e, ↓wCopy_e, ↓wRowPk_e, ↓wPutRow_e, ↓wTru_e, ↓wLc_e, ↓wYes_e, ↓wAug_e, dLt, dLe, dGt, dGe, dSub, dMul, dMod, dFdiv, dPow, dI2, dI2C, dAdd, dEq, dNe, dLen, dInt, dIx_l, dIx_t, dIx_s, dList, dSum, dCut, atI_zero, atI_one, Option.some.injEq, dTru, dMax2, dMin2, dAddI, dEqS, dIs, dNotIs, dSortDI, obD, id_eq, List.getElem?_cons_zero, List.getElem?_cons_succ, List.set_cons_zero, List.set_cons_succ, List.length_cons, List.length_nil, D.bl.injEq, exists_eq_left', decide_eq_true_eq, decide_eq_false_iff_not, Bool.not_eq_true', Bool.not_eq_false', Nat.zero_add, Nat.reduceAdd, true_and, and_true, forall_const, reduceCtorEq, not_true_eq_false, not_false_eq_true, false_implies, true_implies, implies_true, sz_line, Nat.reduceLeDiff, Int.reduceLE, Int.reduceLT, Int.reduceNeg, Int.reducePow, Int.reduceAdd, Int.reduceSub, Int.reduceMul, Option.isSome, Bool.not_true]
      refine ⟨2, _, .dt (prs.map pK) (plV prs), fa2 _ _ rfl, ⟨_, rfl, rfl⟩, ?_⟩
      refine ⟨_, by rw [places_get, if_pos hm], ?_⟩
      refine ⟨_, ?_, q⟩
      exact ⟨⟨rfl, _, rfl⟩, rfl, rfl, rfl, rfl⟩
    · have em : meetL prs p = prs ++ [p] := if_neg hm
      rw [em] at q
      rw [if_neg hm]
      simp only [↓wSeq_e, ↓wNext_e, ↓wBreak_e, ↓wCont_e, ↓wRet_e, ↓wRetN_e, ↓wDrop_e, ↓wIf_e, ↓wAnd_e, ↓wOr_e, ↓wNot_e, ↓wTst_e, ↓wAndV_e, ↓wOrV_e, ↓wNotV_e, ↓wIfE_e, ↓wChain_e, ↓wVar_e, ↓wPk_e, ↓wC_e, ↓wOp_e, ↓wUn_e, ↓wM1_e, ↓wTup_e, ↓wfLst_e, ↓wFz_e, ↓waNil_e, ↓waCons_e, ↓asNil_e, ↓asCons_e, ↓asBox_e, ↓wCall_e, ↓wAsg_e, ↓wSt_e, ↓wAsgO_e, ↓wTp_e, ↓wTpL_e, ↓wPar_e, ↓wStL_nil, ↓wStL_cons, ↓wFor_e, ↓wRg1_e, ↓wRg2_e, ↓wItL_e, ↓wItT_e, ↓wItS_e, ↓wApp_e, ↓woNone_e, ↓woSome_e, ↓wCut_e, ↓wBx1_e, ↓wBx0_e, ↓wBxPut_e, ↓wDraw_e, ↓wLSet_e, ↓wNever_e, ↓wFld_e, ↓wMeth_e, ↓wMake_e, ↓wFldN_e, ↓wZip_e, ↓wPut_e, ↓wfList_e, ↓wfDict_e, ↓wfDisp1_e, ↓wPop0_e, ↓wOFld_e, ↓wOFldS_e, ↓wOApp_e, ↓wOPut_e, ↓wFldNO_e, ↓wMethO_e, ↓wGet1_e, ↓wfCut_e, ↓wfDk_e, ↓wfDt_e, ↓wCopy_e, ↓wRowPk_e, ↓wPutRow_e, ↓wTru_e, ↓wLc_e, ↓wYes_e, ↓wAug_e, dLt, dLe, dGt, dGe, dSub, dMul, dMod, dFdiv, dPow, dI2, dI2C, dAdd, dEq, dNe, dLen, dInt, dIx_l, dIx_t, dIx_s, dList, dSum, dCut, atI_zero, atI_one, Option.some.injEq, dTru, dMax2, dMin2, dAddI, dEqS, dIs, dNotIs, dSortDI, obD, id_eq, List.getElem?_cons_zero, List.getElem?_cons_succ, List.set_cons_zero, List.set_cons_succ, List.length_cons, List.length_nil, D.bl.injEq, exists_eq_left', decide_eq_true_eq, decide_eq_false_iff_not, Bool.not_eq_true', Bool.not_eq_false', Nat.zero_add, Nat.reduceAdd, true_and, and_true, forall_const, reduceCtorEq, not_true_eq_false, not_false_eq_true, false_implies, true_implies, implies_true, sz_line, Nat.reduceLeDiff, Int.reduceLE, Int.reduceLT, Int.reduceNeg, Int.reducePow, Int.reduceAdd, Int.reduceSub, Int.reduceMul, Option.isSome, Bool.not_false]
      have hk : pK p ∉ prs.map pK := fun z => by
        obtain ⟨q, hq, e⟩ := List.mem_map.mp z
        exact hm (by rw [← pK_inj e]; exact hq)
      refine ⟨1, _, .lst (prs.map pD), fa1 _ _ rfl, ⟨_, rfl, rfl⟩, ?_⟩
      simp only [↓wSeq_e, ↓wNext_e, ↓wBreak_e, ↓wCont_e, ↓wRet_e, ↓wRetN_e, ↓wDrop_e, ↓wIf_e, ↓wAnd_e, ↓wOr_e, ↓wNot_e, ↓wTst_e, ↓wAndV_e, ↓wOrV_e, ↓wNotV_e, ↓wIfE_e, ↓wChain_e, ↓wVar_e, ↓wPk_e, ↓wC_e, ↓wOp_e, ↓wUn_e, ↓wM1_e, ↓wTup_e, ↓wfLst_e, ↓wFz_e, ↓waNil_e, ↓waCons_e, ↓asNil_e, ↓asCons_e, ↓asBox_e, ↓wCall_e, ↓wAsg_e, ↓wSt_e, ↓wAsgO_e, ↓wTp_e, ↓wTpL_e, ↓wPar_e, ↓wStL_nil, ↓wStL_cons, ↓wFor_e, ↓wRg1_e, ↓wRg2_e, ↓wItL_e, ↓wItT_e, ↓wItS_e, ↓wApp_e, ↓woNone_e, ↓woSome_e, ↓wCut_e, ↓wBx1_e, ↓wBx0_e, ↓wBxPut_e, ↓wDraw_e, ↓wLSet_e, ↓wNever_e, ↓wFld_e, ↓wMeth_e, ↓wMake_e, ↓wFldN_e, ↓wZip_e, ↓wPut_e, ↓wfList_e, ↓wfDict_e, ↓wfDisp1_e, ↓wPop0_e, ↓wOFld_e, ↓wOFldS_e, ↓wOApp_e, ↓wOPut_e, ↓wFldNO_e, ↓wMethO_e, ↓wGet1_e, ↓wfCut_e, ↓wfDk_e, ↓wfDt_e, ↓wCopy_e, ↓wRowPk_e, ↓wPutRow_e, ↓wTru_e, ↓wLc_e, ↓wYes_e, ↓wAug_e, dLt, dLe, dGt, dGe, dSub, dMul, dMod, dFdiv, dPow, dI2, dI2C, dAdd, dEq, dNe, dLen, dInt, dIx_l, dIx_t, dIx_s, dList, dSum, dCut, atI_zero, atI_one, Option.some.injEq, dTru, dMax2, dMin2, dAddI, dEqS, dIs, dNotIs, dSortDI, obD, id_eq, List.getElem?_cons_zero, List.getElem?_cons_succ, List.set_cons_zero, List.set_cons_succ, List.length_cons, List.length_nil, D.bl.injEq, exists_eq_left', decide_eq_true_eq, decide_eq_false_iff_not, Bool.not_eq_true', Bool.not_eq_false', Nat.zero_add, Nat.reduceAdd, true_and, and_true, forall_const, reduceCtorEq, not_true_eq_false, not_false_eq_true, false_implies, true_implies, implies_true, sz_line, Nat.reduceLeDiff, Int.reduceLE, Int.reduceLT, Int.reduceNeg, Int.reducePow, Int.reduceAdd, Int.reduceSub, Int.reduceMul, List.length_map]
      refine ⟨⟨_, _, _, 2, _, _, rfl, fa2 _ _ rfl⟩, 2, _, _, _, pK p, fa2 _ _ rfl, rfl, rfl, by rw [List.length_map]; omega, ?_⟩
      refine ⟨⟨_, _, _, 1, _, rfl, fa1 _ _ rfl⟩, 1, prs.map pD, fa1 _ _ rfl, by rw [List.length_map]; omega, ?_⟩
      refine ⟨⟨_, _, _, 5, _, rfl, fa5 _ _ rfl⟩, ?_⟩
      have ep : putA (prs.map pK) (plV prs) (pK p) (D.int (prs.length : Nat)) = ((prs ++ [p]).map pK, plV (prs ++ [p])) := by
        unfold putA plV
        rw [if_neg hk, List.length_append, List.length_singleton, List.range_succ, List.map_append, List.map_append]; rfl
      have efin : (((psTs m o prs k).set 2 (.dt ((prs ++ [p]).map pK) ((plV (prs ++ [p])).map OT.sh))).set 1 (.lst ((prs.map pD ++ [pD p]).map OT.sh))).set 5 (.lst ((enV m o prs ++ [D.int (endv m o p)]).map OT.sh)) = psTs m o (prs ++ [p]) k := by
        simp only [psTs, stR_meet inv hm, gnR_meet inv p, enV, List.map_append, List.map_cons, List.map_nil, List.set_cons_succ, List.set_cons_zero]
      rw [ep]
      refine ⟨_, atI_zero, ?_⟩
      refine ⟨_, Mach.at_leave okm hp.a0 hp.a1, ?_⟩
      refine ⟨_, atI_one, ?_⟩
      refine ⟨_, Mach.at_leave oko hp.b0 hp.b1, ?_⟩
      refine ⟨5, enV m o prs, fa5 _ _ rfl, by unfold enV; rw [List.length_map]; omega, ?_⟩
      have ee : m.lv p.1.toNat - o.lv p.2.toNat = endv m o p := rfl
      rw [ee, efin]
      refine ⟨2, _, .dt ((prs ++ [p]).map pK) (plV (prs ++ [p])), fa2 _ _ rfl, ⟨_, rfl, rfl⟩, ?_⟩
      refine ⟨_, by rw [places_get, if_pos (by simp)], ?_⟩
      refine ⟨_, ?_, q⟩
      exact ⟨⟨rfl, _, rfl⟩, rfl, rfl, rfl, rfl⟩
  · exact h.elim
/-! ### Pairs.go_on -/
theorem putA_new {dn : List Str} {f : Str} {ds : List D} {d : D} (h : f ∉ dn) : putA (keysOf dn) ds (Sum.inr f) d = (keysOf (dn ++ [f]), ds ++ [d]) := by
  unfold putA
  rw [if_neg (fun z => by
    obtain ⟨g, hg, ee⟩ := List.mem_map.mp z
    exact h (by rw [← Sum.inr.inj ee]; exact hg))]
  unfold keysOf
  rw [List.map_append]; rfl
def expandL (m o : Mach) (prs : List P2) (p : P2) (fs : List Str) : List P2 := fs.foldl (fun acc f => meetL acc (aft m o p f)) prs
theorem aft_in {m o : Mach} (okm : m.ok 8 20) (oko : o.ok 8 20) (hfo : o.facts = m.facts) {p : P2} (h : inR m o p) {f : Str} (hf : f ∈ m.facts) : inR m o (aft m o p f) := by
  have h1 := Mach.stp_in okm (s := p.1.toNat) (by have := h.a0; have := h.a1; omega) hf
  have h2 := Mach.stp_in oko (s := p.2.toNat) (by have := h.b0; have := h.b1; omega) (by rw [hfo]; exact hf)
  exact ⟨h1.1, h1.2, h2.1, h2.2⟩
theorem meetL_ext (prs : List P2) (p : P2) : ∃ more, meetL prs p = prs ++ more := by
  unfold meetL
  split
  · exact ⟨[], by simp⟩
  · exact ⟨[p], rfl⟩
theorem meetL_in (prs : List P2) (p : P2) : p ∈ meetL prs p := by
  unfold meetL
  split
  · assumption
  · simp
theorem expandL_snoc (m o : Mach) (prs : List P2) (p : P2) (dn : List Str) (f : Str) : expandL m o prs p (dn ++ [f]) = meetL (expandL m o prs p dn) (aft m o p f) := by
  unfold expandL; rw [List.foldl_append]; rfl
theorem expandL_ext (m o : Mach) (p : P2) : ∀ (fs : List Str) (prs : List P2), ∃ more, expandL m o prs p fs = prs ++ more
  | [], prs => ⟨[], by simp [expandL]⟩
  | f :: fs, prs => by
    obtain ⟨m1, e1⟩ := meetL_ext prs (aft m o p f)
    obtain ⟨m2, e2⟩ := expandL_ext m o p fs (meetL prs (aft m o p f))
    exact ⟨m1 ++ m2, by show expandL m o (meetL prs (aft m o p f)) p fs = _; rw [e2, e1, List.append_assoc]⟩
theorem expandL_in (m o : Mach) (p : P2) : ∀ (fs : List Str) (prs : List P2) (f : Str), f ∈ fs → aft m o p f ∈ expandL m o prs p fs
  | g :: fs, prs, f, h => by
    show aft m o p f ∈ expandL m o (meetL prs (aft m o p g)) p fs
    rcases List.mem_cons.mp h with rfl | h
    · obtain ⟨m2, e2⟩ := expandL_ext m o p fs (meetL prs (aft m o p f))
      rw [e2]
      exact List.mem_append_left _ (meetL_in _ _)
    · exact expandL_in m o p fs _ f h
theorem PInv.expand {m o : Mach} {p : P2} {k : Nat} (okm : m.ok 8 20) (oko : o.ok 8 20) (hfo : o.facts = m.facts) (hp : inR m o p) : ∀ (fs : List Str) {prs : List P2}, (∀ f ∈ fs, f ∈ m.facts) → PInv m o prs k → PInv m o (expandL m o prs p fs) k
  | [], prs, _, h => h
  | f :: fs, prs, hf, h => PInv.expand okm oko hfo hp fs (fun g hg => hf g (List.mem_cons_of_mem _ hg)) (h.meet (aft_in okm oko hfo hp (hf f List.mem_cons_self)))
theorem nodup_lt : ∀ (n : Nat) (l : List Nat), l.Nodup → (∀ x ∈ l, x < n) → l.length ≤ n
  | 0, l, _, h => by
    cases l with
    | nil => simp
    | cons a l => exact absurd (h a List.mem_cons_self) (by omega)
  | n + 1, l, nd, h => by
    have h1 := nodup_lt n (l.erase n) (nd.erase n) fun x hx => by
      have h2 := h x (List.mem_of_mem_erase hx)
      have h3 : x ≠ n := fun e => by
        rw [e] at hx
        exact (List.Nodup.not_mem_erase nd) hx
      omega
    have h2 := List.le_length_erase (l := l) (a := n)
    omega
theorem PInv.len {m o : Mach} {prs : List P2} {k : Nat} (okm : m.ok 8 20) (oko : o.ok 8 20) (h : PInv m o prs k) : prs.length ≤ 64 := by
  have a8 := okm.n8
  have b8 := oko.n8
  have hm := nodup_lt 64 (prs.map fun p => 8 * p.1.toNat + p.2.toNat) (by
    rw [List.nodup_iff_pairwise_ne, List.pairwise_map]
    refine List.Pairwise.imp_of_mem ?_ (List.nodup_iff_pairwise_ne.mp h.nd)
    intro p q hp hq ne e
    have h1 := h.rg p hp
    have h2 := h.rg q hq
    have := h1.a0; have := h1.a1; have := h1.b0; have := h1.b1
    have := h2.a0; have := h2.a1; have := h2.b0; have := h2.b1
    exact ne (Prod.ext (by omega) (by omega))) fun x hx => by
    obtain ⟨p, hp, rfl⟩ := List.mem_map.mp hx
    have h1 := h.rg p hp
    have := h1.a0; have := h1.a1; have := h1.b0; have := h1.b1
    omega
  rw [List.length_map] at hm
  exact hm
def wf_Pairs_go_on : WFo
  | [.od x (.ins n fs ts), .sh d, .sh e, .sh g], Q => ∃ (m o : Mach) (prs : List P2) (k : Nat) (p : P2), n = "Pairs" ∧ fs = pairsF ∧ ts = psTs m o prs k ∧ d = m.dd ∧ e = o.dd ∧ g = pD p ∧ m.ok 8 20 ∧ o.ok 8 20 ∧ o.facts = m.facts ∧ PInv m o prs k ∧ prs[k]? = some p ∧
    Q .non [.od x (.ins "Pairs" pairsF (psTs m o (expandL m o prs p m.facts) (k + 1))), .sh d, .sh e, .sh g]
  | _, _ => False
theorem len_Pairs_go_on : ∀ as Qd, wf_Pairs_go_on as Qd → as.length = 4 := fun as Qd h => by
  unfold wf_Pairs_go_on at h
  split at h
  · rfl
  · exact h.elim

def w_Pairs_go_on_t1 : WS := (wOApp 0 "Pairs" "gain" (wVar 7))
def w_Pairs_go_on_t2 : WS := (wPut 7 (wVar 8) (wOp dSub (wOp dIx (wOp dIx (wFld "Machine" "gain" (wPk 1)) (wPk 4)) (wPk 8)) (wOp dIx (wOp dIx (wFld "Machine" "gain" (wPk 2)) (wPk 5)) (wPk 8))))
def w_Pairs_go_on_t3 : WS := (wSeq (wOApp 0 "Pairs" "step" (wVar 6))
 w_Pairs_go_on_t1)
def w_Pairs_go_on_t4 : WS := (wSeq (wFor (wItL (wOFldS 0 "Pairs" "facts")) (wSt 8)
 (wSeq (wPut 6 (wVar 8) (wMethO 0 "Pairs" "meet" wf_Pairs_meet (asCons (wVar 1) (asCons (wVar 2) (asCons (wTup (waCons (wOp dIx (wOp dIx (wFld "Machine" "step" (wPk 1)) (wPk 4)) (wPk 8)) (waCons (wOp dIx (wOp dIx (wFld "Machine" "step" (wPk 2)) (wPk 5)) (wPk 8)) waNil))) asNil)))))
 w_Pairs_go_on_t2))
 w_Pairs_go_on_t3)
def w_Pairs_go_on_t5 : WS := (wSeq (wAsgO wfDk 7)
 w_Pairs_go_on_t4)
def w_Pairs_go_on_t6 : WS := (wSeq (wAsgO wfDk 6)
 w_Pairs_go_on_t5)
def w_Pairs_go_on : WS := (wSeq (wAsg (wVar 3) (wTp [4, 5]))
 w_Pairs_go_on_t6)

theorem p_Pairs_go_on : ∀ as Qd, wf_Pairs_go_on as Qd → w_Pairs_go_on (startD ["self", "machine", "other", "pair", "first", "second", "steps", "gains", "fact"] as) { nx := fun ρ => ∃ as2, back as ρ as2 ∧ Qd .non as2, rt := fun d ρ => ∃ as2, back as ρ as2 ∧ Qd d as2 } := fun as Qd h => by
  unfold wf_Pairs_go_on at h
  split at h
  · rename_i x n fs ts d e g
    obtain ⟨m, o, prs, k, p, rfl, rfl, rfl, rfl, rfl, rfl, okm, oko, hfo, inv, hk, q⟩ := h
    have hp : inR m o p := inv.rg p (List.mem_of_getElem? hk)
    show w_Pairs_go_on [.od x (.ins "Pairs" pairsF (psTs m o prs k)), .sh m.dd, .sh o.dd, .sh (pD p), .no, .no, .no, .no, .no] _
    simp only [w_Pairs_go_on, w_Pairs_go_on_t6, w_Pairs_go_on_t5, w_Pairs_go_on_t4, Mach.dd, Cary.dd, lk_facts, lk_step, lk_gain, lk_leave, lk_to, lk_cost, ↓wSeq_e, ↓wNext_e, ↓wBreak_e, ↓wCont_e, ↓wRet_e, ↓wRetN_e, ↓wDrop_e, ↓wIf_e, ↓wAnd_e, ↓wOr_e, ↓wNot_e, ↓wTst_e, ↓wAndV_e, ↓wOrV_e, ↓wNotV_e, ↓wIfE_e, ↓wChain_e, ↓wVar_e, ↓wPk_e, ↓wC_e, ↓wOp_e, ↓wUn_e, ↓wM1_e, ↓wTup_e, ↓wfLst_e, ↓wFz_e, ↓waNil_e, ↓waCons_e, ↓asNil_e, ↓asCons_e, ↓asBox_e, ↓wCall_e, ↓wAsg_e, ↓wSt_e, ↓wAsgO_e, ↓wTp_e, ↓wTpL_e, ↓wPar_e, ↓wStL_nil, ↓wStL_cons, ↓wFor_e, ↓wRg1_e, ↓wRg2_e, ↓wItL_e, ↓wItT_e, ↓wItS_e, ↓wApp_e, ↓woNone_e, ↓woSome_e, ↓wCut_e, ↓wBx1_e, ↓wBx0_e, ↓wBxPut_e, ↓wDraw_e, ↓wLSet_e, ↓wNever_e, ↓wFld_e, ↓wMeth_e, ↓wMake_e, ↓wFldN_e, ↓wZip_e, ↓wPut_e, ↓wfList_e, ↓wfDict_e, ↓wfDisp1_e, ↓wPop0_e, ↓wOFld_e, ↓wOFldS_e, ↓wOApp_e, ↓wOPut_e, ↓wFldNO_e, ↓wMethO_e, ↓wGet1_e, ↓wfCut_e, ↓wfDk_e, ↓wfDt_e, ↓wCopy_e, ↓wRowPk_e, ↓wPutRow_e, ↓wTru_e, ↓wLc_e, ↓wYes_e, ↓wAug_e, dLt, dLe, dGt, dGe, dSub, dMul, dMod, dFdiv, dPow, dI2, dI2C, dAdd, dEq, dNe, dLen, dInt, dIx_l, dIx_t, dIx_s, dList, dSum, dCut, atI_zero, atI_one, Option.some.injEq, dTru, dMax2, dMin2, dAddI, dEqS, dIs, dNotIs, dSortDI, obD, id_eq, List.getElem?_cons_zero, List.getElem?_cons_succ, List.set_cons_zero, List.set_cons_succ, List.length_cons, List.length_nil, D.bl.injEq, exists_eq_left', decide_eq_true_eq, decide_eq_false_iff_not, Bool.not_eq_true', Bool.not_eq_false', Nat.zero_add, Nat.reduceAdd, true_and, and_true, forall_const, reduceCtorEq, not_true_eq_false, not_false_eq_true, false_implies, true_implies, implies_true, sz_line, Nat.reduceLeDiff, Int.reduceLE, Int.reduceLT, Int.reduceNeg, Int.reducePow, Int.reduceAdd, Int.reduceSub, Int.reduceMul, pD]
    refine ⟨0, _, fa0 _ _ rfl, ?_⟩
    refine for_pre (fun dn ρ => ∃ s8, ρ = [.od x (.ins "Pairs" pairsF (psTs m o (expandL m o prs p dn) k)), .sh (.ins "Machine" machF m.ds), .sh (.ins "Machine" machF o.ds), .sh (.tup [.int p.1, .int p.2]), .sh (.int p.1), .sh (.int p.2),
      .ok (keysOf dn) (dn.map fun f => D.int ((expandL m o prs p dn).idxOf (aft m o p f) : Nat)), .ok (keysOf dn) (dn.map fun f => D.int (gnv m o p f)), s8]) ?_ ?_ _ ⟨_, rfl⟩
    · rintro dn f rest e ρ ⟨s8, rfl⟩ C hC
      have hf : f ∈ m.facts := by rw [e]; simp
      have hdn : ∀ g ∈ dn, g ∈ m.facts := fun g hg => by rw [e]; simp [hg]
      have invd := inv.expand okm oko hfo hp dn hdn
      have ld := invd.len okm oko
      have lf := okm.f3
      have ldn : dn.length < m.facts.length := by rw [e]; simp
      have nf : f ∉ dn := fun z => by
        have nd := okm.nd
        rw [e, List.nodup_append] at nd
        exact nd.2.2 f z f List.mem_cons_self rfl
      have nk : (Sum.inr f : Key) ∉ keysOf dn := fun z => by
        obtain ⟨g, hg, ee⟩ := List.mem_map.mp z
        exact nf (by rw [← Sum.inr.inj ee]; exact hg)
      have ap := aft_in okm oko hfo hp hf
      simp only [Mach.dd, Cary.dd, lk_facts, lk_step, lk_gain, lk_leave, lk_to, lk_cost, ↓wSeq_e, ↓wNext_e, ↓wBreak_e, ↓wCont_e, ↓wRet_e, ↓wRetN_e, ↓wDrop_e, ↓wIf_e, ↓wAnd_e, ↓wOr_e, ↓wNot_e, ↓wTst_e, ↓wAndV_e, ↓wOrV_e, ↓wNotV_e, ↓wIfE_e, ↓wChain_e, ↓wVar_e, ↓wPk_e, ↓wC_e, ↓wOp_e, ↓wUn_e, ↓wM1_e, ↓wTup_e, ↓wfLst_e, ↓wFz_e, ↓waNil_e, ↓waCons_e, ↓asNil_e, ↓asCons_e, ↓asBox_e, ↓wCall_e, ↓wAsg_e, ↓wSt_e, ↓wAsgO_e, ↓wTp_e, ↓wTpL_e, ↓wPar_e, ↓wStL_nil, ↓wStL_cons, ↓wFor_e, ↓wRg1_e, ↓wRg2_e, ↓wItL_e, ↓wItT_e, ↓wItS_e, ↓wApp_e, ↓woNone_e, ↓woSome_e, ↓wCut_e, ↓wBx1_e, ↓wBx0_e, ↓wBxPut_e, ↓wDraw_e, ↓wLSet_e, ↓wNever_e, ↓wFld_e, ↓wMeth_e, ↓wMake_e, ↓wFldN_e, ↓wZip_e, ↓wPut_e, ↓wfList_e, ↓wfDict_e, ↓wfDisp1_e, ↓wPop0_e, ↓wOFld_e, ↓wOFldS_e, ↓wOApp_e, ↓wOPut_e, ↓wFldNO_e, ↓wMethO_e, ↓wGet1_e, ↓wfCut_e, ↓wfDk_e, ↓wfDt_e, ↓wCopy_e, ↓wRowPk_e, ↓wPutRow_e, ↓wTru_e, ↓wLc_e, ↓wYes_e, ↓wAug_e, dLt, dLe, dGt, dGe, dSub, dMul, dMod, dFdiv, dPow, dI2, dI2C, dAdd, dEq, dNe, dLen, dInt, dIx_l, dIx_t, dIx_s, dList, dSum, dCut, atI_zero, atI_one, Option.some.injEq, dTru, dMax2, dMin2, dAddI, dEqS, dIs, dNotIs, dSortDI, obD, id_eq, List.getElem?_cons_zero, List.getElem?_cons_succ, List.set_cons_zero, List.set_cons_succ, List.length_cons, List.length_nil, D.bl.injEq, exists_eq_left', decide_eq_true_eq, decide_eq_false_iff_not, Bool.not_eq_true', Bool.not_eq_false', Nat.zero_add, Nat.reduceAdd, true_and, and_true, forall_const, reduceCtorEq, not_true_eq_false, not_false_eq_true, false_implies, true_implies, implies_true, sz_line, Nat.reduceLeDiff, Int.reduceLE, Int.reduceLT, Int.reduceNeg, Int.reducePow, Int.reduceAdd, Int.reduceSub, Int.reduceMul, wf_Pairs_meet]
      refine ⟨⟨_, _, _, rfl, nin_meet⟩, ?_⟩
      refine ⟨_, Mach.at_step okm hp.a0 hp.a1, Mach.ix_step okm (by have := hp.a1; have := hp.a0; omega) hf ?_⟩
      refine ⟨_, Mach.at_step oko hp.b0 hp.b1, Mach.ix_step oko (by have := hp.b1; have := hp.b0; omega) (by rw [hfo]; exact hf) ?_⟩
      refine ⟨m, o, expandL m o prs p dn, k, aft m o p f, rfl, rfl, rfl, rfl, okm, oko, invd, ap, by omega, ?_⟩
      refine ⟨_, rfl, ?_⟩
      refine ⟨⟨_, rfl, trivial⟩, _, rfl, by unfold keysOf; rw [List.length_map]; omega, ?_⟩
      rw [putA_new nf]
      simp only [w_Pairs_go_on_t2, Mach.dd, Cary.dd, lk_facts, lk_step, lk_gain, lk_leave, lk_to, lk_cost, ↓wSeq_e, ↓wNext_e, ↓wBreak_e, ↓wCont_e, ↓wRet_e, ↓wRetN_e, ↓wDrop_e, ↓wIf_e, ↓wAnd_e, ↓wOr_e, ↓wNot_e, ↓wTst_e, ↓wAndV_e, ↓wOrV_e, ↓wNotV_e, ↓wIfE_e, ↓wChain_e, ↓wVar_e, ↓wPk_e, ↓wC_e, ↓wOp_e, ↓wUn_e, ↓wM1_e, ↓wTup_e, ↓wfLst_e, ↓wFz_e, ↓waNil_e, ↓waCons_e, ↓asNil_e, ↓asCons_e, ↓asBox_e, ↓wCall_e, ↓wAsg_e, ↓wSt_e, ↓wAsgO_e, ↓wTp_e, ↓wTpL_e, ↓wPar_e, ↓wStL_nil, ↓wStL_cons, ↓wFor_e, ↓wRg1_e, ↓wRg2_e, ↓wItL_e, ↓wItT_e, ↓wItS_e, ↓wApp_e, ↓woNone_e, ↓woSome_e, ↓wCut_e, ↓wBx1_e, ↓wBx0_e, ↓wBxPut_e, ↓wDraw_e, ↓wLSet_e, ↓wNever_e, ↓wFld_e, ↓wMeth_e, ↓wMake_e, ↓wFldN_e, ↓wZip_e, ↓wPut_e, ↓wfList_e, ↓wfDict_e, ↓wfDisp1_e, ↓wPop0_e, ↓wOFld_e, ↓wOFldS_e, ↓wOApp_e, ↓wOPut_e, ↓wFldNO_e, ↓wMethO_e, ↓wGet1_e, ↓wfCut_e, ↓wfDk_e, ↓wfDt_e, ↓wCopy_e, ↓wRowPk_e, ↓wPutRow_e, ↓wTru_e, ↓wLc_e, ↓wYes_e, ↓wAug_e, dLt, dLe, dGt, dGe, dSub, dMul, dMod, dFdiv, dPow, dI2, dI2C, dAdd, dEq, dNe, dLen, dInt, dIx_l, dIx_t, dIx_s, dList, dSum, dCut, atI_zero, atI_one, Option.some.injEq, dTru, dMax2, dMin2, dAddI, dEqS, dIs, dNotIs, dSortDI, obD, id_eq, List.getElem?_cons_zero, List.getElem?_cons_succ, List.set_cons_zero, List.set_cons_succ, List.length_cons, List.length_nil, D.bl.injEq, exists_eq_left', decide_eq_true_eq, decide_eq_false_iff_not, Bool.not_eq_true', Bool.not_eq_false', Nat.zero_add, Nat.reduceAdd, true_and, and_true, forall_const, reduceCtorEq, not_true_eq_false, not_false_eq_true, false_implies, true_implies, implies_true, sz_line, Nat.reduceLeDiff, Int.reduceLE, Int.reduceLT, Int.reduceNeg, Int.reducePow, Int.reduceAdd, Int.reduceSub, Int.reduceMul]
      refine ⟨_, Mach.at_gain okm hp.a0 hp.a1, Mach.ix_gain okm (by have := hp.a1; have := hp.a0; omega) hf ?_⟩
      try simp only [Mach.dd, Cary.dd, lk_facts, lk_step, lk_gain, lk_leave, lk_to, lk_cost, ↓wSeq_e, ↓wNext_e, ↓wBreak_e, ↓wCont_e, ↓wRet_e, ↓wRetN_e, ↓wDrop_e, ↓wIf_e, ↓wAnd_e, ↓wOr_e, ↓wNot_e, ↓wTst_e, ↓wAndV_e, ↓wOrV_e, ↓wNotV_e, ↓wIfE_e, ↓wChain_e, ↓wVar_e, ↓wPk_e, ↓wC_e, ↓wOp_e, ↓wUn_e, ↓wM1_e, ↓wTup_e, ↓wfLst_e, ↓wFz_e, ↓waNil_e, ↓waCons_e, ↓asNil_e, ↓asCons_e, ↓asBox_e, ↓wCall_e, ↓wAsg_e, ↓wSt_e, ↓wAsgO_e, ↓wTp_e, ↓wTpL_e, ↓wPar_e, ↓wStL_nil, ↓wStL_cons, ↓wFor_e, ↓wRg1_e, ↓wRg2_e, ↓wItL_e, ↓wItT_e, ↓wItS_e, ↓wApp_e, ↓woNone_e, ↓woSome_e, ↓wCut_e, ↓wBx1_e, ↓wBx0_e, ↓wBxPut_e, ↓wDraw_e, ↓wLSet_e, ↓wNever_e, ↓wFld_e, ↓wMeth_e, ↓wMake_e, ↓wFldN_e, ↓wZip_e, ↓wPut_e, ↓wfList_e, ↓wfDict_e, ↓wfDisp1_e, ↓wPop0_e, ↓wOFld_e, ↓wOFldS_e, ↓wOApp_e, ↓wOPut_e, ↓wFldNO_e, ↓wMethO_e, ↓wGet1_e, ↓wfCut_e, ↓wfDk_e, ↓wfDt_e, ↓wCopy_e, ↓wRowPk_e, ↓wPutRow_e, ↓wTru_e, ↓wLc_e, ↓wYes_e, ↓wAug_e, dLt, dLe, dGt, dGe, dSub, dMul, dMod, dFdiv, dPow, dI2, dI2C, dAdd, dEq, dNe, dLen, dInt, dIx_l, dIx_t, dIx_s, dList, dSum, dCut, atI_zero, atI_one, Option.some.injEq, dTru, dMax2, dMin2, dAddI, dEqS, dIs, dNotIs, dSortDI, obD, id_eq, List.getElem?_cons_zero, List.getElem?_cons_succ, List.set_cons_zero, List.set_cons_succ, List.length_cons, List.length_nil, D.bl.injEq, exists_eq_left', decide_eq_true_eq, decide_eq_false_iff_not, Bool.not_eq_true', Bool.not_eq_false', Nat.zero_add, Nat.reduceAdd, true_and, and_true, forall_const, reduceCtorEq, not_true_eq_false, not_false_eq_true, false_implies, true_implies, implies_true, sz_line, Nat.reduceLeDiff, Int.reduceLE, Int.reduceLT, Int.reduceNeg, Int.reducePow, Int.reduceAdd, Int.reduceSub, Int.reduceMul]
      refine ⟨_, Mach.at_gain oko hp.b0 hp.b1, Mach.ix_gain oko (by have := hp.b1; have := hp.b0; omega) (by rw [hfo]; exact hf) ?_⟩
      try simp only [Mach.dd, Cary.dd, lk_facts, lk_step, lk_gain, lk_leave, lk_to, lk_cost, ↓wSeq_e, ↓wNext_e, ↓wBreak_e, ↓wCont_e, ↓wRet_e, ↓wRetN_e, ↓wDrop_e, ↓wIf_e, ↓wAnd_e, ↓wOr_e, ↓wNot_e, ↓wTst_e, ↓wAndV_e, ↓wOrV_e, ↓wNotV_e, ↓wIfE_e, ↓wChain_e, ↓wVar_e, ↓wPk_e, ↓wC_e, ↓wOp_e, ↓wUn_e, ↓wM1_e, ↓wTup_e, ↓wfLst_e, ↓wFz_e, ↓waNil_e, ↓waCons_e, ↓asNil_e, ↓asCons_e, ↓asBox_e, ↓wCall_e, ↓wAsg_e, ↓wSt_e, ↓wAsgO_e, ↓wTp_e, ↓wTpL_e, ↓wPar_e, ↓wStL_nil, ↓wStL_cons, ↓wFor_e, ↓wRg1_e, ↓wRg2_e, ↓wItL_e, ↓wItT_e, ↓wItS_e, ↓wApp_e, ↓woNone_e, ↓woSome_e, ↓wCut_e, ↓wBx1_e, ↓wBx0_e, ↓wBxPut_e, ↓wDraw_e, ↓wLSet_e, ↓wNever_e, ↓wFld_e, ↓wMeth_e, ↓wMake_e, ↓wFldN_e, ↓wZip_e, ↓wPut_e, ↓wfList_e, ↓wfDict_e, ↓wfDisp1_e, ↓wPop0_e, ↓wOFld_e, ↓wOFldS_e, ↓wOApp_e, ↓wOPut_e, ↓wFldNO_e, ↓wMethO_e, ↓wGet1_e, ↓wfCut_e, ↓wfDk_e, ↓wfDt_e, ↓wCopy_e, ↓wRowPk_e, ↓wPutRow_e, ↓wTru_e, ↓wLc_e, ↓wYes_e, ↓wAug_e, dLt, dLe, dGt, dGe, dSub, dMul, dMod, dFdiv, dPow, dI2, dI2C, dAdd, dEq, dNe, dLen, dInt, dIx_l, dIx_t, dIx_s, dList, dSum, dCut, atI_zero, atI_one, Option.some.injEq, dTru, dMax2, dMin2, dAddI, dEqS, dIs, dNotIs, dSortDI, obD, id_eq, List.getElem?_cons_zero, List.getElem?_cons_succ, List.set_cons_zero, List.set_cons_succ, List.length_cons, List.length_nil, D.bl.injEq, exists_eq_left', decide_eq_true_eq, decide_eq_false_iff_not, Bool.not_eq_true', Bool.not_eq_false', Nat.zero_add, Nat.reduceAdd, true_and, and_true, forall_const, reduceCtorEq, not_true_eq_false, not_false_eq_true, false_implies, true_implies, implies_true, sz_line, Nat.reduceLeDiff, Int.reduceLE, Int.reduceLT, Int.reduceNeg, Int.reducePow, Int.reduceAdd, Int.reduceSub, Int.reduceMul]
      refine ⟨⟨_, rfl, trivial⟩, _, rfl, by unfold keysOf; rw [List.length_map]; omega, ?_⟩
      rw [putA_new nf]
      refine hC _ ⟨.sh (.str f), ?_⟩
      have e1 : expandL m o prs p (dn ++ [f]) = meetL (expandL m o prs p dn) (aft m o p f) := expandL_snoc ..
      have e2 : (dn ++ [f]).map (fun g => D.int ((expandL m o prs p (dn ++ [f])).idxOf (aft m o p g) : Nat)) = dn.map (fun g => D.int ((expandL m o prs p dn).idxOf (aft m o p g) : Nat)) ++ [D.int ((meetL (expandL m o prs p dn) (aft m o p f)).idxOf (aft m o p f) : Nat)] := by
        rw [List.map_append, e1]
        congr 1
        refine List.map_congr_left fun g hg => ?_
        obtain ⟨more, em⟩ := meetL_ext (expandL m o prs p dn) (aft m o p f)
        rw [em, List.idxOf_append, if_pos (expandL_in m o p dn prs g hg)]
      rw [e2, e1, List.map_append]
      rfl
    · rintro ρ ⟨s8, rfl⟩
      have inve := inv.expand okm oko hfo hp m.facts (fun f h => h)
      have le := inve.len okm oko
      have hkl := inve.kl
      obtain ⟨more, em⟩ := expandL_ext m o p m.facts prs
      have hk2 : (expandL m o prs p m.facts)[k]? = some p := by
        rw [em, List.getElem?_append_left (List.getElem?_eq_some_iff.mp hk).1]; exact hk
      have tk : (expandL m o prs p m.facts).take (k + 1) = (expandL m o prs p m.facts).take k ++ [p] := by
        rw [List.take_add_one, hk2]; rfl
      have est : stR m o (expandL m o prs p m.facts) k ++ [.dk (keysOf m.facts) (m.facts.map fun f => D.int ((expandL m o prs p m.facts).idxOf (aft m o p f) : Nat))] = stR m o (expandL m o prs p m.facts) (k + 1) := by
        unfold stR
        rw [tk, List.map_append]
        congr 1
        simp only [List.map_cons, List.map_nil, stRow, rowD, rowOf, List.map_map]; rfl
      have egn : gnR m o (expandL m o prs p m.facts) k ++ [.dk (keysOf m.facts) (m.facts.map fun f => D.int (gnv m o p f))] = gnR m o (expandL m o prs p m.facts) (k + 1) := by
        unfold gnR
        rw [tk, List.map_append]
        congr 1
        simp only [List.map_cons, List.map_nil, gnRow, rowD, rowOf, List.map_map]; rfl
      simp only [w_Pairs_go_on_t3, w_Pairs_go_on_t1, Mach.dd, Cary.dd, lk_facts, lk_step, lk_gain, lk_leave, lk_to, lk_cost, ↓wSeq_e, ↓wNext_e, ↓wBreak_e, ↓wCont_e, ↓wRet_e, ↓wRetN_e, ↓wDrop_e, ↓wIf_e, ↓wAnd_e, ↓wOr_e, ↓wNot_e, ↓wTst_e, ↓wAndV_e, ↓wOrV_e, ↓wNotV_e, ↓wIfE_e, ↓wChain_e, ↓wVar_e, ↓wPk_e, ↓wC_e, ↓wOp_e, ↓wUn_e, ↓wM1_e, ↓wTup_e, ↓wfLst_e, ↓wFz_e, ↓waNil_e, ↓waCons_e, ↓asNil_e, ↓asCons_e, ↓asBox_e, ↓wCall_e, ↓wAsg_e, ↓wSt_e, ↓wAsgO_e, ↓wTp_e, ↓wTpL_e, ↓wPar_e, ↓wStL_nil, ↓wStL_cons, ↓wFor_e, ↓wRg1_e, ↓wRg2_e, ↓wItL_e, ↓wItT_e, ↓wItS_e, ↓wApp_e, ↓woNone_e, ↓woSome_e, ↓wCut_e, ↓wBx1_e, ↓wBx0_e, ↓wBxPut_e, ↓wDraw_e, ↓wLSet_e, ↓wNever_e, ↓wFld_e, ↓wMeth_e, ↓wMake_e, ↓wFldN_e, ↓wZip_e, ↓wPut_e, ↓wfList_e, ↓wfDict_e, ↓wfDisp1_e, ↓wPop0_e, ↓wOFld_e, ↓wOFldS_e, ↓wOApp_e, ↓wOPut_e, ↓wFldNO_e, ↓wMethO_e, ↓wGet1_e, ↓wfCut_e, ↓wfDk_e, ↓wfDt_e, ↓wCopy_e, ↓wRowPk_e, ↓wPutRow_e, ↓wTru_e, ↓wLc_e, ↓wYes_e, ↓wAug_e, dLt, dLe, dGt, dGe, dSub, dMul, dMod, dFdiv, dPow, dI2, dI2C, dAdd, dEq, dNe, dLen, dInt, dIx_l, dIx_t, dIx_s, dList, dSum, dCut, atI_zero, atI_one, Option.some.injEq, dTru, dMax2, dMin2, dAddI, dEqS, dIs, dNotIs, dSortDI, obD, id_eq, List.getElem?_cons_zero, List.getElem?_cons_succ, List.set_cons_zero, List.set_cons_succ, List.length_cons, List.length_nil, D.bl.injEq, exists_eq_left', decide_eq_true_eq, decide_eq_false_iff_not, Bool.not_eq_true', Bool.not_eq_false', Nat.zero_add, Nat.reduceAdd, true_and, and_true, forall_const, reduceCtorEq, not_true_eq_false, not_false_eq_true, false_implies, true_implies, implies_true, sz_line, Nat.reduceLeDiff, Int.reduceLE, Int.reduceLT, Int.reduceNeg, Int.reducePow, Int.reduceAdd, Int.reduceSub, Int.reduceMul]
      refine ⟨⟨_, _, _, 3, _, rfl, fa3 _ _ rfl⟩, 3, stR m o (expandL m o prs p m.facts) k, fa3 _ _ rfl, by unfold stR; rw [List.length_map, List.length_take]; omega, ?_⟩
      refine ⟨⟨_, _, _, 4, _, rfl, fa4 _ _ rfl⟩, 4, gnR m o (expandL m o prs p m.facts) k, fa4 _ _ rfl, by unfold gnR; rw [List.length_map, List.length_take]; omega, ?_⟩
      rw [est, egn]
      refine ⟨_, ?_, q⟩
      exact ⟨⟨rfl, _, rfl⟩, rfl, rfl, rfl, rfl⟩
  · exact h.elim
/-! ### Pairs.__init__ -/
def closeL (m o : Mach) : Nat → List P2 → Nat → List P2
  | 0, prs, _ => prs
  | n + 1, prs, k => match prs[k]? with
    | some p => closeL m o n (expandL m o prs p m.facts) (k + 1)
    | none => prs
def metL (m o : Mach) (begins : List P2) : List P2 := closeL m o 65 (begins.foldl meetL []) 0
theorem PInv.next {m o : Mach} {prs : List P2} {k : Nat} {p : P2} (okm : m.ok 8 20) (oko : o.ok 8 20) (hfo : o.facts = m.facts) (h : PInv m o prs k) (hk : prs[k]? = some p) : PInv m o (expandL m o prs p m.facts) (k + 1) := by
  have hp : inR m o p := h.rg p (List.mem_of_getElem? hk)
  have h2 := h.expand okm oko hfo hp m.facts (fun f h => h)
  obtain ⟨more, em⟩ := expandL_ext m o p m.facts prs
  have hlt := (List.getElem?_eq_some_iff.mp hk).1
  have hk2 : (expandL m o prs p m.facts)[k]? = some p := by
    rw [em, List.getElem?_append_left hlt]; exact hk
  refine ⟨h2.nd, h2.rg, fun q hq f hf => ?_, by rw [em, List.length_append]; omega⟩
  rw [List.take_add_one, hk2] at hq
  rcases List.mem_append.mp hq with hq | hq
  · exact h2.cl q hq f hf
  · have : q = p := by simpa using hq
    rw [this]
    exact expandL_in m o p m.facts prs f hf
theorem PInv.begins {m o : Mach} : ∀ (bs : List P2) {prs : List P2}, (∀ p ∈ bs, inR m o p) → PInv m o prs 0 → PInv m o (bs.foldl meetL prs) 0
  | [], prs, _, h => h
  | b :: bs, prs, hb, h => PInv.begins bs (fun p hp => hb p (List.mem_cons_of_mem _ hp)) (h.meet (hb b List.mem_cons_self))
theorem PInv.nil (m o : Mach) : PInv m o [] 0 := ⟨List.nodup_nil, (fun p hp => by cases hp), (fun p hp => by simp at hp), Nat.le_refl _⟩
theorem closeL_inv {m o : Mach} (okm : m.ok 8 20) (oko : o.ok 8 20) (hfo : o.facts = m.facts) : ∀ (n : Nat) {prs : List P2} {k : Nat}, PInv m o prs k → 65 ≤ n + k → PInv m o (closeL m o n prs k) (closeL m o n prs k).length
  | 0, prs, k, h, hn => by
    have := h.len okm oko
    have := h.kl
    omega
  | n + 1, prs, k, h, hn => by
    unfold closeL
    cases e : prs[k]? with
    | some p => exact closeL_inv okm oko hfo n (h.next okm oko hfo e) (by omega)
    | none =>
      have : prs.length ≤ k := List.getElem?_eq_none_iff.mp e
      have hk : k = prs.length := by have := h.kl; omega
      rw [← hk]; exact h
theorem metL_inv {m o : Mach} (okm : m.ok 8 20) (oko : o.ok 8 20) (hfo : o.facts = m.facts) {bs : List P2} (hb : ∀ p ∈ bs, inR m o p) : PInv m o (metL m o bs) (metL m o bs).length :=
  closeL_inv okm oko hfo 65 (PInv.begins bs hb (PInv.nil m o)) (by omega)
theorem closeL_ext (m o : Mach) : ∀ (n : Nat) (prs : List P2) (k : Nat), ∃ more, closeL m o n prs k = prs ++ more
  | 0, prs, k => ⟨[], by simp [closeL]⟩
  | n + 1, prs, k => by
    unfold closeL
    cases e : prs[k]? with
    | some p =>
      obtain ⟨m1, e1⟩ := expandL_ext m o p m.facts prs
      obtain ⟨m2, e2⟩ := closeL_ext m o n (expandL m o prs p m.facts) (k + 1)
      exact ⟨m1 ++ m2, by show closeL m o n (expandL m o prs p m.facts) (k + 1) = _; rw [e2, e1, List.append_assoc]⟩
    | none => exact ⟨[], by simp⟩
theorem idx_at {P : List P2} {v : P2} (h : v ∈ P) : P[P.idxOf v]? = some v := by
  have h1 := List.idxOf_lt_length_of_mem h
  rw [List.getElem?_eq_getElem h1, List.getElem_idxOf h1]
theorem stR_at {m o : Mach} {P : List P2} {v : P2} (h : v ∈ P) : atI (stR m o P P.length) (P.idxOf v : Nat) = some (stRow m o P v) := by
  refine atI_nat (by omega) ?_
  unfold stR
  rw [List.take_length, Int.toNat_natCast, List.getElem?_map, idx_at h]; rfl
theorem gnR_at {m o : Mach} {P : List P2} {v : P2} (h : v ∈ P) : atI (gnR m o P P.length) (P.idxOf v : Nat) = some (gnRow m o v) := by
  refine atI_nat (by omega) ?_
  unfold gnR
  rw [List.take_length, Int.toNat_natCast, List.getElem?_map, idx_at h]; rfl
theorem enV_at {m o : Mach} {P : List P2} {v : P2} (h : v ∈ P) : atI (enV m o P) (P.idxOf v : Nat) = some (.int (endv m o v)) := by
  refine atI_nat (by omega) ?_
  unfold enV
  rw [Int.toNat_natCast, List.getElem?_map, idx_at h]; rfl
theorem look_map : ∀ {fs : List Str} {g : Str → Int} {f : Str}, f ∈ fs → look fs (fs.map g) f = g f
  | x :: fs, g, f, h => by
    simp only [List.map_cons, look]
    by_cases z : x = f
    · rw [if_pos z, z]
    · rw [if_neg z]
      exact look_map (by
        rcases List.mem_cons.mp h with e | h
        · exact absurd e.symm z
        · exact h)
theorem stRow_ix {m o : Mach} {P : List P2} {v : P2} {f : Str} {Q : D → Prop} (hf : f ∈ m.facts) (q : Q (.int (P.idxOf (aft m o v f) : Nat))) : dIx (stRow m o P v) (.str f) Q := by
  refine ⟨_, by show Option.map _ (some _) = _; exact congrArg some (look_al (by simp) hf), ?_⟩
  rw [look_map hf]; exact q
theorem gnRow_ix {m o : Mach} {v : P2} {f : Str} {Q : D → Prop} (hf : f ∈ m.facts) (q : Q (.int (gnv m o v f))) : dIx (gnRow m o v) (.str f) Q := by
  refine ⟨_, by show Option.map _ (some _) = _; exact congrArg some (look_al (by simp) hf), ?_⟩
  rw [look_map hf]; exact q
def wf_Pairs_init : WFo
  | [.od x (.ins n [] []), .sh d, .sh e, .sh (.lst bs)], Q => ∃ (m o : Mach) (begins : List P2), n = "Pairs" ∧ d = m.dd ∧ e = o.dd ∧ bs = begins.map pD ∧ m.ok 8 20 ∧ o.ok 8 20 ∧ o.facts = m.facts ∧ (∀ f ∈ m.facts, PyData.strOk f = true) ∧ (∀ p ∈ begins, inR m o p) ∧
    Q .non [.od x (.ins "Pairs" pairsF (psTs m o (metL m o begins) (metL m o begins).length)), .sh d, .sh e, .sh (.lst bs)]
  | _, _ => False
theorem len_Pairs_init : ∀ as Qd, wf_Pairs_init as Qd → as.length = 4 := fun as Qd h => by
  unfold wf_Pairs_init at h
  split at h
  · rfl
  · exact h.elim
theorem nq1 : ("pairs" : Str) ∉ (["facts"] : List Str) := by decide +kernel
theorem nq2 : ("places" : Str) ∉ (["facts", "pairs"] : List Str) := by decide +kernel
theorem nq3 : ("step" : Str) ∉ (["facts", "pairs", "places"] : List Str) := by decide +kernel
theorem nq4 : ("gain" : Str) ∉ (["facts", "pairs", "places", "step"] : List Str) := by decide +kernel
theorem nq5 : ("end" : Str) ∉ (["facts", "pairs", "places", "step", "gain"] : List Str) := by decide +kernel

def w_Pairs_init_t1 : WS := (wWhile (wTst (wOp dLt (wUn dLen (wOFld 0 "Pairs" "step")) (wUn dLen (wOFld 0 "Pairs" "pairs"))))
 (wDrop (wMethO 0 "Pairs" "go_on" wf_Pairs_go_on (asCons (wVar 1) (asCons (wVar 2) (asCons (wOp dIx (wOFld 0 "Pairs" "pairs") (wUn dLen (wOFld 0 "Pairs" "step"))) asNil))))))
def w_Pairs_init_t2 : WS := (wSeq (wFor (wItL (wVar 3)) (wSt 4)
 (wDrop (wMethO 0 "Pairs" "meet" wf_Pairs_meet (asCons (wVar 1) (asCons (wVar 2) (asCons (wVar 4) asNil))))))
 w_Pairs_init_t1)
def w_Pairs_init_t3 : WS := (wSeq (wFldNO 0 "Pairs" "end" (wfLst waNil))
 w_Pairs_init_t2)
def w_Pairs_init_t4 : WS := (wSeq (wFldNO 0 "Pairs" "gain" (wfLst waNil))
 w_Pairs_init_t3)
def w_Pairs_init_t5 : WS := (wSeq (wFldNO 0 "Pairs" "step" (wfLst waNil))
 w_Pairs_init_t4)
def w_Pairs_init_t6 : WS := (wSeq (wFldNO 0 "Pairs" "places" wfDt)
 w_Pairs_init_t5)
def w_Pairs_init_t7 : WS := (wSeq (wFldNO 0 "Pairs" "pairs" (wfLst waNil))
 w_Pairs_init_t6)
def w_Pairs_init_t8 : WS := (wSeq (wFldN 0 "Pairs" "facts" (wUn dList (wFld "Machine" "facts" (wPk 1))))
 w_Pairs_init_t7)
def w_Pairs_init : WS := (wSeq (wDrop (wCall wf_check_facts (asCons (wVar 1) (asCons (wVar 2) asNil))))
 w_Pairs_init_t8)

theorem p_Pairs_init : ∀ as Qd, wf_Pairs_init as Qd → w_Pairs_init (startD ["self", "machine", "other", "begins", "pair"] as) { nx := fun ρ => ∃ as2, back as ρ as2 ∧ Qd .non as2, rt := fun d ρ => ∃ as2, back as ρ as2 ∧ Qd d as2 } := fun as Qd h => by
  unfold wf_Pairs_init at h
  split at h
  · rename_i x n d e bs
    obtain ⟨m, o, begins, rfl, rfl, rfl, rfl, okm, oko, hfo, hst, hb, q⟩ := h
    show w_Pairs_init [.od x (.ins "Pairs" [] []), .sh m.dd, .sh o.dd, .sh (.lst (begins.map pD)), .no] _
    simp only [w_Pairs_init, Mach.dd, Cary.dd, lk_facts, lk_step, lk_gain, lk_leave, lk_to, lk_cost, ↓wSeq_e, ↓wNext_e, ↓wBreak_e, ↓wCont_e, ↓wRet_e, ↓wRetN_e, ↓wDrop_e, ↓wIf_e, ↓wAnd_e, ↓wOr_e, ↓wNot_e, ↓wTst_e, ↓wAndV_e, ↓wOrV_e, ↓wNotV_e, ↓wIfE_e, ↓wChain_e, ↓wVar_e, ↓wPk_e, ↓wC_e, ↓wOp_e, ↓wUn_e, ↓wM1_e, ↓wTup_e, ↓wfLst_e, ↓wFz_e, ↓waNil_e, ↓waCons_e, ↓asNil_e, ↓asCons_e, ↓asBox_e, ↓wCall_e, ↓wAsg_e, ↓wSt_e, ↓wAsgO_e, ↓wTp_e, ↓wTpL_e, ↓wPar_e, ↓wStL_nil, ↓wStL_cons, ↓wFor_e, ↓wRg1_e, ↓wRg2_e, ↓wItL_e, ↓wItT_e, ↓wItS_e, ↓wApp_e, ↓woNone_e, ↓woSome_e, ↓wCut_e, ↓wBx1_e, ↓wBx0_e, ↓wBxPut_e, ↓wDraw_e, ↓wLSet_e, ↓wNever_e, ↓wFld_e, ↓wMeth_e, ↓wMake_e, ↓wFldN_e, ↓wZip_e, ↓wPut_e, ↓wfList_e, ↓wfDict_e, ↓wfDisp1_e, ↓wPop0_e, ↓wOFld_e, ↓wOFldS_e, ↓wOApp_e, ↓wOPut_e, ↓wFldNO_e, ↓wMethO_e, ↓wGet1_e, ↓wfCut_e, ↓wfDk_e, ↓wfDt_e, ↓wCopy_e, ↓wRowPk_e, ↓wPutRow_e, ↓wTru_e, ↓wLc_e, ↓wYes_e, ↓wAug_e, dLt, dLe, dGt, dGe, dSub, dMul, dMod, dFdiv, dPow, dI2, dI2C, dAdd, dEq, dNe, dLen, dInt, dIx_l, dIx_t, dIx_s, dList, dSum, dCut, atI_zero, atI_one, Option.some.injEq, dTru, dMax2, dMin2, dAddI, dEqS, dIs, dNotIs, dSortDI, obD, id_eq, List.getElem?_cons_zero, List.getElem?_cons_succ, List.set_cons_zero, List.set_cons_succ, List.length_cons, List.length_nil, D.bl.injEq, exists_eq_left', decide_eq_true_eq, decide_eq_false_iff_not, Bool.not_eq_true', Bool.not_eq_false', Nat.zero_add, Nat.reduceAdd, true_and, and_true, forall_const, reduceCtorEq, not_true_eq_false, not_false_eq_true, false_implies, true_implies, implies_true, sz_line, Nat.reduceLeDiff, Int.reduceLE, Int.reduceLT, Int.reduceNeg, Int.reducePow, Int.reduceAdd, Int.reduceSub, Int.reduceMul, wf_check_facts]
    refine ⟨m, o, rfl, rfl, hfo, hst, ?_⟩
    simp only [w_Pairs_init_t8, w_Pairs_init_t7, w_Pairs_init_t6, w_Pairs_init_t5, w_Pairs_init_t4, w_Pairs_init_t3, w_Pairs_init_t2, Mach.dd, Cary.dd, lk_facts, lk_step, lk_gain, lk_leave, lk_to, lk_cost, ↓wSeq_e, ↓wNext_e, ↓wBreak_e, ↓wCont_e, ↓wRet_e, ↓wRetN_e, ↓wDrop_e, ↓wIf_e, ↓wAnd_e, ↓wOr_e, ↓wNot_e, ↓wTst_e, ↓wAndV_e, ↓wOrV_e, ↓wNotV_e, ↓wIfE_e, ↓wChain_e, ↓wVar_e, ↓wPk_e, ↓wC_e, ↓wOp_e, ↓wUn_e, ↓wM1_e, ↓wTup_e, ↓wfLst_e, ↓wFz_e, ↓waNil_e, ↓waCons_e, ↓asNil_e, ↓asCons_e, ↓asBox_e, ↓wCall_e, ↓wAsg_e, ↓wSt_e, ↓wAsgO_e, ↓wTp_e, ↓wTpL_e, ↓wPar_e, ↓wStL_nil, ↓wStL_cons, ↓wFor_e, ↓wRg1_e, ↓wRg2_e, ↓wItL_e, ↓wItT_e, ↓wItS_e, ↓wApp_e, ↓woNone_e, ↓woSome_e, ↓wCut_e, ↓wBx1_e, ↓wBx0_e, ↓wBxPut_e, ↓wDraw_e, ↓wLSet_e, ↓wNever_e, ↓wFld_e, ↓wMeth_e, ↓wMake_e, ↓wFldN_e, ↓wZip_e, ↓wPut_e, ↓wfList_e, ↓wfDict_e, ↓wfDisp1_e, ↓wPop0_e, ↓wOFld_e, ↓wOFldS_e, ↓wOApp_e, ↓wOPut_e, ↓wFldNO_e, ↓wMethO_e, ↓wGet1_e, ↓wfCut_e, ↓wfDk_e, ↓wfDt_e, ↓wCopy_e, ↓wRowPk_e, ↓wPutRow_e, ↓wTru_e, ↓wLc_e, ↓wYes_e, ↓wAug_e, dLt, dLe, dGt, dGe, dSub, dMul, dMod, dFdiv, dPow, dI2, dI2C, dAdd, dEq, dNe, dLen, dInt, dIx_l, dIx_t, dIx_s, dList, dSum, dCut, atI_zero, atI_one, Option.some.injEq, dTru, dMax2, dMin2, dAddI, dEqS, dIs, dNotIs, dSortDI, obD, id_eq, List.getElem?_cons_zero, List.getElem?_cons_succ, List.set_cons_zero, List.set_cons_succ, List.length_cons, List.length_nil, D.bl.injEq, exists_eq_left', decide_eq_true_eq, decide_eq_false_iff_not, Bool.not_eq_true', Bool.not_eq_false', Nat.zero_add, Nat.reduceAdd, true_and, and_true, forall_const, reduceCtorEq, not_true_eq_false, not_false_eq_true, false_implies, true_implies, implies_true, sz_line, Nat.reduceLeDiff, Int.reduceLE, Int.reduceLT, Int.reduceNeg, Int.reducePow, Int.reduceAdd, Int.reduceSub, Int.reduceMul, List.nil_append, List.cons_append, slT, List.map_nil]
    refine ⟨⟨by simp, by omega⟩, ⟨nq1, by omega⟩, ⟨nq2, by omega⟩, ⟨nq3, by omega⟩, ⟨nq4, by omega⟩, ⟨nq5, by omega⟩, ?_⟩
    refine for_pre (fun dn ρ => PInv m o (dn.foldl meetL []) 0 ∧ ∃ s4, ρ = [.od x (.ins "Pairs" pairsF (psTs m o (dn.foldl meetL []) 0)), .sh (.ins "Machine" machF m.ds), .sh (.ins "Machine" machF o.ds), .sh (.lst (begins.map pD)), s4]) ?_ ?_ _ ⟨PInv.nil m o, _, rfl⟩
    · rintro dn p rest e ρ ⟨inv, s4, rfl⟩ C hC
      have hp : inR m o p := hb p (by rw [e]; simp)
      have l := inv.len okm oko
      simp only [Mach.dd, Cary.dd, lk_facts, lk_step, lk_gain, lk_leave, lk_to, lk_cost, ↓wSeq_e, ↓wNext_e, ↓wBreak_e, ↓wCont_e, ↓wRet_e, ↓wRetN_e, ↓wDrop_e, ↓wIf_e, ↓wAnd_e, ↓wOr_e, ↓wNot_e, ↓wTst_e, ↓wAndV_e, ↓wOrV_e, ↓wNotV_e, ↓wIfE_e, ↓wChain_e, ↓wVar_e, ↓wPk_e, ↓wC_e, ↓wOp_e, ↓wUn_e, ↓wM1_e, ↓wTup_e, ↓wfLst_e, ↓wFz_e, ↓waNil_e, ↓waCons_e, ↓asNil_e, ↓asCons_e, ↓asBox_e, ↓wCall_e, ↓wAsg_e, ↓wSt_e, ↓wAsgO_e, ↓wTp_e, ↓wTpL_e, ↓wPar_e, ↓wStL_nil, ↓wStL_cons, ↓wFor_e, ↓wRg1_e, ↓wRg2_e, ↓wItL_e, ↓wItT_e, ↓wItS_e, ↓wApp_e, ↓woNone_e, ↓woSome_e, ↓wCut_e, ↓wBx1_e, ↓wBx0_e, ↓wBxPut_e, ↓wDraw_e, ↓wLSet_e, ↓wNever_e, ↓wFld_e, ↓wMeth_e, ↓wMake_e, ↓wFldN_e, ↓wZip_e, ↓wPut_e, ↓wfList_e, ↓wfDict_e, ↓wfDisp1_e, ↓wPop0_e, ↓wOFld_e, ↓wOFldS_e, ↓wOApp_e, ↓wOPut_e, ↓wFldNO_e, ↓wMethO_e, ↓wGet1_e, ↓wfCut_e, ↓wfDk_e, ↓wfDt_e, ↓wCopy_e, ↓wRowPk_e, ↓wPutRow_e, ↓wTru_e, ↓wLc_e, ↓wYes_e, ↓wAug_e, dLt, dLe, dGt, dGe, dSub, dMul, dMod, dFdiv, dPow, dI2, dI2C, dAdd, dEq, dNe, dLen, dInt, dIx_l, dIx_t, dIx_s, dList, dSum, dCut, atI_zero, atI_one, Option.some.injEq, dTru, dMax2, dMin2, dAddI, dEqS, dIs, dNotIs, dSortDI, obD, id_eq, List.getElem?_cons_zero, List.getElem?_cons_succ, List.set_cons_zero, List.set_cons_succ, List.length_cons, List.length_nil, D.bl.injEq, exists_eq_left', decide_eq_true_eq, decide_eq_false_iff_not, Bool.not_eq_true', Bool.not_eq_false', Nat.zero_add, Nat.reduceAdd, true_and, and_true, forall_const, reduceCtorEq, not_true_eq_false, not_false_eq_true, false_implies, true_implies, implies_true, sz_line, Nat.reduceLeDiff, Int.reduceLE, Int.reduceLT, Int.reduceNeg, Int.reducePow, Int.reduceAdd, Int.reduceSub, Int.reduceMul, wf_Pairs_meet]
      refine ⟨⟨_, _, _, rfl, nin_meet⟩, m, o, dn.foldl meetL [], 0, p, rfl, rfl, rfl, rfl, okm, oko, inv, hp, by omega, _, rfl, ?_⟩
      refine hC _ ⟨?_, .sh (pD p), ?_⟩
      · rw [List.foldl_append]; exact inv.meet hp
      · rw [List.foldl_append]; rfl
    · rintro ρ ⟨inv, s4, rfl⟩
      simp only [w_Pairs_init_t1, ↓wSeq_e, ↓wNext_e, ↓wBreak_e, ↓wCont_e, ↓wRet_e, ↓wRetN_e, ↓wDrop_e, ↓wIf_e, ↓wAnd_e, ↓wOr_e, ↓wNot_e, ↓wTst_e, ↓wAndV_e, ↓wOrV_e, ↓wNotV_e, ↓wIfE_e, ↓wChain_e, ↓wVar_e, ↓wPk_e, ↓wC_e, ↓wOp_e, ↓wUn_e, ↓wM1_e, ↓wTup_e, ↓wfLst_e, ↓wFz_e, ↓waNil_e, ↓waCons_e, ↓asNil_e, ↓asCons_e, ↓asBox_e, ↓wCall_e, ↓wAsg_e, ↓wSt_e, ↓wAsgO_e, ↓wTp_e, ↓wTpL_e, ↓wPar_e, ↓wStL_nil, ↓wStL_cons, ↓wFor_e, ↓wRg1_e, ↓wRg2_e, ↓wItL_e, ↓wItT_e, ↓wItS_e, ↓wApp_e, ↓woNone_e, ↓woSome_e, ↓wCut_e, ↓wBx1_e, ↓wBx0_e, ↓wBxPut_e, ↓wDraw_e, ↓wLSet_e, ↓wNever_e, ↓wFld_e, ↓wMeth_e, ↓wMake_e, ↓wFldN_e, ↓wZip_e, ↓wPut_e, ↓wfList_e, ↓wfDict_e, ↓wfDisp1_e, ↓wPop0_e, ↓wOFld_e, ↓wOFldS_e, ↓wOApp_e, ↓wOPut_e, ↓wFldNO_e, ↓wMethO_e, ↓wGet1_e, ↓wfCut_e, ↓wfDk_e, ↓wfDt_e, ↓wCopy_e, ↓wRowPk_e, ↓wPutRow_e, ↓wTru_e, ↓wLc_e, ↓wYes_e, ↓wAug_e, dLt, dLe, dGt, dGe, dSub, dMul, dMod, dFdiv, dPow, dI2, dI2C, dAdd, dEq, dNe, dLen, dInt, dIx_l, dIx_t, dIx_s, dList, dSum, dCut, atI_zero, atI_one, Option.some.injEq, dTru, dMax2, dMin2, dAddI, dEqS, dIs, dNotIs, dSortDI, obD, id_eq, List.getElem?_cons_zero, List.getElem?_cons_succ, List.set_cons_zero, List.set_cons_succ, List.length_cons, List.length_nil, D.bl.injEq, exists_eq_left', decide_eq_true_eq, decide_eq_false_iff_not, Bool.not_eq_true', Bool.not_eq_false', Nat.zero_add, Nat.reduceAdd, true_and, and_true, forall_const, reduceCtorEq, not_true_eq_false, not_false_eq_true, false_implies, true_implies, implies_true, sz_line, Nat.reduceLeDiff, Int.reduceLE, Int.reduceLT, Int.reduceNeg, Int.reducePow, Int.reduceAdd, Int.reduceSub, Int.reduceMul]
      refine wWhile_rule (fun n ρ => ∃ (prs : List P2) (k : Nat), n = 65 - k ∧ PInv m o prs k ∧ closeL m o (65 - k) prs k = metL m o begins ∧ ρ = [.od x (.ins "Pairs" pairsF (psTs m o prs k)), .sh (.ins "Machine" machF m.ds), .sh (.ins "Machine" machF o.ds), .sh (.lst (begins.map pD)), s4]) 65 ⟨_, 0, rfl, inv, rfl, rfl⟩ ?_
      rintro n ρ ⟨prs, k, rfl, inv, hcl, rfl⟩
      have l := inv.len okm oko
      have kl := inv.kl
      have ls : (stR m o prs k).length = k := by unfold stR; rw [List.length_map, List.length_take]; omega
      simp only [Mach.dd, Cary.dd, lk_facts, lk_step, lk_gain, lk_leave, lk_to, lk_cost, ↓wSeq_e, ↓wNext_e, ↓wBreak_e, ↓wCont_e, ↓wRet_e, ↓wRetN_e, ↓wDrop_e, ↓wIf_e, ↓wAnd_e, ↓wOr_e, ↓wNot_e, ↓wTst_e, ↓wAndV_e, ↓wOrV_e, ↓wNotV_e, ↓wIfE_e, ↓wChain_e, ↓wVar_e, ↓wPk_e, ↓wC_e, ↓wOp_e, ↓wUn_e, ↓wM1_e, ↓wTup_e, ↓wfLst_e, ↓wFz_e, ↓waNil_e, ↓waCons_e, ↓asNil_e, ↓asCons_e, ↓asBox_e, ↓wCall_e, ↓wAsg_e, ↓wSt_e, ↓wAsgO_e, ↓wTp_e, ↓wTpL_e, ↓wPar_e, ↓wStL_nil, ↓wStL_cons, ↓wFor_e, ↓wRg1_e, ↓wRg2_e, ↓wItL_e, ↓wItT_e, ↓wItS_e, ↓wApp_e, ↓woNone_e, ↓woSome_e, ↓wCut_e, ↓wBx1_e, ↓wBx0_e, ↓wBxPut_e, ↓wDraw_e, ↓wLSet_e, ↓wNever_e, ↓wFld_e, ↓wMeth_e, ↓wMake_e, ↓wFldN_e, ↓wZip_e, ↓wPut_e, ↓wfList_e, ↓wfDict_e, ↓wfDisp1_e, ↓wPop0_e, ↓wOFld_e, ↓wOFldS_e, ↓wOApp_e, ↓wOPut_e, ↓wFldNO_e, ↓wMethO_e, ↓wGet1_e, ↓wfCut_e, ↓wfDk_e, ↓wfDt_e, ↓wCopy_e, ↓wRowPk_e, ↓wPutRow_e, ↓wTru_e, ↓wLc_e, ↓wYes_e, ↓wAug_e, dLt, dLe, dGt, dGe, dSub, dMul, dMod, dFdiv, dPow, dI2, dI2C, dAdd, dEq, dNe, dLen, dInt, dIx_l, dIx_t, dIx_s, dList, dSum, dCut, atI_zero, atI_one, Option.some.injEq, dTru, dMax2, dMin2, dAddI, dEqS, dIs, dNotIs, dSortDI, obD, id_eq, List.getElem?_cons_zero, List.getElem?_cons_succ, List.set_cons_zero, List.set_cons_succ, List.length_cons, List.length_nil, D.bl.injEq, exists_eq_left', decide_eq_true_eq, decide_eq_false_iff_not, Bool.not_eq_true', Bool.not_eq_false', Nat.zero_add, Nat.reduceAdd, true_and, and_true, forall_const, reduceCtorEq, not_true_eq_false, not_false_eq_true, false_implies, true_implies, implies_true, sz_line, Nat.reduceLeDiff, Int.reduceLE, Int.reduceLT, Int.reduceNeg, Int.reducePow, Int.reduceAdd, Int.reduceSub, Int.reduceMul]
      refine ⟨3, _, .lst (stR m o prs k), fa3 _ _ rfl, ⟨_, rfl, rfl⟩, ?_⟩
      simp only [↓wSeq_e, ↓wNext_e, ↓wBreak_e, ↓wCont_e, ↓wRet_e, ↓wRetN_e, ↓wDrop_e, ↓wIf_e, ↓wAnd_e, ↓wOr_e, ↓wNot_e, ↓wTst_e, ↓wAndV_e, ↓wOrV_e, ↓wNotV_e, ↓wIfE_e, ↓wChain_e, ↓wVar_e, ↓wPk_e, ↓wC_e, ↓wOp_e, ↓wUn_e, ↓wM1_e, ↓wTup_e, ↓wfLst_e, ↓wFz_e, ↓waNil_e, ↓waCons_e, ↓asNil_e, ↓asCons_e, ↓asBox_e, ↓wCall_e, ↓wAsg_e, ↓wSt_e, ↓wAsgO_e, ↓wTp_e, ↓wTpL_e, ↓wPar_e, ↓wStL_nil, ↓wStL_cons, ↓wFor_e, ↓wRg1_e, ↓wRg2_e, ↓wItL_e, ↓wItT_e, ↓wItS_e, ↓wApp_e, ↓woNone_e, ↓woSome_e, ↓wCut_e, ↓wBx1_e, ↓wBx0_e, ↓wBxPut_e, ↓wDraw_e, ↓wLSet_e, ↓wNever_e, ↓wFld_e, ↓wMeth_e, ↓wMake_e, ↓wFldN_e, ↓wZip_e, ↓wPut_e, ↓wfList_e, ↓wfDict_e, ↓wfDisp1_e, ↓wPop0_e, ↓wOFld_e, ↓wOFldS_e, ↓wOApp_e, ↓wOPut_e, ↓wFldNO_e, ↓wMethO_e, ↓wGet1_e, ↓wfCut_e, ↓wfDk_e, ↓wfDt_e, ↓wCopy_e, ↓wRowPk_e, ↓wPutRow_e, ↓wTru_e, ↓wLc_e, ↓wYes_e, ↓wAug_e, dLt, dLe, dGt, dGe, dSub, dMul, dMod, dFdiv, dPow, dI2, dI2C, dAdd, dEq, dNe, dLen, dInt, dIx_l, dIx_t, dIx_s, dList, dSum, dCut, atI_zero, atI_one, Option.some.injEq, dTru, dMax2, dMin2, dAddI, dEqS, dIs, dNotIs, dSortDI, obD, id_eq, List.getElem?_cons_zero, List.getElem?_cons_succ, List.set_cons_zero, List.set_cons_succ, List.length_cons, List.length_nil, D.bl.injEq, exists_eq_left', decide_eq_true_eq, decide_eq_false_iff_not, Bool.not_eq_true', Bool.not_eq_false', Nat.zero_add, Nat.reduceAdd, true_and, and_true, forall_const, reduceCtorEq, not_true_eq_false, not_false_eq_true, false_implies, true_implies, implies_true, sz_line, Nat.reduceLeDiff, Int.reduceLE, Int.reduceLT, Int.reduceNeg, Int.reducePow, Int.reduceAdd, Int.reduceSub, Int.reduceMul, ls]
      refine ⟨1, _, .lst (prs.map pD), fa1 _ _ rfl, ⟨_, rfl, rfl⟩, ?_⟩
      simp only [↓wSeq_e, ↓wNext_e, ↓wBreak_e, ↓wCont_e, ↓wRet_e, ↓wRetN_e, ↓wDrop_e, ↓wIf_e, ↓wAnd_e, ↓wOr_e, ↓wNot_e, ↓wTst_e, ↓wAndV_e, ↓wOrV_e, ↓wNotV_e, ↓wIfE_e, ↓wChain_e, ↓wVar_e, ↓wPk_e, ↓wC_e, ↓wOp_e, ↓wUn_e, ↓wM1_e, ↓wTup_e, ↓wfLst_e, ↓wFz_e, ↓waNil_e, ↓waCons_e, ↓asNil_e, ↓asCons_e, ↓asBox_e, ↓wCall_e, ↓wAsg_e, ↓wSt_e, ↓wAsgO_e, ↓wTp_e, ↓wTpL_e, ↓wPar_e, ↓wStL_nil, ↓wStL_cons, ↓wFor_e, ↓wRg1_e, ↓wRg2_e, ↓wItL_e, ↓wItT_e, ↓wItS_e, ↓wApp_e, ↓woNone_e, ↓woSome_e, ↓wCut_e, ↓wBx1_e, ↓wBx0_e, ↓wBxPut_e, ↓wDraw_e, ↓wLSet_e, ↓wNever_e, ↓wFld_e, ↓wMeth_e, ↓wMake_e, ↓wFldN_e, ↓wZip_e, ↓wPut_e, ↓wfList_e, ↓wfDict_e, ↓wfDisp1_e, ↓wPop0_e, ↓wOFld_e, ↓wOFldS_e, ↓wOApp_e, ↓wOPut_e, ↓wFldNO_e, ↓wMethO_e, ↓wGet1_e, ↓wfCut_e, ↓wfDk_e, ↓wfDt_e, ↓wCopy_e, ↓wRowPk_e, ↓wPutRow_e, ↓wTru_e, ↓wLc_e, ↓wYes_e, ↓wAug_e, dLt, dLe, dGt, dGe, dSub, dMul, dMod, dFdiv, dPow, dI2, dI2C, dAdd, dEq, dNe, dLen, dInt, dIx_l, dIx_t, dIx_s, dList, dSum, dCut, atI_zero, atI_one, Option.some.injEq, dTru, dMax2, dMin2, dAddI, dEqS, dIs, dNotIs, dSortDI, obD, id_eq, List.getElem?_cons_zero, List.getElem?_cons_succ, List.set_cons_zero, List.set_cons_succ, List.length_cons, List.length_nil, D.bl.injEq, exists_eq_left', decide_eq_true_eq, decide_eq_false_iff_not, Bool.not_eq_true', Bool.not_eq_false', Nat.zero_add, Nat.reduceAdd, true_and, and_true, forall_const, reduceCtorEq, not_true_eq_false, not_false_eq_true, false_implies, true_implies, implies_true, sz_line, Nat.reduceLeDiff, Int.reduceLE, Int.reduceLT, Int.reduceNeg, Int.reducePow, Int.reduceAdd, Int.reduceSub, Int.reduceMul, List.length_map]
      refine ⟨fun hk => ?_, fun hk => ?_⟩
      · have hk' : k < prs.length := by omega
        have ek : prs[k]? = some prs[k] := List.getElem?_eq_getElem hk'
        simp only [Mach.dd, Cary.dd, lk_facts, lk_step, lk_gain, lk_leave, lk_to, lk_cost, ↓wSeq_e, ↓wNext_e, ↓wBreak_e, ↓wCont_e, ↓wRet_e, ↓wRetN_e, ↓wDrop_e, ↓wIf_e, ↓wAnd_e, ↓wOr_e, ↓wNot_e, ↓wTst_e, ↓wAndV_e, ↓wOrV_e, ↓wNotV_e, ↓wIfE_e, ↓wChain_e, ↓wVar_e, ↓wPk_e, ↓wC_e, ↓wOp_e, ↓wUn_e, ↓wM1_e, ↓wTup_e, ↓wfLst_e, ↓wFz_e, ↓waNil_e, ↓waCons_e, ↓asNil_e, ↓asCons_e, ↓asBox_e, ↓wCall_e, ↓wAsg_e, ↓wSt_e, ↓wAsgO_e, ↓wTp_e, ↓wTpL_e, ↓wPar_e, ↓wStL_nil, ↓wStL_cons, ↓wFor_e, ↓wRg1_e, ↓wRg2_e, ↓wItL_e, ↓wItT_e, ↓wItS_e, ↓wApp_e, ↓woNone_e, ↓woSome_e, ↓wCut_e, ↓wBx1_e, ↓wBx0_e, ↓wBxPut_e, ↓wDraw_e, ↓wLSet_e, ↓wNever_e, ↓wFld_e, ↓wMeth_e, ↓wMake_e, ↓wFldN_e, ↓wZip_e, ↓wPut_e, ↓wfList_e, ↓wfDict_e, ↓wfDisp1_e, ↓wPop0_e, ↓wOFld_e, ↓wOFldS_e, ↓wOApp_e, ↓wOPut_e, ↓wFldNO_e, ↓wMethO_e, ↓wGet1_e, ↓wfCut_e, ↓wfDk_e, ↓wfDt_e, ↓wCopy_e, ↓wRowPk_e, ↓wPutRow_e, ↓wTru_e, ↓wLc_e, ↓wYes_e, ↓wAug_e, dLt, dLe, dGt, dGe, dSub, dMul, dMod, dFdiv, dPow, dI2, dI2C, dAdd, dEq, dNe, dLen, dInt, dIx_l, dIx_t, dIx_s, dList, dSum, dCut, atI_zero, atI_one, Option.some.injEq, dTru, dMax2, dMin2, dAddI, dEqS, dIs, dNotIs, dSortDI, obD, id_eq, List.getElem?_cons_zero, List.getElem?_cons_succ, List.set_cons_zero, List.set_cons_succ, List.length_cons, List.length_nil, D.bl.injEq, exists_eq_left', decide_eq_true_eq, decide_eq_false_iff_not, Bool.not_eq_true', Bool.not_eq_false', Nat.zero_add, Nat.reduceAdd, true_and, and_true, forall_const, reduceCtorEq, not_true_eq_false, not_false_eq_true, false_implies, true_implies, implies_true, sz_line, Nat.reduceLeDiff, Int.reduceLE, Int.reduceLT, Int.reduceNeg, Int.reducePow, Int.reduceAdd, Int.reduceSub, Int.reduceMul, wf_Pairs_go_on]
        refine ⟨⟨_, _, _, rfl, nin_goon⟩, 1, _, .lst (prs.map pD), fa1 _ _ rfl, ⟨_, rfl, rfl⟩, 3, _, .lst (stR m o prs k), fa3 _ _ rfl, ⟨_, rfl, rfl⟩, ?_⟩
        simp only [↓wSeq_e, ↓wNext_e, ↓wBreak_e, ↓wCont_e, ↓wRet_e, ↓wRetN_e, ↓wDrop_e, ↓wIf_e, ↓wAnd_e, ↓wOr_e, ↓wNot_e, ↓wTst_e, ↓wAndV_e, ↓wOrV_e, ↓wNotV_e, ↓wIfE_e, ↓wChain_e, ↓wVar_e, ↓wPk_e, ↓wC_e, ↓wOp_e, ↓wUn_e, ↓wM1_e, ↓wTup_e, ↓wfLst_e, ↓wFz_e, ↓waNil_e, ↓waCons_e, ↓asNil_e, ↓asCons_e, ↓asBox_e, ↓wCall_e, ↓wAsg_e, ↓wSt_e, ↓wAsgO_e, ↓wTp_e, ↓wTpL_e, ↓wPar_e, ↓wStL_nil, ↓wStL_cons, ↓wFor_e, ↓wRg1_e, ↓wRg2_e, ↓wItL_e, ↓wItT_e, ↓wItS_e, ↓wApp_e, ↓woNone_e, ↓woSome_e, ↓wCut_e, ↓wBx1_e, ↓wBx0_e, ↓wBxPut_e, ↓wDraw_e, ↓wLSet_e, ↓wNever_e, ↓wFld_e, ↓wMeth_e, ↓wMake_e, ↓wFldN_e, ↓wZip_e, ↓wPut_e, ↓wfList_e, ↓wfDict_e, ↓wfDisp1_e, ↓wPop0_e, ↓wOFld_e, ↓wOFldS_e, ↓wOApp_e, ↓wOPut_e, ↓wFldNO_e, ↓wMethO_e, ↓wGet1_e, ↓wfCut_e, ↓wfDk_e, ↓wfDt_e, ↓wCopy_e, ↓wRowPk_e, ↓wPutRow_e, ↓wTru_e, ↓wLc_e, ↓wYes_e, ↓wAug_e, dLt, dLe, dGt, dGe, dSub, dMul, dMod, dFdiv, dPow, dI2, dI2C, dAdd, dEq, dNe, dLen, dInt, dIx_l, dIx_t, dIx_s, dList, dSum, dCut, atI_zero, atI_one, Option.some.injEq, dTru, dMax2, dMin2, dAddI, dEqS, dIs, dNotIs, dSortDI, obD, id_eq, List.getElem?_cons_zero, List.getElem?_cons_succ, List.set_cons_zero, List.set_cons_succ, List.length_cons, List.length_nil, D.bl.injEq, exists_eq_left', decide_eq_true_eq, decide_eq_false_iff_not, Bool.not_eq_true', Bool.not_eq_false', Nat.zero_add, Nat.reduceAdd, true_and, and_true, forall_const, reduceCtorEq, not_true_eq_false, not_false_eq_true, false_implies, true_implies, implies_true, sz_line, Nat.reduceLeDiff, Int.reduceLE, Int.reduceLT, Int.reduceNeg, Int.reducePow, Int.reduceAdd, Int.reduceSub, Int.reduceMul, ls]
        refine ⟨pD prs[k], atI_nat (by omega) (by rw [Int.toNat_natCast, List.getElem?_map, ek]; rfl), ?_⟩
        refine ⟨m, o, prs, k, prs[k], rfl, rfl, rfl, rfl, okm, oko, hfo, inv, ek, _, rfl, ?_⟩
        refine ⟨65 - (k + 1), by omega, expandL m o prs prs[k] m.facts, k + 1, rfl, inv.next okm oko hfo ek, ?_, rfl⟩
        rw [← hcl]
        have e65 : 65 - k = (65 - (k + 1)) + 1 := by omega
        rw [e65]
        show _ = (match prs[k]? with
          | some p => closeL m o (65 - (k + 1)) (expandL m o prs p m.facts) (k + 1)
          | none => prs)
        rw [ek]
      · have hkn : prs[k]? = none := List.getElem?_eq_none (by omega)
        have e65 : 65 - k = (65 - (k + 1)) + 1 := by omega
        have hp : prs = metL m o begins := by
          rw [← hcl, e65]
          show prs = (match prs[k]? with
            | some p => closeL m o (65 - (k + 1)) (expandL m o prs p m.facts) (k + 1)
            | none => prs)
          rw [hkn]
        have hk2 : k = prs.length := by omega
        rw [← hp, ← hk2] at q
        refine ⟨_, ?_, q⟩
        exact ⟨⟨rfl, _, rfl⟩, rfl, rfl, rfl, rfl⟩
  · exact h.elim

/-! ### Pairs.many -/
def wf_Pairs_many : WFn
  | [.sh d], Q => ∃ (m o : Mach) (prs : List P2) (k : Nat), d = psD m o prs k ∧ Q (.int prs.length)
  | _, _ => False
theorem len_Pairs_many : ∀ as Qd, wf_Pairs_many as Qd → as.length = 1 := fun as Qd h => by
  unfold wf_Pairs_many at h
  split at h
  · rfl
  · exact h.elim

def w_Pairs_many : WS := (wRet (wUn dLen (wFld "Pairs" "pairs" (wPk 0))))

theorem p_Pairs_many : ∀ as Qd, wf_Pairs_many as Qd → w_Pairs_many (startD ["self"] as) { nx := fun _ => Qd .non, rt := fun d _ => Qd d } := fun as Qd h => by
  unfold wf_Pairs_many at h
  split at h
  · obtain ⟨m, o, prs, k, rfl, q⟩ := h
    show w_Pairs_many [.sh (psD m o prs k)] _
    simp only [w_Pairs_many, psD, lp_facts, lp_pairs, lp_places, lp_step, lp_gain, lp_end, ↓wSeq_e, ↓wNext_e, ↓wBreak_e, ↓wCont_e, ↓wRet_e, ↓wRetN_e, ↓wDrop_e, ↓wIf_e, ↓wAnd_e, ↓wOr_e, ↓wNot_e, ↓wTst_e, ↓wAndV_e, ↓wOrV_e, ↓wNotV_e, ↓wIfE_e, ↓wChain_e, ↓wVar_e, ↓wPk_e, ↓wC_e, ↓wOp_e, ↓wUn_e, ↓wM1_e, ↓wTup_e, ↓wfLst_e, ↓wFz_e, ↓waNil_e, ↓waCons_e, ↓asNil_e, ↓asCons_e, ↓asBox_e, ↓wCall_e, ↓wAsg_e, ↓wSt_e, ↓wAsgO_e, ↓wTp_e, ↓wTpL_e, ↓wPar_e, ↓wStL_nil, ↓wStL_cons, ↓wFor_e, ↓wRg1_e, ↓wRg2_e, ↓wItL_e, ↓wItT_e, ↓wItS_e, ↓wApp_e, ↓woNone_e, ↓woSome_e, ↓wCut_e, ↓wBx1_e, ↓wBx0_e, ↓wBxPut_e, ↓wDraw_e, ↓wLSet_e, ↓wNever_e, ↓wFld_e, ↓wMeth_e, ↓wMake_e, ↓wFldN_e, ↓wZip_e, ↓wPut_e, ↓wfList_e, ↓wfDict_e, ↓wfDisp1_e, ↓wPop0_e, ↓wOFld_e, ↓wOFldS_e, ↓wOApp_e, ↓wOPut_e, ↓wFldNO_e, ↓wMethO_e, ↓wGet1_e, ↓wfCut_e, ↓wfDk_e, ↓wfDt_e, ↓wCopy_e, ↓wRowPk_e, ↓wPutRow_e, ↓wTru_e, ↓wLc_e, ↓wYes_e, ↓wAug_e, dLt, dLe, dGt, dGe, dSub, dMul, dMod, dFdiv, dPow, dI2, dI2C, dAdd, dEq, dNe, dLen, dInt, dIx_l, dIx_t, dIx_s, dList, dSum, dCut, atI_zero, atI_one, Option.some.injEq, dTru, dMax2, dMin2, dAddI, dEqS, dIs, dNotIs, dSortDI, obD, id_eq, List.getElem?_cons_zero, List.getElem?_cons_succ, List.set_cons_zero, List.set_cons_succ, List.length_cons, List.length_nil, D.bl.injEq, exists_eq_left', decide_eq_true_eq, decide_eq_false_iff_not, Bool.not_eq_true', Bool.not_eq_false', Nat.zero_add, Nat.reduceAdd, true_and, and_true, forall_const, reduceCtorEq, not_true_eq_false, not_false_eq_true, false_implies, true_implies, implies_true, sz_line, Nat.reduceLeDiff, Int.reduceLE, Int.reduceLT, Int.reduceNeg, Int.reducePow, Int.reduceAdd, Int.reduceSub, Int.reduceMul, List.length_map]
    exact q
  · exact h.elim
/-! ### Machine.many -/
def wf_Machine_many : WFn
  | [.sh d], Q => ∃ m : Mach, d = m.dd ∧ Q (.int m.leave.length)
  | _, _ => False
theorem len_Machine_many : ∀ as Qd, wf_Machine_many as Qd → as.length = 1 := fun as Qd h => by
  unfold wf_Machine_many at h
  split at h
  · rfl
  · exact h.elim

def w_Machine_many : WS := (wRet (wUn dLen (wFld "Machine" "leave" (wPk 0))))

theorem p_Machine_many : ∀ as Qd, wf_Machine_many as Qd → w_Machine_many (startD ["self"] as) { nx := fun _ => Qd .non, rt := fun d _ => Qd d } := fun as Qd h => by
  unfold wf_Machine_many at h
  split at h
  · obtain ⟨m, rfl, q⟩ := h
    show w_Machine_many [.sh m.dd] _
    simp only [w_Machine_many, Mach.dd, Cary.dd, lk_facts, lk_step, lk_gain, lk_leave, lk_to, lk_cost, ↓wSeq_e, ↓wNext_e, ↓wBreak_e, ↓wCont_e, ↓wRet_e, ↓wRetN_e, ↓wDrop_e, ↓wIf_e, ↓wAnd_e, ↓wOr_e, ↓wNot_e, ↓wTst_e, ↓wAndV_e, ↓wOrV_e, ↓wNotV_e, ↓wIfE_e, ↓wChain_e, ↓wVar_e, ↓wPk_e, ↓wC_e, ↓wOp_e, ↓wUn_e, ↓wM1_e, ↓wTup_e, ↓wfLst_e, ↓wFz_e, ↓waNil_e, ↓waCons_e, ↓asNil_e, ↓asCons_e, ↓asBox_e, ↓wCall_e, ↓wAsg_e, ↓wSt_e, ↓wAsgO_e, ↓wTp_e, ↓wTpL_e, ↓wPar_e, ↓wStL_nil, ↓wStL_cons, ↓wFor_e, ↓wRg1_e, ↓wRg2_e, ↓wItL_e, ↓wItT_e, ↓wItS_e, ↓wApp_e, ↓woNone_e, ↓woSome_e, ↓wCut_e, ↓wBx1_e, ↓wBx0_e, ↓wBxPut_e, ↓wDraw_e, ↓wLSet_e, ↓wNever_e, ↓wFld_e, ↓wMeth_e, ↓wMake_e, ↓wFldN_e, ↓wZip_e, ↓wPut_e, ↓wfList_e, ↓wfDict_e, ↓wfDisp1_e, ↓wPop0_e, ↓wOFld_e, ↓wOFldS_e, ↓wOApp_e, ↓wOPut_e, ↓wFldNO_e, ↓wMethO_e, ↓wGet1_e, ↓wfCut_e, ↓wfDk_e, ↓wfDt_e, ↓wCopy_e, ↓wRowPk_e, ↓wPutRow_e, ↓wTru_e, ↓wLc_e, ↓wYes_e, ↓wAug_e, dLt, dLe, dGt, dGe, dSub, dMul, dMod, dFdiv, dPow, dI2, dI2C, dAdd, dEq, dNe, dLen, dInt, dIx_l, dIx_t, dIx_s, dList, dSum, dCut, atI_zero, atI_one, Option.some.injEq, dTru, dMax2, dMin2, dAddI, dEqS, dIs, dNotIs, dSortDI, obD, id_eq, List.getElem?_cons_zero, List.getElem?_cons_succ, List.set_cons_zero, List.set_cons_succ, List.length_cons, List.length_nil, D.bl.injEq, exists_eq_left', decide_eq_true_eq, decide_eq_false_iff_not, Bool.not_eq_true', Bool.not_eq_false', Nat.zero_add, Nat.reduceAdd, true_and, and_true, forall_const, reduceCtorEq, not_true_eq_false, not_false_eq_true, false_implies, true_implies, implies_true, sz_line, Nat.reduceLeDiff, Int.reduceLE, Int.reduceLT, Int.reduceNeg, Int.reducePow, Int.reduceAdd, Int.reduceSub, Int.reduceMul, List.length_map]
    exact q
  · exact h.elim
/-! ### first_careers -/
abbrev CE := Int × List Str
def stepC (m : Mach) (acc : List CE) (p : CE) (f : Str) : List CE := if m.stp p.1.toNat f ∈ acc.map (·.1) then acc else acc ++ [(m.stp p.1.toNat f, p.2 ++ [f])]
def expC (m : Mach) (acc : List CE) (p : CE) (fs : List Str) : List CE := fs.foldl (fun a f => stepC m a p f) acc
def closeC (m : Mach) : Nat → List CE → Nat → List CE
  | 0, acc, _ => acc
  | n + 1, acc, k => match acc[k]? with
    | some p => closeC m n (expC m acc p m.facts) (k + 1)
    | none => acc
def comeL (m : Mach) : List CE := closeC m 9 [(0, [])] 0
structure CInv (m : Mach) (acc : List CE) : Prop where
  nd : (acc.map (·.1)).Nodup
  rg : ∀ e ∈ acc, 0 ≤ e.1 ∧ e.1 < m.leave.length
  ws : ∀ e ∈ acc, (∀ f ∈ e.2, f ∈ m.facts) ∧ e.2.length < acc.length
theorem CInv.len {m : Mach} {acc : List CE} (okm : m.ok 8 20) (h : CInv m acc) : acc.length ≤ 8 := by
  have n8 := okm.n8
  have := nodup_lt 8 (acc.map fun e => e.1.toNat) (by
    have nd := h.nd
    rw [List.nodup_iff_pairwise_ne, List.pairwise_map] at nd ⊢
    refine List.Pairwise.imp_of_mem ?_ nd
    intro p q hp hq ne e
    have h1 := h.rg p hp
    have h2 := h.rg q hq
    exact ne (by omega)) fun x hx => by
    obtain ⟨p, hp, rfl⟩ := List.mem_map.mp hx
    have h1 := h.rg p hp
    omega
  rw [List.length_map] at this
  exact this
theorem CInv.step {m : Mach} {acc : List CE} (okm : m.ok 8 20) (h : CInv m acc) {p : CE} (hp : p ∈ acc) {f : Str} (hf : f ∈ m.facts) : CInv m (stepC m acc p f) := by
  unfold stepC
  split
  · exact h
  · rename_i hn
    have r := h.rg p hp
    have st := Mach.stp_in okm (s := p.1.toNat) (by omega) hf
    refine ⟨?_, fun e he => ?_, fun e he => ?_⟩
    · rw [List.map_append, List.nodup_append]
      exact ⟨h.nd, by simp, fun a ha b hb e => hn (by have e2 : b = m.stp p.1.toNat f := List.mem_singleton.mp hb; rw [← e2, ← e]; exact ha)⟩
    · rcases List.mem_append.mp he with he | he
      · exact h.rg e he
      · rw [List.mem_singleton.mp he]; exact st
    · rw [List.length_append, List.length_singleton]
      rcases List.mem_append.mp he with he | he
      · have := h.ws e he
        exact ⟨this.1, by omega⟩
      · rw [List.mem_singleton.mp he]
        have := h.ws p hp
        refine ⟨fun g hg => ?_, by simp only [List.length_append, List.length_singleton]; omega⟩
        rcases List.mem_append.mp hg with hg | hg
        · exact this.1 g hg
        · rw [List.mem_singleton.mp hg]; exact hf
theorem stepC_ext (m : Mach) (acc : List CE) (p : CE) (f : Str) : ∃ more, stepC m acc p f = acc ++ more := by
  unfold stepC
  split
  · exact ⟨[], by simp⟩
  · exact ⟨_, rfl⟩
theorem expC_ext (m : Mach) (p : CE) : ∀ (fs : List Str) (acc : List CE), ∃ more, expC m acc p fs = acc ++ more
  | [], acc => ⟨[], by simp [expC]⟩
  | f :: fs, acc => by
    obtain ⟨m1, e1⟩ := stepC_ext m acc p f
    obtain ⟨m2, e2⟩ := expC_ext m p fs (stepC m acc p f)
    exact ⟨m1 ++ m2, by show expC m (stepC m acc p f) p fs = _; rw [e2, e1, List.append_assoc]⟩
theorem expC_snoc (m : Mach) (acc : List CE) (p : CE) (dn : List Str) (f : Str) : expC m acc p (dn ++ [f]) = stepC m (expC m acc p dn) p f := by
  unfold expC; rw [List.foldl_append]; rfl
theorem CInv.exp {m : Mach} (okm : m.ok 8 20) {p : CE} : ∀ (fs : List Str) {acc : List CE}, (∀ f ∈ fs, f ∈ m.facts) → CInv m acc → p ∈ acc → CInv m (expC m acc p fs)
  | [], acc, _, h, _ => h
  | f :: fs, acc, hf, h, hp => by
    obtain ⟨more, e⟩ := stepC_ext m acc p f
    exact CInv.exp okm fs (fun g hg => hf g (List.mem_cons_of_mem _ hg)) (h.step okm hp (hf f List.mem_cons_self)) (by show p ∈ stepC m acc p f; rw [e]; exact List.mem_append_left _ hp)
theorem CInv.start {m : Mach} (okm : m.ok 8 20) : CInv m [(0, [])] := by
  have := okm.n1
  refine ⟨by simp, fun e he => ?_, fun e he => ?_⟩
  all_goals rw [List.mem_singleton.mp he]
  · exact ⟨by decide, by show (0 : Int) < _; omega⟩
  · exact ⟨(fun f hf => by cases hf), by simp⟩
theorem closeC_inv {m : Mach} (okm : m.ok 8 20) : ∀ (n : Nat) {acc : List CE} {k : Nat}, CInv m acc → CInv m (closeC m n acc k)
  | 0, acc, k, h => h
  | n + 1, acc, k, h => by
    unfold closeC
    cases e : acc[k]? with
    | some p => exact closeC_inv okm n (h.exp okm m.facts (fun f h => h) (List.mem_of_getElem? e))
    | none => exact h
theorem come_inv {m : Mach} (okm : m.ok 8 20) : CInv m (comeL m) := closeC_inv okm 9 (CInv.start okm)
/-- what is told of a state -/
def atC (acc : List CE) (s : Int) : D := ((acc.find? fun e => decide (e.1 = s)).map fun e => wordD e.2).getD .non
theorem find_none {acc : List CE} {s : Int} (h : s ∉ acc.map (·.1)) : acc.find? (fun e => decide (e.1 = s)) = none := by
  rw [List.find?_eq_none]
  intro e he z
  exact h (List.mem_map.mpr ⟨e, he, of_decide_eq_true z⟩)
theorem find_mem {s : Int} {w : List Str} : ∀ {acc : List CE}, (acc.map (·.1)).Nodup → (s, w) ∈ acc → acc.find? (fun e => decide (e.1 = s)) = some (s, w)
  | e :: acc, nd, h => by
    rw [List.map_cons, List.nodup_cons] at nd
    rcases List.mem_cons.mp h with rfl | h
    · rw [List.find?_cons_of_pos (by simp)]
    · rw [List.find?_cons_of_neg (by
        simp only [decide_eq_true_eq]
        intro z
        exact nd.1 (by rw [z]; exact List.mem_map.mpr ⟨_, h, rfl⟩))]
      exact find_mem nd.2 h
theorem atC_none {acc : List CE} {s : Int} (h : s ∉ acc.map (·.1)) : atC acc s = .non := by unfold atC; rw [find_none h]; rfl
theorem atC_mem {acc : List CE} {s : Int} {w : List Str} (nd : (acc.map (·.1)).Nodup) (h : (s, w) ∈ acc) : atC acc s = wordD w := by unfold atC; rw [find_mem nd h]; rfl
def foundV (n : Nat) (acc : List CE) : List D := (List.range n).map fun i : Nat => atC acc i
theorem foundV_at {n : Nat} {acc : List CE} {s : Int} (h0 : 0 ≤ s) (h1 : s < n) : atI (foundV n acc) s = some (atC acc s) := by
  refine atI_nat h0 ?_
  unfold foundV
  rw [List.getElem?_map, List.getElem?_range (by omega)]
  show some (atC acc ((s.toNat : Nat) : Int)) = _
  rw [Int.toNat_of_nonneg h0]
theorem foundV_set {n : Nat} {acc : List CE} {a : Int} {w : List Str} (h0 : 0 ≤ a) (hn : a ∉ acc.map (·.1)) : (foundV n acc).set a.toNat (wordD w) = foundV n (acc ++ [(a, w)]) := by
  refine List.ext_getElem (by simp [foundV]) fun i h1 h2 => ?_
  have g : ∀ (b : List CE) (hb : i < (foundV n b).length), (foundV n b)[i]'hb = atC b ((i : Nat) : Int) := fun b hb => by
    simp only [foundV, List.getElem_map, List.getElem_range]
  rw [List.getElem_set, g, g]
  split
  · rename_i e
    have e2 : ((i : Nat) : Int) = a := by omega
    rw [e2]
    unfold atC
    rw [List.find?_append, find_none hn, List.find?_cons_of_pos (by simp)]
    rfl
  · rename_i e
    unfold atC
    rw [List.find?_append]
    have : ([(a, w)] : List CE).find? (fun e => decide (e.1 = ((i : Nat) : Int))) = none := by
      rw [List.find?_cons_of_neg (by simp only [decide_eq_true_eq]; omega)]; rfl
    rw [this, Option.or_none]
theorem foundV_zero {n : Nat} : foundV n [] = List.replicate n .non := by
  refine List.ext_getElem (by simp [foundV]) fun i h1 h2 => ?_
  simp only [foundV, List.getElem_map, List.getElem_replicate]
  exact atC_none (by simp)
def wtC (acc : List CE) (k : Nat) : List D := (acc.drop k).map fun e => D.int e.1
theorem wtC_app {acc : List CE} {k : Nat} (h : k ≤ acc.length) (e : CE) : wtC (acc ++ [e]) k = wtC acc k ++ [.int e.1] := by
  unfold wtC
  rw [List.drop_append_of_le_length h, List.map_append]; rfl
theorem wtC_cons {acc : List CE} {k : Nat} {p : CE} (h : acc[k]? = some p) : wtC acc k = .int p.1 :: wtC acc (k + 1) := by
  unfold wtC
  obtain ⟨hk, e⟩ := List.getElem?_eq_some_iff.mp h
  rw [List.drop_eq_getElem_cons hk, e]; rfl
theorem wtC_nil {acc : List CE} {k : Nat} (h : acc[k]? = none) : wtC acc k = [] := by
  unfold wtC
  rw [List.drop_eq_nil_of_le (List.getElem?_eq_none_iff.mp h)]; rfl
def wf_first_careers : WFn
  | [.sh d], Q => ∃ m : Mach, d = m.dd ∧ m.ok 8 20 ∧ Q (.lst (foundV m.leave.length (comeL m)))
  | _, _ => False
theorem len_first_careers : ∀ as Qd, wf_first_careers as Qd → as.length = 1 := fun as Qd h => by
  unfold wf_first_careers at h
  split at h
  · rfl
  · exact h.elim
theorem nons_lc {n : Nat} {ds : List D} {vs : List Nat} {wg : WG} {we : WE} {ρ : List Sl} {Q : List D → List Sl → Prop} (hl : ds.length = n)
    (step : ∀ d ∈ ds, ∀ Kt : D → List Sl → Prop, Kt .non ρ → wg d ρ fun ρ1 => we ρ1 fun y ρ3 => noOwnB ρ3 vs = true ∧ Kt y (wipeD ρ3 vs))
    (q : Q (List.replicate n .non) ρ) : wLcL vs wg wYes we ds ρ [] Q := by
  refine wLcL_rule (fun d => d ∈ ds) (fun _ o => o = some .non) ?_ _ _ _ (fun d h => h) ?_
  · rintro d hd Kt Kf ht hf
    simp only [↓wSeq_e, ↓wNext_e, ↓wBreak_e, ↓wCont_e, ↓wRet_e, ↓wRetN_e, ↓wDrop_e, ↓wIf_e, ↓wAnd_e, ↓wOr_e, ↓wNot_e, ↓wTst_e, ↓wAndV_e, ↓wOrV_e, ↓wNotV_e, ↓wIfE_e, ↓wChain_e, ↓wVar_e, ↓wPk_e, ↓wC_e, ↓wOp_e, ↓wUn_e, ↓wM1_e, ↓wTup_e, ↓wfLst_e, ↓wFz_e, ↓waNil_e, ↓waCons_e, ↓asNil_e, ↓asCons_e, ↓asBox_e, ↓wCall_e, ↓wAsg_e, ↓wSt_e, ↓wAsgO_e, ↓wTp_e, ↓wTpL_e, ↓wPar_e, ↓wStL_nil, ↓wStL_cons, ↓wFor_e, ↓wRg1_e, ↓wRg2_e, ↓wItL_e, ↓wItT_e, ↓wItS_e, ↓wApp_e, ↓woNone_e, ↓woSome_e, ↓wCut_e, ↓wBx1_e, ↓wBx0_e, ↓wBxPut_e, ↓wDraw_e, ↓wLSet_e, ↓wNever_e, ↓wFld_e, ↓wMeth_e, ↓wMake_e, ↓wFldN_e, ↓wZip_e, ↓wPut_e, ↓wfList_e, ↓wfDict_e, ↓wfDisp1_e, ↓wPop0_e, ↓wOFld_e, ↓wOFldS_e, ↓wOApp_e, ↓wOPut_e, ↓wFldNO_e, ↓wMethO_e, ↓wGet1_e, ↓wfCut_e, ↓wfDk_e, ↓wfDt_e, ↓wCopy_e, ↓wRowPk_e, ↓wPutRow_e, ↓wTru_e, ↓wLc_e, ↓wYes_e, ↓wAug_e, dLt, dLe, dGt, dGe, dSub, dMul, dMod, dFdiv, dPow, dI2, dI2C, dAdd, dEq, dNe, dLen, dInt, dIx_l, dIx_t, dIx_s, dList, dSum, dCut, atI_zero, atI_one, Option.some.injEq, dTru, dMax2, dMin2, dAddI, dEqS, dIs, dNotIs, dSortDI, obD, id_eq, List.getElem?_cons_zero, List.getElem?_cons_succ, List.set_cons_zero, List.set_cons_succ, List.length_cons, List.length_nil, D.bl.injEq, exists_eq_left', decide_eq_true_eq, decide_eq_false_iff_not, Bool.not_eq_true', Bool.not_eq_false', Nat.zero_add, Nat.reduceAdd, true_and, and_true, forall_const, reduceCtorEq, not_true_eq_false, not_false_eq_true, false_implies, true_implies, implies_true, sz_line, Nat.reduceLeDiff, Int.reduceLE, Int.reduceLT, Int.reduceNeg, Int.reducePow, Int.reduceAdd, Int.reduceSub, Int.reduceMul]
    exact step d hd Kt (ht _ rfl)
  · intro ys hy
    have e := Outs.map (g := fun _ => D.non) hy
    rw [e, List.nil_append, List.map_const', hl]
    exact q

def w_first_careers_t1 : WS := (wApp 2 (wVar 4))
def w_first_careers_t2 : WS := (wIf (wTst (wOp dIs (wOp dIx (wPk 1) (wPk 4)) (wC .non)))
 (wSeq (wLSet 1 (wVar 4) (wOp dAdd (wOp dIx (wPk 1) (wPk 3)) (wFz (wfLst (waCons (wVar 5) waNil)))))
 w_first_careers_t1)
 wNext)
def w_first_careers_t3 : WS := (wFor (wItL (wFld "Machine" "facts" (wPk 0))) (wSt 5)
 (wSeq (wAsg (wOp dIx (wOp dIx (wFld "Machine" "step" (wPk 0)) (wPk 3)) (wPk 5)) (wSt 4))
 w_first_careers_t2))
def w_first_careers_t4 : WS := (wRet (wVar 1))
def w_first_careers_t5 : WS := (wSeq (wWhile (wTru (wPk 2))
 (wSeq (wAsg (wPop0 2) (wSt 3))
 w_first_careers_t3))
 w_first_careers_t4)
def w_first_careers_t6 : WS := (wSeq (wAsgO (wfLst (waCons (wC (.int 0)) waNil)) 2)
 w_first_careers_t5)
def w_first_careers_t7 : WS := (wSeq (wLSet 1 (wC (.int 0)) (wFz (wfLst waNil)))
 w_first_careers_t6)
def w_first_careers : WS := (wSeq (wAsgO (wLc [3] (wRg1 (waCons (wMeth "Machine" "many" wf_Machine_many (wVar 0) asNil) waNil)) (wSt 3) wYes (wC .non)) 1)
 w_first_careers_t7)

theorem p_first_careers : ∀ as Qd, wf_first_careers as Qd → w_first_careers (startD ["machine", "found", "waiting", "state", "after", "fact"] as) { nx := fun _ => Qd .non, rt := fun d _ => Qd d } := fun as Qd h => by
  unfold wf_first_careers at h
  split at h
  · obtain ⟨m, rfl, okm, q⟩ := h
    have n8 := okm.n8
    have n1 := okm.n1
    show w_first_careers [.sh m.dd, .no, .no, .no, .no, .no] _
    simp only [w_first_careers, ↓wSeq_e, ↓wNext_e, ↓wBreak_e, ↓wCont_e, ↓wRet_e, ↓wRetN_e, ↓wDrop_e, ↓wIf_e, ↓wAnd_e, ↓wOr_e, ↓wNot_e, ↓wTst_e, ↓wAndV_e, ↓wOrV_e, ↓wNotV_e, ↓wIfE_e, ↓wChain_e, ↓wVar_e, ↓wPk_e, ↓wC_e, ↓wOp_e, ↓wUn_e, ↓wM1_e, ↓wTup_e, ↓wfLst_e, ↓wFz_e, ↓waNil_e, ↓waCons_e, ↓asNil_e, ↓asCons_e, ↓asBox_e, ↓wCall_e, ↓wAsg_e, ↓wSt_e, ↓wAsgO_e, ↓wTp_e, ↓wTpL_e, ↓wPar_e, ↓wStL_nil, ↓wStL_cons, ↓wFor_e, ↓wRg1_e, ↓wRg2_e, ↓wItL_e, ↓wItT_e, ↓wItS_e, ↓wApp_e, ↓woNone_e, ↓woSome_e, ↓wCut_e, ↓wBx1_e, ↓wBx0_e, ↓wBxPut_e, ↓wDraw_e, ↓wLSet_e, ↓wNever_e, ↓wFld_e, ↓wMeth_e, ↓wMake_e, ↓wFldN_e, ↓wZip_e, ↓wPut_e, ↓wfList_e, ↓wfDict_e, ↓wfDisp1_e, ↓wPop0_e, ↓wOFld_e, ↓wOFldS_e, ↓wOApp_e, ↓wOPut_e, ↓wFldNO_e, ↓wMethO_e, ↓wGet1_e, ↓wfCut_e, ↓wfDk_e, ↓wfDt_e, ↓wCopy_e, ↓wRowPk_e, ↓wPutRow_e, ↓wTru_e, ↓wLc_e, ↓wYes_e, ↓wAug_e, dLt, dLe, dGt, dGe, dSub, dMul, dMod, dFdiv, dPow, dI2, dI2C, dAdd, dEq, dNe, dLen, dInt, dIx_l, dIx_t, dIx_s, dList, dSum, dCut, atI_zero, atI_one, Option.some.injEq, dTru, dMax2, dMin2, dAddI, dEqS, dIs, dNotIs, dSortDI, obD, id_eq, List.getElem?_cons_zero, List.getElem?_cons_succ, List.set_cons_zero, List.set_cons_succ, List.length_cons, List.length_nil, D.bl.injEq, exists_eq_left', decide_eq_true_eq, decide_eq_false_iff_not, Bool.not_eq_true', Bool.not_eq_false', Nat.zero_add, Nat.reduceAdd, true_and, and_true, forall_const, reduceCtorEq, not_true_eq_false, not_false_eq_true, false_implies, true_implies, implies_true, sz_line, Nat.reduceLeDiff, Int.reduceLE, Int.reduceLT, Int.reduceNeg, Int.reducePow, Int.reduceAdd, Int.reduceSub, Int.reduceMul, wf_Machine_many]
    refine ⟨⟨rfl, nin_many⟩, m, rfl, ?_⟩
    refine ⟨by omega, by rw [rangeD_length]; omega, rfl, ?_⟩
    refine nons_lc (n := m.leave.length) (ρ := [_, _, _, _, _, _]) (by rw [rangeD_length]; omega) (fun d hd Kt ht => ?_) ?_
    · simp only [↓wSeq_e, ↓wNext_e, ↓wBreak_e, ↓wCont_e, ↓wRet_e, ↓wRetN_e, ↓wDrop_e, ↓wIf_e, ↓wAnd_e, ↓wOr_e, ↓wNot_e, ↓wTst_e, ↓wAndV_e, ↓wOrV_e, ↓wNotV_e, ↓wIfE_e, ↓wChain_e, ↓wVar_e, ↓wPk_e, ↓wC_e, ↓wOp_e, ↓wUn_e, ↓wM1_e, ↓wTup_e, ↓wfLst_e, ↓wFz_e, ↓waNil_e, ↓waCons_e, ↓asNil_e, ↓asCons_e, ↓asBox_e, ↓wCall_e, ↓wAsg_e, ↓wSt_e, ↓wAsgO_e, ↓wTp_e, ↓wTpL_e, ↓wPar_e, ↓wStL_nil, ↓wStL_cons, ↓wFor_e, ↓wRg1_e, ↓wRg2_e, ↓wItL_e, ↓wItT_e, ↓wItS_e, ↓wApp_e, ↓woNone_e, ↓woSome_e, ↓wCut_e, ↓wBx1_e, ↓wBx0_e, ↓wBxPut_e, ↓wDraw_e, ↓wLSet_e, ↓wNever_e, ↓wFld_e, ↓wMeth_e, ↓wMake_e, ↓wFldN_e, ↓wZip_e, ↓wPut_e, ↓wfList_e, ↓wfDict_e, ↓wfDisp1_e, ↓wPop0_e, ↓wOFld_e, ↓wOFldS_e, ↓wOApp_e, ↓wOPut_e, ↓wFldNO_e, ↓wMethO_e, ↓wGet1_e, ↓wfCut_e, ↓wfDk_e, ↓wfDt_e, ↓wCopy_e, ↓wRowPk_e, ↓wPutRow_e, ↓wTru_e, ↓wLc_e, ↓wYes_e, ↓wAug_e, dLt, dLe, dGt, dGe, dSub, dMul, dMod, dFdiv, dPow, dI2, dI2C, dAdd, dEq, dNe, dLen, dInt, dIx_l, dIx_t, dIx_s, dList, dSum, dCut, atI_zero, atI_one, Option.some.injEq, dTru, dMax2, dMin2, dAddI, dEqS, dIs, dNotIs, dSortDI, obD, id_eq, List.getElem?_cons_zero, List.getElem?_cons_succ, List.set_cons_zero, List.set_cons_succ, List.length_cons, List.length_nil, D.bl.injEq, exists_eq_left', decide_eq_true_eq, decide_eq_false_iff_not, Bool.not_eq_true', Bool.not_eq_false', Nat.zero_add, Nat.reduceAdd, true_and, and_true, forall_const, reduceCtorEq, not_true_eq_false, not_false_eq_true, false_implies, true_implies, implies_true, sz_line, Nat.reduceLeDiff, Int.reduceLE, Int.reduceLT, Int.reduceNeg, Int.reducePow, Int.reduceAdd, Int.reduceSub, Int.reduceMul, wipeD, List.reverse_cons, List.reverse_nil, List.nil_append, noOwnB, List.all_cons, List.all_nil, Bool.and_true, Bool.true_and]
      exact ht
    · simp only [w_first_careers_t7, w_first_careers_t6, ↓wSeq_e, ↓wNext_e, ↓wBreak_e, ↓wCont_e, ↓wRet_e, ↓wRetN_e, ↓wDrop_e, ↓wIf_e, ↓wAnd_e, ↓wOr_e, ↓wNot_e, ↓wTst_e, ↓wAndV_e, ↓wOrV_e, ↓wNotV_e, ↓wIfE_e, ↓wChain_e, ↓wVar_e, ↓wPk_e, ↓wC_e, ↓wOp_e, ↓wUn_e, ↓wM1_e, ↓wTup_e, ↓wfLst_e, ↓wFz_e, ↓waNil_e, ↓waCons_e, ↓asNil_e, ↓asCons_e, ↓asBox_e, ↓wCall_e, ↓wAsg_e, ↓wSt_e, ↓wAsgO_e, ↓wTp_e, ↓wTpL_e, ↓wPar_e, ↓wStL_nil, ↓wStL_cons, ↓wFor_e, ↓wRg1_e, ↓wRg2_e, ↓wItL_e, ↓wItT_e, ↓wItS_e, ↓wApp_e, ↓woNone_e, ↓woSome_e, ↓wCut_e, ↓wBx1_e, ↓wBx0_e, ↓wBxPut_e, ↓wDraw_e, ↓wLSet_e, ↓wNever_e, ↓wFld_e, ↓wMeth_e, ↓wMake_e, ↓wFldN_e, ↓wZip_e, ↓wPut_e, ↓wfList_e, ↓wfDict_e, ↓wfDisp1_e, ↓wPop0_e, ↓wOFld_e, ↓wOFldS_e, ↓wOApp_e, ↓wOPut_e, ↓wFldNO_e, ↓wMethO_e, ↓wGet1_e, ↓wfCut_e, ↓wfDk_e, ↓wfDt_e, ↓wCopy_e, ↓wRowPk_e, ↓wPutRow_e, ↓wTru_e, ↓wLc_e, ↓wYes_e, ↓wAug_e, dLt, dLe, dGt, dGe, dSub, dMul, dMod, dFdiv, dPow, dI2, dI2C, dAdd, dEq, dNe, dLen, dInt, dIx_l, dIx_t, dIx_s, dList, dSum, dCut, atI_zero, atI_one, Option.some.injEq, dTru, dMax2, dMin2, dAddI, dEqS, dIs, dNotIs, dSortDI, obD, id_eq, List.getElem?_cons_zero, List.getElem?_cons_succ, List.set_cons_zero, List.set_cons_succ, List.length_cons, List.length_nil, D.bl.injEq, exists_eq_left', decide_eq_true_eq, decide_eq_false_iff_not, Bool.not_eq_true', Bool.not_eq_false', Nat.zero_add, Nat.reduceAdd, true_and, and_true, forall_const, reduceCtorEq, not_true_eq_false, not_false_eq_true, false_implies, true_implies, implies_true, sz_line, Nat.reduceLeDiff, Int.reduceLE, Int.reduceLT, Int.reduceNeg, Int.reducePow, Int.reduceAdd, Int.reduceSub, Int.reduceMul, wipeD, List.reverse_cons, List.reverse_nil, List.nil_append, noOwnB, List.all_cons, List.all_nil, Bool.and_true, Bool.true_and, List.length_replicate]
      refine ⟨⟨_, rfl⟩, _, _, rfl, rfl, by decide, by rw [List.length_replicate]; omega, ?_⟩
      have e0 : (List.replicate m.leave.length D.non).set (Int.toNat 0) (.lst []) = foundV m.leave.length [(0, [])] := by
        rw [← foundV_zero]
        exact foundV_set (acc := []) (a := 0) (w := []) (by decide) (by simp)
      rw [e0]
      simp only [w_first_careers_t5, ↓wSeq_e, ↓wNext_e, ↓wBreak_e, ↓wCont_e, ↓wRet_e, ↓wRetN_e, ↓wDrop_e, ↓wIf_e, ↓wAnd_e, ↓wOr_e, ↓wNot_e, ↓wTst_e, ↓wAndV_e, ↓wOrV_e, ↓wNotV_e, ↓wIfE_e, ↓wChain_e, ↓wVar_e, ↓wPk_e, ↓wC_e, ↓wOp_e, ↓wUn_e, ↓wM1_e, ↓wTup_e, ↓wfLst_e, ↓wFz_e, ↓waNil_e, ↓waCons_e, ↓asNil_e, ↓asCons_e, ↓asBox_e, ↓wCall_e, ↓wAsg_e, ↓wSt_e, ↓wAsgO_e, ↓wTp_e, ↓wTpL_e, ↓wPar_e, ↓wStL_nil, ↓wStL_cons, ↓wFor_e, ↓wRg1_e, ↓wRg2_e, ↓wItL_e, ↓wItT_e, ↓wItS_e, ↓wApp_e, ↓woNone_e, ↓woSome_e, ↓wCut_e, ↓wBx1_e, ↓wBx0_e, ↓wBxPut_e, ↓wDraw_e, ↓wLSet_e, ↓wNever_e, ↓wFld_e, ↓wMeth_e, ↓wMake_e, ↓wFldN_e, ↓wZip_e, ↓wPut_e, ↓wfList_e, ↓wfDict_e, ↓wfDisp1_e, ↓wPop0_e, ↓wOFld_e, ↓wOFldS_e, ↓wOApp_e, ↓wOPut_e, ↓wFldNO_e, ↓wMethO_e, ↓wGet1_e, ↓wfCut_e, ↓wfDk_e, ↓wfDt_e, ↓wCopy_e, ↓wRowPk_e, ↓wPutRow_e, ↓wTru_e, ↓wLc_e, ↓wYes_e, ↓wAug_e, dLt, dLe, dGt, dGe, dSub, dMul, dMod, dFdiv, dPow, dI2, dI2C, dAdd, dEq, dNe, dLen, dInt, dIx_l, dIx_t, dIx_s, dList, dSum, dCut, atI_zero, atI_one, Option.some.injEq, dTru, dMax2, dMin2, dAddI, dEqS, dIs, dNotIs, dSortDI, obD, id_eq, List.getElem?_cons_zero, List.getElem?_cons_succ, List.set_cons_zero, List.set_cons_succ, List.length_cons, List.length_nil, D.bl.injEq, exists_eq_left', decide_eq_true_eq, decide_eq_false_iff_not, Bool.not_eq_true', Bool.not_eq_false', Nat.zero_add, Nat.reduceAdd, true_and, and_true, forall_const, reduceCtorEq, not_true_eq_false, not_false_eq_true, false_implies, true_implies, implies_true, sz_line, Nat.reduceLeDiff, Int.reduceLE, Int.reduceLT, Int.reduceNeg, Int.reducePow, Int.reduceAdd, Int.reduceSub, Int.reduceMul]
      refine wWhile_rule (fun n ρ => ∃ (acc : List CE) (k : Nat) (s3 s4 s5 : Sl), n = 9 - k ∧ k ≤ acc.length ∧ CInv m acc ∧ closeC m (9 - k) acc k = comeL m ∧ ρ = [.sh m.dd, .ol (foundV m.leave.length acc), .ol (wtC acc k), s3, s4, s5]) 9 ⟨[(0, [])], 0, _, _, _, rfl, by simp, CInv.start okm, rfl, rfl⟩ ?_
      rintro n ρ ⟨acc, k, s3, s4, s5, rfl, hk, inv, hcl, rfl⟩
      have l8 := inv.len okm
      have e9 : 9 - k = (9 - (k + 1)) + 1 := by omega
      simp only [↓wSeq_e, ↓wNext_e, ↓wBreak_e, ↓wCont_e, ↓wRet_e, ↓wRetN_e, ↓wDrop_e, ↓wIf_e, ↓wAnd_e, ↓wOr_e, ↓wNot_e, ↓wTst_e, ↓wAndV_e, ↓wOrV_e, ↓wNotV_e, ↓wIfE_e, ↓wChain_e, ↓wVar_e, ↓wPk_e, ↓wC_e, ↓wOp_e, ↓wUn_e, ↓wM1_e, ↓wTup_e, ↓wfLst_e, ↓wFz_e, ↓waNil_e, ↓waCons_e, ↓asNil_e, ↓asCons_e, ↓asBox_e, ↓wCall_e, ↓wAsg_e, ↓wSt_e, ↓wAsgO_e, ↓wTp_e, ↓wTpL_e, ↓wPar_e, ↓wStL_nil, ↓wStL_cons, ↓wFor_e, ↓wRg1_e, ↓wRg2_e, ↓wItL_e, ↓wItT_e, ↓wItS_e, ↓wApp_e, ↓woNone_e, ↓woSome_e, ↓wCut_e, ↓wBx1_e, ↓wBx0_e, ↓wBxPut_e, ↓wDraw_e, ↓wLSet_e, ↓wNever_e, ↓wFld_e, ↓wMeth_e, ↓wMake_e, ↓wFldN_e, ↓wZip_e, ↓wPut_e, ↓wfList_e, ↓wfDict_e, ↓wfDisp1_e, ↓wPop0_e, ↓wOFld_e, ↓wOFldS_e, ↓wOApp_e, ↓wOPut_e, ↓wFldNO_e, ↓wMethO_e, ↓wGet1_e, ↓wfCut_e, ↓wfDk_e, ↓wfDt_e, ↓wCopy_e, ↓wRowPk_e, ↓wPutRow_e, ↓wTru_e, ↓wLc_e, ↓wYes_e, ↓wAug_e, dLt, dLe, dGt, dGe, dSub, dMul, dMod, dFdiv, dPow, dI2, dI2C, dAdd, dEq, dNe, dLen, dInt, dIx_l, dIx_t, dIx_s, dList, dSum, dCut, atI_zero, atI_one, Option.some.injEq, dTru, dMax2, dMin2, dAddI, dEqS, dIs, dNotIs, dSortDI, obD, id_eq, List.getElem?_cons_zero, List.getElem?_cons_succ, List.set_cons_zero, List.set_cons_succ, List.length_cons, List.length_nil, D.bl.injEq, exists_eq_left', decide_eq_true_eq, decide_eq_false_iff_not, Bool.not_eq_true', Bool.not_eq_false', Nat.zero_add, Nat.reduceAdd, true_and, and_true, forall_const, reduceCtorEq, not_true_eq_false, not_false_eq_true, false_implies, true_implies, implies_true, sz_line, Nat.reduceLeDiff, Int.reduceLE, Int.reduceLT, Int.reduceNeg, Int.reducePow, Int.reduceAdd, Int.reduceSub, Int.reduceMul]
      cases ek : acc[k]? with
      | none =>
        rw [wtC_nil ek]
        simp only [w_first_careers_t4, ↓wSeq_e, ↓wNext_e, ↓wBreak_e, ↓wCont_e, ↓wRet_e, ↓wRetN_e, ↓wDrop_e, ↓wIf_e, ↓wAnd_e, ↓wOr_e, ↓wNot_e, ↓wTst_e, ↓wAndV_e, ↓wOrV_e, ↓wNotV_e, ↓wIfE_e, ↓wChain_e, ↓wVar_e, ↓wPk_e, ↓wC_e, ↓wOp_e, ↓wUn_e, ↓wM1_e, ↓wTup_e, ↓wfLst_e, ↓wFz_e, ↓waNil_e, ↓waCons_e, ↓asNil_e, ↓asCons_e, ↓asBox_e, ↓wCall_e, ↓wAsg_e, ↓wSt_e, ↓wAsgO_e, ↓wTp_e, ↓wTpL_e, ↓wPar_e, ↓wStL_nil, ↓wStL_cons, ↓wFor_e, ↓wRg1_e, ↓wRg2_e, ↓wItL_e, ↓wItT_e, ↓wItS_e, ↓wApp_e, ↓woNone_e, ↓woSome_e, ↓wCut_e, ↓wBx1_e, ↓wBx0_e, ↓wBxPut_e, ↓wDraw_e, ↓wLSet_e, ↓wNever_e, ↓wFld_e, ↓wMeth_e, ↓wMake_e, ↓wFldN_e, ↓wZip_e, ↓wPut_e, ↓wfList_e, ↓wfDict_e, ↓wfDisp1_e, ↓wPop0_e, ↓wOFld_e, ↓wOFldS_e, ↓wOApp_e, ↓wOPut_e, ↓wFldNO_e, ↓wMethO_e, ↓wGet1_e, ↓wfCut_e, ↓wfDk_e, ↓wfDt_e, ↓wCopy_e, ↓wRowPk_e, ↓wPutRow_e, ↓wTru_e, ↓wLc_e, ↓wYes_e, ↓wAug_e, dLt, dLe, dGt, dGe, dSub, dMul, dMod, dFdiv, dPow, dI2, dI2C, dAdd, dEq, dNe, dLen, dInt, dIx_l, dIx_t, dIx_s, dList, dSum, dCut, atI_zero, atI_one, Option.some.injEq, dTru, dMax2, dMin2, dAddI, dEqS, dIs, dNotIs, dSortDI, obD, id_eq, List.getElem?_cons_zero, List.getElem?_cons_succ, List.set_cons_zero, List.set_cons_succ, List.length_cons, List.length_nil, D.bl.injEq, exists_eq_left', decide_eq_true_eq, decide_eq_false_iff_not, Bool.not_eq_true', Bool.not_eq_false', Nat.zero_add, Nat.reduceAdd, true_and, and_true, forall_const, reduceCtorEq, not_true_eq_false, not_false_eq_true, false_implies, true_implies, implies_true, sz_line, Nat.reduceLeDiff, Int.reduceLE, Int.reduceLT, Int.reduceNeg, Int.reducePow, Int.reduceAdd, Int.reduceSub, Int.reduceMul, List.isEmpty, Bool.not_true]
        have hp : acc = comeL m := by
          rw [← hcl, e9]
          show acc = (match acc[k]? with
            | some p => closeC m (9 - (k + 1)) (expC m acc p m.facts) (k + 1)
            | none => acc)
          rw [ek]
        rw [hp]
        exact q
      | some p =>
        rw [wtC_cons ek]
        have hpm : p ∈ acc := List.mem_of_getElem? ek
        have rp := inv.rg p hpm
        simp only [w_first_careers_t3, Mach.dd, Cary.dd, lk_facts, lk_step, lk_gain, lk_leave, lk_to, lk_cost, ↓wSeq_e, ↓wNext_e, ↓wBreak_e, ↓wCont_e, ↓wRet_e, ↓wRetN_e, ↓wDrop_e, ↓wIf_e, ↓wAnd_e, ↓wOr_e, ↓wNot_e, ↓wTst_e, ↓wAndV_e, ↓wOrV_e, ↓wNotV_e, ↓wIfE_e, ↓wChain_e, ↓wVar_e, ↓wPk_e, ↓wC_e, ↓wOp_e, ↓wUn_e, ↓wM1_e, ↓wTup_e, ↓wfLst_e, ↓wFz_e, ↓waNil_e, ↓waCons_e, ↓asNil_e, ↓asCons_e, ↓asBox_e, ↓wCall_e, ↓wAsg_e, ↓wSt_e, ↓wAsgO_e, ↓wTp_e, ↓wTpL_e, ↓wPar_e, ↓wStL_nil, ↓wStL_cons, ↓wFor_e, ↓wRg1_e, ↓wRg2_e, ↓wItL_e, ↓wItT_e, ↓wItS_e, ↓wApp_e, ↓woNone_e, ↓woSome_e, ↓wCut_e, ↓wBx1_e, ↓wBx0_e, ↓wBxPut_e, ↓wDraw_e, ↓wLSet_e, ↓wNever_e, ↓wFld_e, ↓wMeth_e, ↓wMake_e, ↓wFldN_e, ↓wZip_e, ↓wPut_e, ↓wfList_e, ↓wfDict_e, ↓wfDisp1_e, ↓wPop0_e, ↓wOFld_e, ↓wOFldS_e, ↓wOApp_e, ↓wOPut_e, ↓wFldNO_e, ↓wMethO_e, ↓wGet1_e, ↓wfCut_e, ↓wfDk_e, ↓wfDt_e, ↓wCopy_e, ↓wRowPk_e, ↓wPutRow_e, ↓wTru_e, ↓wLc_e, ↓wYes_e, ↓wAug_e, dLt, dLe, dGt, dGe, dSub, dMul, dMod, dFdiv, dPow, dI2, dI2C, dAdd, dEq, dNe, dLen, dInt, dIx_l, dIx_t, dIx_s, dList, dSum, dCut, atI_zero, atI_one, Option.some.injEq, dTru, dMax2, dMin2, dAddI, dEqS, dIs, dNotIs, dSortDI, obD, id_eq, List.getElem?_cons_zero, List.getElem?_cons_succ, List.set_cons_zero, List.set_cons_succ, List.length_cons, List.length_nil, D.bl.injEq, exists_eq_left', decide_eq_true_eq, decide_eq_false_iff_not, Bool.not_eq_true', Bool.not_eq_false', Nat.zero_add, Nat.reduceAdd, true_and, and_true, forall_const, reduceCtorEq, not_true_eq_false, not_false_eq_true, false_implies, true_implies, implies_true, sz_line, Nat.reduceLeDiff, Int.reduceLE, Int.reduceLT, Int.reduceNeg, Int.reducePow, Int.reduceAdd, Int.reduceSub, Int.reduceMul, List.isEmpty, Bool.not_false]
        have hk1 : k < acc.length := (List.getElem?_eq_some_iff.mp ek).1
        have invE : ∀ dn : List Str, (∀ g ∈ dn, g ∈ m.facts) → CInv m (expC m acc p dn) := fun dn hd => inv.exp okm dn hd hpm
        refine for_pre (fun dn ρ => ∃ s4 s5, ρ = [.sh (.ins "Machine" machF m.ds), .ol (foundV m.leave.length (expC m acc p dn)), .ol (wtC (expC m acc p dn) (k + 1)), .sh (.int p.1), s4, s5]) ?_ ?_ _ ⟨_, _, rfl⟩
        · rintro dn f rest e ρ ⟨s4, s5, rfl⟩ C hC
          have hf : f ∈ m.facts := by rw [e]; simp
          have invd := invE dn (fun g hg => by rw [e]; simp [hg])
          obtain ⟨more, em⟩ := expC_ext m p dn acc
          have hpd : p ∈ expC m acc p dn := by rw [em]; exact List.mem_append_left _ hpm
          have ld := invd.len okm
          have st := Mach.stp_in okm (s := p.1.toNat) (by omega) hf
          simp only [Mach.dd, Cary.dd, lk_facts, lk_step, lk_gain, lk_leave, lk_to, lk_cost, ↓wSeq_e, ↓wNext_e, ↓wBreak_e, ↓wCont_e, ↓wRet_e, ↓wRetN_e, ↓wDrop_e, ↓wIf_e, ↓wAnd_e, ↓wOr_e, ↓wNot_e, ↓wTst_e, ↓wAndV_e, ↓wOrV_e, ↓wNotV_e, ↓wIfE_e, ↓wChain_e, ↓wVar_e, ↓wPk_e, ↓wC_e, ↓wOp_e, ↓wUn_e, ↓wM1_e, ↓wTup_e, ↓wfLst_e, ↓wFz_e, ↓waNil_e, ↓waCons_e, ↓asNil_e, ↓asCons_e, ↓asBox_e, ↓wCall_e, ↓wAsg_e, ↓wSt_e, ↓wAsgO_e, ↓wTp_e, ↓wTpL_e, ↓wPar_e, ↓wStL_nil, ↓wStL_cons, ↓wFor_e, ↓wRg1_e, ↓wRg2_e, ↓wItL_e, ↓wItT_e, ↓wItS_e, ↓wApp_e, ↓woNone_e, ↓woSome_e, ↓wCut_e, ↓wBx1_e, ↓wBx0_e, ↓wBxPut_e, ↓wDraw_e, ↓wLSet_e, ↓wNever_e, ↓wFld_e, ↓wMeth_e, ↓wMake_e, ↓wFldN_e, ↓wZip_e, ↓wPut_e, ↓wfList_e, ↓wfDict_e, ↓wfDisp1_e, ↓wPop0_e, ↓wOFld_e, ↓wOFldS_e, ↓wOApp_e, ↓wOPut_e, ↓wFldNO_e, ↓wMethO_e, ↓wGet1_e, ↓wfCut_e, ↓wfDk_e, ↓wfDt_e, ↓wCopy_e, ↓wRowPk_e, ↓wPutRow_e, ↓wTru_e, ↓wLc_e, ↓wYes_e, ↓wAug_e, dLt, dLe, dGt, dGe, dSub, dMul, dMod, dFdiv, dPow, dI2, dI2C, dAdd, dEq, dNe, dLen, dInt, dIx_l, dIx_t, dIx_s, dList, dSum, dCut, atI_zero, atI_one, Option.some.injEq, dTru, dMax2, dMin2, dAddI, dEqS, dIs, dNotIs, dSortDI, obD, id_eq, List.getElem?_cons_zero, List.getElem?_cons_succ, List.set_cons_zero, List.set_cons_succ, List.length_cons, List.length_nil, D.bl.injEq, exists_eq_left', decide_eq_true_eq, decide_eq_false_iff_not, Bool.not_eq_true', Bool.not_eq_false', Nat.zero_add, Nat.reduceAdd, true_and, and_true, forall_const, reduceCtorEq, not_true_eq_false, not_false_eq_true, false_implies, true_implies, implies_true, sz_line, Nat.reduceLeDiff, Int.reduceLE, Int.reduceLT, Int.reduceNeg, Int.reducePow, Int.reduceAdd, Int.reduceSub, Int.reduceMul]
          refine ⟨_, Mach.at_step okm rp.1 rp.2, Mach.ix_step okm (by omega) hf ?_⟩
          simp only [w_first_careers_t2, Mach.dd, Cary.dd, lk_facts, lk_step, lk_gain, lk_leave, lk_to, lk_cost, ↓wSeq_e, ↓wNext_e, ↓wBreak_e, ↓wCont_e, ↓wRet_e, ↓wRetN_e, ↓wDrop_e, ↓wIf_e, ↓wAnd_e, ↓wOr_e, ↓wNot_e, ↓wTst_e, ↓wAndV_e, ↓wOrV_e, ↓wNotV_e, ↓wIfE_e, ↓wChain_e, ↓wVar_e, ↓wPk_e, ↓wC_e, ↓wOp_e, ↓wUn_e, ↓wM1_e, ↓wTup_e, ↓wfLst_e, ↓wFz_e, ↓waNil_e, ↓waCons_e, ↓asNil_e, ↓asCons_e, ↓asBox_e, ↓wCall_e, ↓wAsg_e, ↓wSt_e, ↓wAsgO_e, ↓wTp_e, ↓wTpL_e, ↓wPar_e, ↓wStL_nil, ↓wStL_cons, ↓wFor_e, ↓wRg1_e, ↓wRg2_e, ↓wItL_e, ↓wItT_e, ↓wItS_e, ↓wApp_e, ↓woNone_e, ↓woSome_e, ↓wCut_e, ↓wBx1_e, ↓wBx0_e, ↓wBxPut_e, ↓wDraw_e, ↓wLSet_e, ↓wNever_e, ↓wFld_e, ↓wMeth_e, ↓wMake_e, ↓wFldN_e, ↓wZip_e, ↓wPut_e, ↓wfList_e, ↓wfDict_e, ↓wfDisp1_e, ↓wPop0_e, ↓wOFld_e, ↓wOFldS_e, ↓wOApp_e, ↓wOPut_e, ↓wFldNO_e, ↓wMethO_e, ↓wGet1_e, ↓wfCut_e, ↓wfDk_e, ↓wfDt_e, ↓wCopy_e, ↓wRowPk_e, ↓wPutRow_e, ↓wTru_e, ↓wLc_e, ↓wYes_e, ↓wAug_e, dLt, dLe, dGt, dGe, dSub, dMul, dMod, dFdiv, dPow, dI2, dI2C, dAdd, dEq, dNe, dLen, dInt, dIx_l, dIx_t, dIx_s, dList, dSum, dCut, atI_zero, atI_one, Option.some.injEq, dTru, dMax2, dMin2, dAddI, dEqS, dIs, dNotIs, dSortDI, obD, id_eq, List.getElem?_cons_zero, List.getElem?_cons_succ, List.set_cons_zero, List.set_cons_succ, List.length_cons, List.length_nil, D.bl.injEq, exists_eq_left', decide_eq_true_eq, decide_eq_false_iff_not, Bool.not_eq_true', Bool.not_eq_false', Nat.zero_add, Nat.reduceAdd, true_and, and_true, forall_const, reduceCtorEq, not_true_eq_false, not_false_eq_true, false_implies, true_implies, implies_true, sz_line, Nat.reduceLeDiff, Int.reduceLE, Int.reduceLT, Int.reduceNeg, Int.reducePow, Int.reduceAdd, Int.reduceSub, Int.reduceMul]
          refine ⟨_, foundV_at st.1 st.2, ?_⟩
          have es : expC m acc p (dn ++ [f]) = stepC m (expC m acc p dn) p f := expC_snoc ..
          by_cases hm : m.stp p.1.toNat f ∈ (expC m acc p dn).map (·.1)
          · have e2 : stepC m (expC m acc p dn) p f = expC m acc p dn := if_pos hm
            obtain ⟨⟨a, w⟩, ha, ea⟩ := List.mem_map.mp hm
            have ea : a = _ := ea
            subst ea
            rw [atC_mem invd.nd ha]
            simp only [wordD, ↓wSeq_e, ↓wNext_e, ↓wBreak_e, ↓wCont_e, ↓wRet_e, ↓wRetN_e, ↓wDrop_e, ↓wIf_e, ↓wAnd_e, ↓wOr_e, ↓wNot_e, ↓wTst_e, ↓wAndV_e, ↓wOrV_e, ↓wNotV_e, ↓wIfE_e, ↓wChain_e, ↓wVar_e, ↓wPk_e, ↓wC_e, ↓wOp_e, ↓wUn_e, ↓wM1_e, ↓wTup_e, ↓wfLst_e, ↓wFz_e, ↓waNil_e, ↓waCons_e, ↓asNil_e, ↓asCons_e, ↓asBox_e, ↓wCall_e, ↓wAsg_e, ↓wSt_e, ↓wAsgO_e, ↓wTp_e, ↓wTpL_e, ↓wPar_e, ↓wStL_nil, ↓wStL_cons, ↓wFor_e, ↓wRg1_e, ↓wRg2_e, ↓wItL_e, ↓wItT_e, ↓wItS_e, ↓wApp_e, ↓woNone_e, ↓woSome_e, ↓wCut_e, ↓wBx1_e, ↓wBx0_e, ↓wBxPut_e, ↓wDraw_e, ↓wLSet_e, ↓wNever_e, ↓wFld_e, ↓wMeth_e, ↓wMake_e, ↓wFldN_e, ↓wZip_e, ↓wPut_e, ↓wfList_e, ↓wfDict_e, ↓wfDisp1_e, ↓wPop0_e, ↓wOFld_e, ↓wOFldS_e, ↓wOApp_e, ↓wOPut_e, ↓wFldNO_e, ↓wMethO_e, ↓wGet1_e, ↓wfCut_e, ↓wfDk_e, ↓wfDt_e, ↓wCopy_e, ↓wRowPk_e, ↓wPutRow_e, ↓wTru_e, ↓wLc_e, ↓wYes_e, ↓wAug_e, dLt, dLe, dGt, dGe, dSub, dMul, dMod, dFdiv, dPow, dI2, dI2C, dAdd, dEq, dNe, dLen, dInt, dIx_l, dIx_t, dIx_s, dList, dSum, dCut, atI_zero, atI_one, Option.some.injEq, dTru, dMax2, dMin2, dAddI, dEqS, dIs, dNotIs, dSortDI, obD, id_eq, List.getElem?_cons_zero, List.getElem?_cons_succ, List.set_cons_zero, List.set_cons_succ, List.length_cons, List.length_nil, D.bl.injEq, exists_eq_left', decide_eq_true_eq, decide_eq_false_iff_not, Bool.not_eq_true', Bool.not_eq_false', Nat.zero_add, Nat.reduceAdd, true_and, and_true, forall_const, reduceCtorEq, not_true_eq_false, not_false_eq_true, false_implies, true_implies, implies_true, sz_line, Nat.reduceLeDiff, Int.reduceLE, Int.reduceLT, Int.reduceNeg, Int.reducePow, Int.reduceAdd, Int.reduceSub, Int.reduceMul, dIsB]
            refine hC _ ⟨.sh (.int (m.stp p.1.toNat f)), .sh (.str f), ?_⟩
            rw [es, e2]
          · have e2 : stepC m (expC m acc p dn) p f = expC m acc p dn ++ [(m.stp p.1.toNat f, p.2 ++ [f])] := if_neg hm
            rw [atC_none hm]
            simp only [↓wSeq_e, ↓wNext_e, ↓wBreak_e, ↓wCont_e, ↓wRet_e, ↓wRetN_e, ↓wDrop_e, ↓wIf_e, ↓wAnd_e, ↓wOr_e, ↓wNot_e, ↓wTst_e, ↓wAndV_e, ↓wOrV_e, ↓wNotV_e, ↓wIfE_e, ↓wChain_e, ↓wVar_e, ↓wPk_e, ↓wC_e, ↓wOp_e, ↓wUn_e, ↓wM1_e, ↓wTup_e, ↓wfLst_e, ↓wFz_e, ↓waNil_e, ↓waCons_e, ↓asNil_e, ↓asCons_e, ↓asBox_e, ↓wCall_e, ↓wAsg_e, ↓wSt_e, ↓wAsgO_e, ↓wTp_e, ↓wTpL_e, ↓wPar_e, ↓wStL_nil, ↓wStL_cons, ↓wFor_e, ↓wRg1_e, ↓wRg2_e, ↓wItL_e, ↓wItT_e, ↓wItS_e, ↓wApp_e, ↓woNone_e, ↓woSome_e, ↓wCut_e, ↓wBx1_e, ↓wBx0_e, ↓wBxPut_e, ↓wDraw_e, ↓wLSet_e, ↓wNever_e, ↓wFld_e, ↓wMeth_e, ↓wMake_e, ↓wFldN_e, ↓wZip_e, ↓wPut_e, ↓wfList_e, ↓wfDict_e, ↓wfDisp1_e, ↓wPop0_e, ↓wOFld_e, ↓wOFldS_e, ↓wOApp_e, ↓wOPut_e, ↓wFldNO_e, ↓wMethO_e, ↓wGet1_e, ↓wfCut_e, ↓wfDk_e, ↓wfDt_e, ↓wCopy_e, ↓wRowPk_e, ↓wPutRow_e, ↓wTru_e, ↓wLc_e, ↓wYes_e, ↓wAug_e, dLt, dLe, dGt, dGe, dSub, dMul, dMod, dFdiv, dPow, dI2, dI2C, dAdd, dEq, dNe, dLen, dInt, dIx_l, dIx_t, dIx_s, dList, dSum, dCut, atI_zero, atI_one, Option.some.injEq, dTru, dMax2, dMin2, dAddI, dEqS, dIs, dNotIs, dSortDI, obD, id_eq, List.getElem?_cons_zero, List.getElem?_cons_succ, List.set_cons_zero, List.set_cons_succ, List.length_cons, List.length_nil, D.bl.injEq, exists_eq_left', decide_eq_true_eq, decide_eq_false_iff_not, Bool.not_eq_true', Bool.not_eq_false', Nat.zero_add, Nat.reduceAdd, true_and, and_true, forall_const, reduceCtorEq, not_true_eq_false, not_false_eq_true, false_implies, true_implies, implies_true, sz_line, Nat.reduceLeDiff, Int.reduceLE, Int.reduceLT, Int.reduceNeg, Int.reducePow, Int.reduceAdd, Int.reduceSub, Int.reduceMul, dIsB]
            refine ⟨_, foundV_at rp.1 rp.2, ?_⟩
            rw [atC_mem invd.nd (show (p.1, p.2) ∈ _ from hpd)]
            simp only [w_first_careers_t1, wordD, Mach.dd, Cary.dd, lk_facts, lk_step, lk_gain, lk_leave, lk_to, lk_cost, ↓wSeq_e, ↓wNext_e, ↓wBreak_e, ↓wCont_e, ↓wRet_e, ↓wRetN_e, ↓wDrop_e, ↓wIf_e, ↓wAnd_e, ↓wOr_e, ↓wNot_e, ↓wTst_e, ↓wAndV_e, ↓wOrV_e, ↓wNotV_e, ↓wIfE_e, ↓wChain_e, ↓wVar_e, ↓wPk_e, ↓wC_e, ↓wOp_e, ↓wUn_e, ↓wM1_e, ↓wTup_e, ↓wfLst_e, ↓wFz_e, ↓waNil_e, ↓waCons_e, ↓asNil_e, ↓asCons_e, ↓asBox_e, ↓wCall_e, ↓wAsg_e, ↓wSt_e, ↓wAsgO_e, ↓wTp_e, ↓wTpL_e, ↓wPar_e, ↓wStL_nil, ↓wStL_cons, ↓wFor_e, ↓wRg1_e, ↓wRg2_e, ↓wItL_e, ↓wItT_e, ↓wItS_e, ↓wApp_e, ↓woNone_e, ↓woSome_e, ↓wCut_e, ↓wBx1_e, ↓wBx0_e, ↓wBxPut_e, ↓wDraw_e, ↓wLSet_e, ↓wNever_e, ↓wFld_e, ↓wMeth_e, ↓wMake_e, ↓wFldN_e, ↓wZip_e, ↓wPut_e, ↓wfList_e, ↓wfDict_e, ↓wfDisp1_e, ↓wPop0_e, ↓wOFld_e, ↓wOFldS_e, ↓wOApp_e, ↓wOPut_e, ↓wFldNO_e, ↓wMethO_e, ↓wGet1_e, ↓wfCut_e, ↓wfDk_e, ↓wfDt_e, ↓wCopy_e, ↓wRowPk_e, ↓wPutRow_e, ↓wTru_e, ↓wLc_e, ↓wYes_e, ↓wAug_e, dLt, dLe, dGt, dGe, dSub, dMul, dMod, dFdiv, dPow, dI2, dI2C, dAdd, dEq, dNe, dLen, dInt, dIx_l, dIx_t, dIx_s, dList, dSum, dCut, atI_zero, atI_one, Option.some.injEq, dTru, dMax2, dMin2, dAddI, dEqS, dIs, dNotIs, dSortDI, obD, id_eq, List.getElem?_cons_zero, List.getElem?_cons_succ, List.set_cons_zero, List.set_cons_succ, List.length_cons, List.length_nil, D.bl.injEq, exists_eq_left', decide_eq_true_eq, decide_eq_false_iff_not, Bool.not_eq_true', Bool.not_eq_false', Nat.zero_add, Nat.reduceAdd, true_and, and_true, forall_const, reduceCtorEq, not_true_eq_false, not_false_eq_true, false_implies, true_implies, implies_true, sz_line, Nat.reduceLeDiff, Int.reduceLE, Int.reduceLT, Int.reduceNeg, Int.reducePow, Int.reduceAdd, Int.reduceSub, Int.reduceMul, List.length_map]
            have wl := (invd.ws p hpd).2
            refine ⟨by omega, ⟨_, rfl⟩, _, _, rfl, rfl, st.1, by unfold foundV; rw [List.length_map, List.length_range]; omega, ?_⟩
            refine ⟨by unfold wtC; rw [List.length_map, List.length_drop]; omega, ?_⟩
            have e3 := foundV_set (n := m.leave.length) (w := p.2 ++ [f]) st.1 hm
            unfold wordD at e3
            rw [List.map_append] at e3
            refine hC _ ⟨.sh (.int (m.stp p.1.toNat f)), .sh (.str f), ?_⟩
            rw [es, e2, ← e3, wtC_app (by rw [em, List.length_append]; omega)]
            rfl
        · rintro ρ ⟨s4, s5, rfl⟩
          obtain ⟨more, em⟩ := expC_ext m p m.facts acc
          refine ⟨9 - (k + 1), by omega, expC m acc p m.facts, k + 1, _, _, _, rfl, by rw [em, List.length_append]; omega, invE _ (fun f h => h), ?_, rfl⟩
          rw [← hcl, e9]
          show _ = (match acc[k]? with
            | some p => closeC m (9 - (k + 1)) (expC m acc p m.facts) (k + 1)
            | none => acc)
          rw [ek]
  · exact h.elim
/-! ### left_from -/
def leftL (m : Mach) : List Int := ((List.range m.leave.length).filter fun i : Nat => decide ((i : Int) ∈ (comeL m).map (·.1))).map fun i : Nat => (i : Int)
def wf_left_from : WFn
  | [.sh d], Q => ∃ m : Mach, d = m.dd ∧ m.ok 8 20 ∧ Q (.lst ((leftL m).map D.int))
  | _, _ => False
theorem len_left_from : ∀ as Qd, wf_left_from as Qd → as.length = 1 := fun as Qd h => by
  unfold wf_left_from at h
  split at h
  · rfl
  · exact h.elim
theorem isnon_at {acc : List CE} (nd : (acc.map (·.1)).Nodup) {s : Int} {Q : D → Prop} (q : Q (.bl (decide (s ∈ acc.map (·.1))))) : dIsB not (atC acc s) .non Q := by
  by_cases h : s ∈ acc.map (·.1)
  · obtain ⟨⟨a, w⟩, ha, ea⟩ := List.mem_map.mp h
    have ea : a = s := ea
    subst ea
    rw [atC_mem nd ha]
    rw [decide_eq_true h] at q
    exact q
  · rw [atC_none h]
    rw [decide_eq_false h] at q
    exact q

def w_left_from : WS := (wSeq (wAsg (wCall wf_first_careers (asCons (wVar 0) asNil)) (wSt 1))
 (wRet (wFz (wLc [2] (wRg1 (waCons (wMeth "Machine" "many" wf_Machine_many (wVar 0) asNil) waNil)) (wSt 2) (wTst (wOp dNotIs (wOp dIx (wPk 1) (wPk 2)) (wC .non))) (wVar 2)))))

theorem p_left_from : ∀ as Qd, wf_left_from as Qd → w_left_from (startD ["machine", "careers", "state"] as) { nx := fun _ => Qd .non, rt := fun d _ => Qd d } := fun as Qd h => by
  unfold wf_left_from at h
  split at h
  · obtain ⟨m, rfl, okm, q⟩ := h
    have n8 := okm.n8
    have inv := come_inv okm
    show w_left_from [.sh m.dd, .no, .no] _
    simp only [w_left_from, ↓wSeq_e, ↓wNext_e, ↓wBreak_e, ↓wCont_e, ↓wRet_e, ↓wRetN_e, ↓wDrop_e, ↓wIf_e, ↓wAnd_e, ↓wOr_e, ↓wNot_e, ↓wTst_e, ↓wAndV_e, ↓wOrV_e, ↓wNotV_e, ↓wIfE_e, ↓wChain_e, ↓wVar_e, ↓wPk_e, ↓wC_e, ↓wOp_e, ↓wUn_e, ↓wM1_e, ↓wTup_e, ↓wfLst_e, ↓wFz_e, ↓waNil_e, ↓waCons_e, ↓asNil_e, ↓asCons_e, ↓asBox_e, ↓wCall_e, ↓wAsg_e, ↓wSt_e, ↓wAsgO_e, ↓wTp_e, ↓wTpL_e, ↓wPar_e, ↓wStL_nil, ↓wStL_cons, ↓wFor_e, ↓wRg1_e, ↓wRg2_e, ↓wItL_e, ↓wItT_e, ↓wItS_e, ↓wApp_e, ↓woNone_e, ↓woSome_e, ↓wCut_e, ↓wBx1_e, ↓wBx0_e, ↓wBxPut_e, ↓wDraw_e, ↓wLSet_e, ↓wNever_e, ↓wFld_e, ↓wMeth_e, ↓wMake_e, ↓wFldN_e, ↓wZip_e, ↓wPut_e, ↓wfList_e, ↓wfDict_e, ↓wfDisp1_e, ↓wPop0_e, ↓wOFld_e, ↓wOFldS_e, ↓wOApp_e, ↓wOPut_e, ↓wFldNO_e, ↓wMethO_e, ↓wGet1_e, ↓wfCut_e, ↓wfDk_e, ↓wfDt_e, ↓wCopy_e, ↓wRowPk_e, ↓wPutRow_e, ↓wTru_e, ↓wLc_e, ↓wYes_e, ↓wAug_e, dLt, dLe, dGt, dGe, dSub, dMul, dMod, dFdiv, dPow, dI2, dI2C, dAdd, dEq, dNe, dLen, dInt, dIx_l, dIx_t, dIx_s, dList, dSum, dCut, atI_zero, atI_one, Option.some.injEq, dTru, dMax2, dMin2, dAddI, dEqS, dIs, dNotIs, dSortDI, obD, id_eq, List.getElem?_cons_zero, List.getElem?_cons_succ, List.set_cons_zero, List.set_cons_succ, List.length_cons, List.length_nil, D.bl.injEq, exists_eq_left', decide_eq_true_eq, decide_eq_false_iff_not, Bool.not_eq_true', Bool.not_eq_false', Nat.zero_add, Nat.reduceAdd, true_and, and_true, forall_const, reduceCtorEq, not_true_eq_false, not_false_eq_true, false_implies, true_implies, implies_true, sz_line, Nat.reduceLeDiff, Int.reduceLE, Int.reduceLT, Int.reduceNeg, Int.reducePow, Int.reduceAdd, Int.reduceSub, Int.reduceMul, wf_first_careers, wf_Machine_many]
    refine ⟨m, rfl, okm, ⟨rfl, nin_many⟩, m, rfl, ?_⟩
    refine ⟨by omega, by rw [rangeD_length]; omega, rfl, ?_⟩
    rw [rangeD_nat, Int.toNat_natCast]
    refine lc_filter (ρ := [_, _, .no]) (fun i : Nat => decide ((i : Int) ∈ (comeL m).map (·.1))) (fun i : Nat => D.int i) _ [] (fun i hi Kt Kf ht hf => ?_) ?_
    · simp only [↓wSeq_e, ↓wNext_e, ↓wBreak_e, ↓wCont_e, ↓wRet_e, ↓wRetN_e, ↓wDrop_e, ↓wIf_e, ↓wAnd_e, ↓wOr_e, ↓wNot_e, ↓wTst_e, ↓wAndV_e, ↓wOrV_e, ↓wNotV_e, ↓wIfE_e, ↓wChain_e, ↓wVar_e, ↓wPk_e, ↓wC_e, ↓wOp_e, ↓wUn_e, ↓wM1_e, ↓wTup_e, ↓wfLst_e, ↓wFz_e, ↓waNil_e, ↓waCons_e, ↓asNil_e, ↓asCons_e, ↓asBox_e, ↓wCall_e, ↓wAsg_e, ↓wSt_e, ↓wAsgO_e, ↓wTp_e, ↓wTpL_e, ↓wPar_e, ↓wStL_nil, ↓wStL_cons, ↓wFor_e, ↓wRg1_e, ↓wRg2_e, ↓wItL_e, ↓wItT_e, ↓wItS_e, ↓wApp_e, ↓woNone_e, ↓woSome_e, ↓wCut_e, ↓wBx1_e, ↓wBx0_e, ↓wBxPut_e, ↓wDraw_e, ↓wLSet_e, ↓wNever_e, ↓wFld_e, ↓wMeth_e, ↓wMake_e, ↓wFldN_e, ↓wZip_e, ↓wPut_e, ↓wfList_e, ↓wfDict_e, ↓wfDisp1_e, ↓wPop0_e, ↓wOFld_e, ↓wOFldS_e, ↓wOApp_e, ↓wOPut_e, ↓wFldNO_e, ↓wMethO_e, ↓wGet1_e, ↓wfCut_e, ↓wfDk_e, ↓wfDt_e, ↓wCopy_e, ↓wRowPk_e, ↓wPutRow_e, ↓wTru_e, ↓wLc_e, ↓wYes_e, ↓wAug_e, dLt, dLe, dGt, dGe, dSub, dMul, dMod, dFdiv, dPow, dI2, dI2C, dAdd, dEq, dNe, dLen, dInt, dIx_l, dIx_t, dIx_s, dList, dSum, dCut, atI_zero, atI_one, Option.some.injEq, dTru, dMax2, dMin2, dAddI, dEqS, dIs, dNotIs, dSortDI, obD, id_eq, List.getElem?_cons_zero, List.getElem?_cons_succ, List.set_cons_zero, List.set_cons_succ, List.length_cons, List.length_nil, D.bl.injEq, exists_eq_left', decide_eq_true_eq, decide_eq_false_iff_not, Bool.not_eq_true', Bool.not_eq_false', Nat.zero_add, Nat.reduceAdd, true_and, and_true, forall_const, reduceCtorEq, not_true_eq_false, not_false_eq_true, false_implies, true_implies, implies_true, sz_line, Nat.reduceLeDiff, Int.reduceLE, Int.reduceLT, Int.reduceNeg, Int.reducePow, Int.reduceAdd, Int.reduceSub, Int.reduceMul, wipeD, List.reverse_cons, List.reverse_nil, List.nil_append, noOwnB, List.all_cons, List.all_nil, Bool.and_true, Bool.true_and]
      have hi := List.mem_range.mp hi
      refine ⟨_, foundV_at (by omega) (by omega), ?_⟩
      refine isnon_at inv.nd ?_
      exact ⟨_, rfl, fun k => ht k, fun k => hf k⟩
    · simp only [↓wSeq_e, ↓wNext_e, ↓wBreak_e, ↓wCont_e, ↓wRet_e, ↓wRetN_e, ↓wDrop_e, ↓wIf_e, ↓wAnd_e, ↓wOr_e, ↓wNot_e, ↓wTst_e, ↓wAndV_e, ↓wOrV_e, ↓wNotV_e, ↓wIfE_e, ↓wChain_e, ↓wVar_e, ↓wPk_e, ↓wC_e, ↓wOp_e, ↓wUn_e, ↓wM1_e, ↓wTup_e, ↓wfLst_e, ↓wFz_e, ↓waNil_e, ↓waCons_e, ↓asNil_e, ↓asCons_e, ↓asBox_e, ↓wCall_e, ↓wAsg_e, ↓wSt_e, ↓wAsgO_e, ↓wTp_e, ↓wTpL_e, ↓wPar_e, ↓wStL_nil, ↓wStL_cons, ↓wFor_e, ↓wRg1_e, ↓wRg2_e, ↓wItL_e, ↓wItT_e, ↓wItS_e, ↓wApp_e, ↓woNone_e, ↓woSome_e, ↓wCut_e, ↓wBx1_e, ↓wBx0_e, ↓wBxPut_e, ↓wDraw_e, ↓wLSet_e, ↓wNever_e, ↓wFld_e, ↓wMeth_e, ↓wMake_e, ↓wFldN_e, ↓wZip_e, ↓wPut_e, ↓wfList_e, ↓wfDict_e, ↓wfDisp1_e, ↓wPop0_e, ↓wOFld_e, ↓wOFldS_e, ↓wOApp_e, ↓wOPut_e, ↓wFldNO_e, ↓wMethO_e, ↓wGet1_e, ↓wfCut_e, ↓wfDk_e, ↓wfDt_e, ↓wCopy_e, ↓wRowPk_e, ↓wPutRow_e, ↓wTru_e, ↓wLc_e, ↓wYes_e, ↓wAug_e, dLt, dLe, dGt, dGe, dSub, dMul, dMod, dFdiv, dPow, dI2, dI2C, dAdd, dEq, dNe, dLen, dInt, dIx_l, dIx_t, dIx_s, dList, dSum, dCut, atI_zero, atI_one, Option.some.injEq, dTru, dMax2, dMin2, dAddI, dEqS, dIs, dNotIs, dSortDI, obD, id_eq, List.getElem?_cons_zero, List.getElem?_cons_succ, List.set_cons_zero, List.set_cons_succ, List.length_cons, List.length_nil, D.bl.injEq, exists_eq_left', decide_eq_true_eq, decide_eq_false_iff_not, Bool.not_eq_true', Bool.not_eq_false', Nat.zero_add, Nat.reduceAdd, true_and, and_true, forall_const, reduceCtorEq, not_true_eq_false, not_false_eq_true, false_implies, true_implies, implies_true, sz_line, Nat.reduceLeDiff, Int.reduceLE, Int.reduceLT, Int.reduceNeg, Int.reducePow, Int.reduceAdd, Int.reduceSub, Int.reduceMul, wipeD, List.reverse_cons, List.reverse_nil, List.nil_append, noOwnB, List.all_cons, List.all_nil, Bool.and_true, Bool.true_and]
      unfold leftL at q
      rw [List.map_map] at q
      exact q
  · exact h.elim
/-! ### moved_pairs -/
def movedL (m : Mach) (c : Cary) : List P2 := (leftL m).map fun s => (s, c.to.getD s.toNat 0)
def wf_moved_pairs : WFn
  | [.sh d, .sh e, .sh g], Q => ∃ (m o : Mach) (c : Cary), d = m.dd ∧ e = o.dd ∧ g = c.dd ∧ m.ok 8 20 ∧ o.ok 8 20 ∧ o.facts = m.facts ∧ (∀ f ∈ m.facts, PyData.strOk f = true) ∧ c.ok m.leave.length o.leave.length ∧ Q (psD m o (metL m o (movedL m c)) (metL m o (movedL m c)).length)
  | _, _ => False
theorem len_moved_pairs : ∀ as Qd, wf_moved_pairs as Qd → as.length = 3 := fun as Qd h => by
  unfold wf_moved_pairs at h
  split at h
  · rfl
  · exact h.elim
theorem leftL_mem {m : Mach} {s : Int} (h : s ∈ leftL m) : 0 ≤ s ∧ s < m.leave.length ∧ s ∈ (comeL m).map (·.1) := by
  unfold leftL at h
  obtain ⟨i, hi, rfl⟩ := List.mem_map.mp h
  obtain ⟨h1, h2⟩ := List.mem_filter.mp hi
  have := List.mem_range.mp h1
  exact ⟨by omega, by omega, of_decide_eq_true h2⟩
theorem Cary.at_to {c : Cary} {n k : Nat} (h : c.ok n k) {s : Int} (h0 : 0 ≤ s) (h1 : s < n) : atI (c.to.map D.int) s = some (.int (c.to.getD s.toNat 0)) := by
  refine atI_nat h0 ?_
  rw [List.getElem?_map, getD_at (a := 0) (by have := h.lt; omega)]; rfl
theorem Cary.to_in {c : Cary} {n k : Nat} (h : c.ok n k) {s : Int} (h0 : 0 ≤ s) (h1 : s < n) : 0 ≤ c.to.getD s.toNat 0 ∧ c.to.getD s.toNat 0 < k := h.rt _ (getD_in (by have := h.lt; omega))
theorem moved_in {m o : Mach} {c : Cary} (h : c.ok m.leave.length o.leave.length) : ∀ p ∈ movedL m c, inR m o p := fun p hp => by
  obtain ⟨s, hs, rfl⟩ := List.mem_map.mp hp
  obtain ⟨s0, s1, _⟩ := leftL_mem hs
  have := Cary.to_in h s0 s1
  exact ⟨s0, s1, this.1, this.2⟩
theorem mapI_lc {l : List Int} {g : Int → D} {vs : List Nat} {wg : WG} {we : WE} {ρ : List Sl} {Q : List D → List Sl → Prop}
    (step : ∀ s ∈ l, ∀ Kt : D → List Sl → Prop, Kt (g s) ρ → wg (.int s) ρ fun ρ1 => we ρ1 fun y ρ3 => noOwnB ρ3 vs = true ∧ Kt y (wipeD ρ3 vs))
    (q : Q (l.map g) ρ) : wLcL vs wg wYes we (l.map D.int) ρ [] Q := by
  refine wLcL_rule (fun d => ∃ s ∈ l, d = .int s) (fun d o => o = some (match d with | .int s => g s | d => d)) ?_ _ _ _ ?_ ?_
  · rintro d ⟨s, hs, rfl⟩ Kt Kf ht hf
    simp only [↓wSeq_e, ↓wNext_e, ↓wBreak_e, ↓wCont_e, ↓wRet_e, ↓wRetN_e, ↓wDrop_e, ↓wIf_e, ↓wAnd_e, ↓wOr_e, ↓wNot_e, ↓wTst_e, ↓wAndV_e, ↓wOrV_e, ↓wNotV_e, ↓wIfE_e, ↓wChain_e, ↓wVar_e, ↓wPk_e, ↓wC_e, ↓wOp_e, ↓wUn_e, ↓wM1_e, ↓wTup_e, ↓wfLst_e, ↓wFz_e, ↓waNil_e, ↓waCons_e, ↓asNil_e, ↓asCons_e, ↓asBox_e, ↓wCall_e, ↓wAsg_e, ↓wSt_e, ↓wAsgO_e, ↓wTp_e, ↓wTpL_e, ↓wPar_e, ↓wStL_nil, ↓wStL_cons, ↓wFor_e, ↓wRg1_e, ↓wRg2_e, ↓wItL_e, ↓wItT_e, ↓wItS_e, ↓wApp_e, ↓woNone_e, ↓woSome_e, ↓wCut_e, ↓wBx1_e, ↓wBx0_e, ↓wBxPut_e, ↓wDraw_e, ↓wLSet_e, ↓wNever_e, ↓wFld_e, ↓wMeth_e, ↓wMake_e, ↓wFldN_e, ↓wZip_e, ↓wPut_e, ↓wfList_e, ↓wfDict_e, ↓wfDisp1_e, ↓wPop0_e, ↓wOFld_e, ↓wOFldS_e, ↓wOApp_e, ↓wOPut_e, ↓wFldNO_e, ↓wMethO_e, ↓wGet1_e, ↓wfCut_e, ↓wfDk_e, ↓wfDt_e, ↓wCopy_e, ↓wRowPk_e, ↓wPutRow_e, ↓wTru_e, ↓wLc_e, ↓wYes_e, ↓wAug_e, dLt, dLe, dGt, dGe, dSub, dMul, dMod, dFdiv, dPow, dI2, dI2C, dAdd, dEq, dNe, dLen, dInt, dIx_l, dIx_t, dIx_s, dList, dSum, dCut, atI_zero, atI_one, Option.some.injEq, dTru, dMax2, dMin2, dAddI, dEqS, dIs, dNotIs, dSortDI, obD, id_eq, List.getElem?_cons_zero, List.getElem?_cons_succ, List.set_cons_zero, List.set_cons_succ, List.length_cons, List.length_nil, D.bl.injEq, exists_eq_left', decide_eq_true_eq, decide_eq_false_iff_not, Bool.not_eq_true', Bool.not_eq_false', Nat.zero_add, Nat.reduceAdd, true_and, and_true, forall_const, reduceCtorEq, not_true_eq_false, not_false_eq_true, false_implies, true_implies, implies_true, sz_line, Nat.reduceLeDiff, Int.reduceLE, Int.reduceLT, Int.reduceNeg, Int.reducePow, Int.reduceAdd, Int.reduceSub, Int.reduceMul]
    exact step s hs Kt (ht _ rfl)
  · intro d hd
    obtain ⟨s, hs, rfl⟩ := List.mem_map.mp hd
    exact ⟨s, hs, rfl⟩
  · intro ys hy
    rw [Outs.map hy, List.nil_append, List.map_map]
    exact q

def w_moved_pairs : WS := (wRet (wMake "Pairs" wf_Pairs_init (asCons (wVar 0) (asCons (wVar 1) (asCons (wFz (wLc [3] (wItL (wCall wf_left_from (asCons (wVar 0) asNil))) (wSt 3) wYes (wTup (waCons (wVar 3) (waCons (wOp dIx (wFld "Carry" "to" (wPk 2)) (wPk 3)) waNil))))) asNil)))))

theorem p_moved_pairs : ∀ as Qd, wf_moved_pairs as Qd → w_moved_pairs (startD ["machine", "other", "carry", "state"] as) { nx := fun _ => Qd .non, rt := fun d _ => Qd d } := fun as Qd h => by
  unfold wf_moved_pairs at h
  split at h
  · obtain ⟨m, o, c, rfl, rfl, rfl, okm, oko, hfo, hst, okc, q⟩ := h
    have n8 := okm.n8
    show w_moved_pairs [.sh m.dd, .sh o.dd, .sh c.dd, .no] _
    simp only [w_moved_pairs, Mach.dd, Cary.dd, lk_facts, lk_step, lk_gain, lk_leave, lk_to, lk_cost, ↓wSeq_e, ↓wNext_e, ↓wBreak_e, ↓wCont_e, ↓wRet_e, ↓wRetN_e, ↓wDrop_e, ↓wIf_e, ↓wAnd_e, ↓wOr_e, ↓wNot_e, ↓wTst_e, ↓wAndV_e, ↓wOrV_e, ↓wNotV_e, ↓wIfE_e, ↓wChain_e, ↓wVar_e, ↓wPk_e, ↓wC_e, ↓wOp_e, ↓wUn_e, ↓wM1_e, ↓wTup_e, ↓wfLst_e, ↓wFz_e, ↓waNil_e, ↓waCons_e, ↓asNil_e, ↓asCons_e, ↓asBox_e, ↓wCall_e, ↓wAsg_e, ↓wSt_e, ↓wAsgO_e, ↓wTp_e, ↓wTpL_e, ↓wPar_e, ↓wStL_nil, ↓wStL_cons, ↓wFor_e, ↓wRg1_e, ↓wRg2_e, ↓wItL_e, ↓wItT_e, ↓wItS_e, ↓wApp_e, ↓woNone_e, ↓woSome_e, ↓wCut_e, ↓wBx1_e, ↓wBx0_e, ↓wBxPut_e, ↓wDraw_e, ↓wLSet_e, ↓wNever_e, ↓wFld_e, ↓wMeth_e, ↓wMake_e, ↓wFldN_e, ↓wZip_e, ↓wPut_e, ↓wfList_e, ↓wfDict_e, ↓wfDisp1_e, ↓wPop0_e, ↓wOFld_e, ↓wOFldS_e, ↓wOApp_e, ↓wOPut_e, ↓wFldNO_e, ↓wMethO_e, ↓wGet1_e, ↓wfCut_e, ↓wfDk_e, ↓wfDt_e, ↓wCopy_e, ↓wRowPk_e, ↓wPutRow_e, ↓wTru_e, ↓wLc_e, ↓wYes_e, ↓wAug_e, dLt, dLe, dGt, dGe, dSub, dMul, dMod, dFdiv, dPow, dI2, dI2C, dAdd, dEq, dNe, dLen, dInt, dIx_l, dIx_t, dIx_s, dList, dSum, dCut, atI_zero, atI_one, Option.some.injEq, dTru, dMax2, dMin2, dAddI, dEqS, dIs, dNotIs, dSortDI, obD, id_eq, List.getElem?_cons_zero, List.getElem?_cons_succ, List.set_cons_zero, List.set_cons_succ, List.length_cons, List.length_nil, D.bl.injEq, exists_eq_left', decide_eq_true_eq, decide_eq_false_iff_not, Bool.not_eq_true', Bool.not_eq_false', Nat.zero_add, Nat.reduceAdd, true_and, and_true, forall_const, reduceCtorEq, not_true_eq_false, not_false_eq_true, false_implies, true_implies, implies_true, sz_line, Nat.reduceLeDiff, Int.reduceLE, Int.reduceLT, Int.reduceNeg, Int.reducePow, Int.reduceAdd, Int.reduceSub, Int.reduceMul, wf_left_from]
    refine ⟨m, rfl, okm, ?_⟩
    have ll : (leftL m).length ≤ 8 := by
      unfold leftL
      rw [List.length_map]
      exact Nat.le_trans (List.length_filter_le _ _) (by rw [List.length_range]; omega)
    refine ⟨by rw [List.length_map]; omega, rfl, ?_⟩
    refine mapI_lc (ρ := [_, _, _, .no]) (g := fun s => pD (s, c.to.getD s.toNat 0)) (fun s hs Kt ht => ?_) ?_
    · obtain ⟨s0, s1, _⟩ := leftL_mem hs
      simp only [Mach.dd, Cary.dd, lk_facts, lk_step, lk_gain, lk_leave, lk_to, lk_cost, ↓wSeq_e, ↓wNext_e, ↓wBreak_e, ↓wCont_e, ↓wRet_e, ↓wRetN_e, ↓wDrop_e, ↓wIf_e, ↓wAnd_e, ↓wOr_e, ↓wNot_e, ↓wTst_e, ↓wAndV_e, ↓wOrV_e, ↓wNotV_e, ↓wIfE_e, ↓wChain_e, ↓wVar_e, ↓wPk_e, ↓wC_e, ↓wOp_e, ↓wUn_e, ↓wM1_e, ↓wTup_e, ↓wfLst_e, ↓wFz_e, ↓waNil_e, ↓waCons_e, ↓asNil_e, ↓asCons_e, ↓asBox_e, ↓wCall_e, ↓wAsg_e, ↓wSt_e, ↓wAsgO_e, ↓wTp_e, ↓wTpL_e, ↓wPar_e, ↓wStL_nil, ↓wStL_cons, ↓wFor_e, ↓wRg1_e, ↓wRg2_e, ↓wItL_e, ↓wItT_e, ↓wItS_e, ↓wApp_e, ↓woNone_e, ↓woSome_e, ↓wCut_e, ↓wBx1_e, ↓wBx0_e, ↓wBxPut_e, ↓wDraw_e, ↓wLSet_e, ↓wNever_e, ↓wFld_e, ↓wMeth_e, ↓wMake_e, ↓wFldN_e, ↓wZip_e, ↓wPut_e, ↓wfList_e, ↓wfDict_e, ↓wfDisp1_e, ↓wPop0_e, ↓wOFld_e, ↓wOFldS_e, ↓wOApp_e, ↓wOPut_e, ↓wFldNO_e, ↓wMethO_e, ↓wGet1_e, ↓wfCut_e, ↓wfDk_e, ↓wfDt_e, ↓wCopy_e, ↓wRowPk_e, ↓wPutRow_e, ↓wTru_e, ↓wLc_e, ↓wYes_e, ↓wAug_e, dLt, dLe, dGt, dGe, dSub, dMul, dMod, dFdiv, dPow, dI2, dI2C, dAdd, dEq, dNe, dLen, dInt, dIx_l, dIx_t, dIx_s, dList, dSum, dCut, atI_zero, atI_one, Option.some.injEq, dTru, dMax2, dMin2, dAddI, dEqS, dIs, dNotIs, dSortDI, obD, id_eq, List.getElem?_cons_zero, List.getElem?_cons_succ, List.set_cons_zero, List.set_cons_succ, List.length_cons, List.length_nil, D.bl.injEq, exists_eq_left', decide_eq_true_eq, decide_eq_false_iff_not, Bool.not_eq_true', Bool.not_eq_false', Nat.zero_add, Nat.reduceAdd, true_and, and_true, forall_const, reduceCtorEq, not_true_eq_false, not_false_eq_true, false_implies, true_implies, implies_true, sz_line, Nat.reduceLeDiff, Int.reduceLE, Int.reduceLT, Int.reduceNeg, Int.reducePow, Int.reduceAdd, Int.reduceSub, Int.reduceMul, wipeD, List.reverse_cons, List.reverse_nil, List.nil_append, noOwnB, List.all_cons, List.all_nil, Bool.and_true, Bool.true_and]
      refine ⟨_, Cary.at_to okc s0 s1, ?_⟩
      exact ht
    · simp only [↓wSeq_e, ↓wNext_e, ↓wBreak_e, ↓wCont_e, ↓wRet_e, ↓wRetN_e, ↓wDrop_e, ↓wIf_e, ↓wAnd_e, ↓wOr_e, ↓wNot_e, ↓wTst_e, ↓wAndV_e, ↓wOrV_e, ↓wNotV_e, ↓wIfE_e, ↓wChain_e, ↓wVar_e, ↓wPk_e, ↓wC_e, ↓wOp_e, ↓wUn_e, ↓wM1_e, ↓wTup_e, ↓wfLst_e, ↓wFz_e, ↓waNil_e, ↓waCons_e, ↓asNil_e, ↓asCons_e, ↓asBox_e, ↓wCall_e, ↓wAsg_e, ↓wSt_e, ↓wAsgO_e, ↓wTp_e, ↓wTpL_e, ↓wPar_e, ↓wStL_nil, ↓wStL_cons, ↓wFor_e, ↓wRg1_e, ↓wRg2_e, ↓wItL_e, ↓wItT_e, ↓wItS_e, ↓wApp_e, ↓woNone_e, ↓woSome_e, ↓wCut_e, ↓wBx1_e, ↓wBx0_e, ↓wBxPut_e, ↓wDraw_e, ↓wLSet_e, ↓wNever_e, ↓wFld_e, ↓wMeth_e, ↓wMake_e, ↓wFldN_e, ↓wZip_e, ↓wPut_e, ↓wfList_e, ↓wfDict_e, ↓wfDisp1_e, ↓wPop0_e, ↓wOFld_e, ↓wOFldS_e, ↓wOApp_e, ↓wOPut_e, ↓wFldNO_e, ↓wMethO_e, ↓wGet1_e, ↓wfCut_e, ↓wfDk_e, ↓wfDt_e, ↓wCopy_e, ↓wRowPk_e, ↓wPutRow_e, ↓wTru_e, ↓wLc_e, ↓wYes_e, ↓wAug_e, dLt, dLe, dGt, dGe, dSub, dMul, dMod, dFdiv, dPow, dI2, dI2C, dAdd, dEq, dNe, dLen, dInt, dIx_l, dIx_t, dIx_s, dList, dSum, dCut, atI_zero, atI_one, Option.some.injEq, dTru, dMax2, dMin2, dAddI, dEqS, dIs, dNotIs, dSortDI, obD, id_eq, List.getElem?_cons_zero, List.getElem?_cons_succ, List.set_cons_zero, List.set_cons_succ, List.length_cons, List.length_nil, D.bl.injEq, exists_eq_left', decide_eq_true_eq, decide_eq_false_iff_not, Bool.not_eq_true', Bool.not_eq_false', Nat.zero_add, Nat.reduceAdd, true_and, and_true, forall_const, reduceCtorEq, not_true_eq_false, not_false_eq_true, false_implies, true_implies, implies_true, sz_line, Nat.reduceLeDiff, Int.reduceLE, Int.reduceLT, Int.reduceNeg, Int.reducePow, Int.reduceAdd, Int.reduceSub, Int.reduceMul, wipeD, List.reverse_cons, List.reverse_nil, List.nil_append, noOwnB, List.all_cons, List.all_nil, Bool.and_true, Bool.true_and, wf_Pairs_init]
      refine fun x => ⟨m, o, movedL m c, rfl, rfl, by unfold movedL; rw [List.map_map]; rfl, okm, oko, hfo, hst, moved_in okc, _, rfl, ?_⟩
      rw [psD_ot]
      exact q
  · exact h.elim
/-! ### Machine.__init__ -/
def wf_Machine_init : WFo
  | [.od x (.ins n [] []), .sh (.lst fs), .sh (.lst st), .sh (.lst gn), .sh (.lst lv)], Q => n = "Machine" ∧ fs.length ≤ 1000 ∧ st.length ≤ 1000 ∧ gn.length ≤ 1000 ∧ lv.length ≤ 1000 ∧ (∃ r1 : List RowD, st = r1.map rowD) ∧ (∃ r2 : List RowD, gn = r2.map rowD) ∧
    Q .non [.od x (.ins n machF [.sh (.lst fs), .sh (.lst st), .sh (.lst gn), .sh (.lst lv)]), .sh (.lst fs), .sh (.lst st), .sh (.lst gn), .sh (.lst lv)]
  | _, _ => False
theorem len_Machine_init : ∀ as Qd, wf_Machine_init as Qd → as.length = 5 := fun as Qd h => by
  unfold wf_Machine_init at h
  split at h
  · rfl
  · exact h.elim
/-- the comprehension that copies rows -/
theorem copy_lc {rows : List RowD} {vs : List Nat} {wg : WG} {we : WE} {ρ : List Sl} {Q : List D → List Sl → Prop} (step : ∀ r : RowD, ∀ Kt : D → List Sl → Prop, Kt (rowD r) ρ → wg (rowD r) ρ fun ρ1 => we ρ1 fun y ρ3 => noOwnB ρ3 vs = true ∧ Kt y (wipeD ρ3 vs))
    (q : Q (rows.map rowD) ρ) : wLcL vs wg wYes we (rows.map rowD) ρ [] Q := by
  refine wLcL_rule (fun d => ∃ r : RowD, d = rowD r) (fun d o => o = some d) ?_ _ _ _ ?_ ?_
  · rintro d ⟨r, rfl⟩ Kt Kf ht hf
    simp only [↓wSeq_e, ↓wNext_e, ↓wBreak_e, ↓wCont_e, ↓wRet_e, ↓wRetN_e, ↓wDrop_e, ↓wIf_e, ↓wAnd_e, ↓wOr_e, ↓wNot_e, ↓wTst_e, ↓wAndV_e, ↓wOrV_e, ↓wNotV_e, ↓wIfE_e, ↓wChain_e, ↓wVar_e, ↓wPk_e, ↓wC_e, ↓wOp_e, ↓wUn_e, ↓wM1_e, ↓wTup_e, ↓wfLst_e, ↓wFz_e, ↓waNil_e, ↓waCons_e, ↓asNil_e, ↓asCons_e, ↓asBox_e, ↓wCall_e, ↓wAsg_e, ↓wSt_e, ↓wAsgO_e, ↓wTp_e, ↓wTpL_e, ↓wPar_e, ↓wStL_nil, ↓wStL_cons, ↓wFor_e, ↓wRg1_e, ↓wRg2_e, ↓wItL_e, ↓wItT_e, ↓wItS_e, ↓wApp_e, ↓woNone_e, ↓woSome_e, ↓wCut_e, ↓wBx1_e, ↓wBx0_e, ↓wBxPut_e, ↓wDraw_e, ↓wLSet_e, ↓wNever_e, ↓wFld_e, ↓wMeth_e, ↓wMake_e, ↓wFldN_e, ↓wZip_e, ↓wPut_e, ↓wfList_e, ↓wfDict_e, ↓wfDisp1_e, ↓wPop0_e, ↓wOFld_e, ↓wOFldS_e, ↓wOApp_e, ↓wOPut_e, ↓wFldNO_e, ↓wMethO_e, ↓wGet1_e, ↓wfCut_e, ↓wfDk_e, ↓wfDt_e, ↓wCopy_e, ↓wRowPk_e, ↓wPutRow_e, ↓wTru_e, ↓wLc_e, ↓wYes_e, ↓wAug_e, dLt, dLe, dGt, dGe, dSub, dMul, dMod, dFdiv, dPow, dI2, dI2C, dAdd, dEq, dNe, dLen, dInt, dIx_l, dIx_t, dIx_s, dList, dSum, dCut, atI_zero, atI_one, Option.some.injEq, dTru, dMax2, dMin2, dAddI, dEqS, dIs, dNotIs, dSortDI, obD, id_eq, List.getElem?_cons_zero, List.getElem?_cons_succ, List.set_cons_zero, List.set_cons_succ, List.length_cons, List.length_nil, D.bl.injEq, exists_eq_left', decide_eq_true_eq, decide_eq_false_iff_not, Bool.not_eq_true', Bool.not_eq_false', Nat.zero_add, Nat.reduceAdd, true_and, and_true, forall_const, reduceCtorEq, not_true_eq_false, not_false_eq_true, false_implies, true_implies, implies_true, sz_line, Nat.reduceLeDiff, Int.reduceLE, Int.reduceLT, Int.reduceNeg, Int.reducePow, Int.reduceAdd, Int.reduceSub, Int.reduceMul]
    exact step r Kt (ht _ rfl)
  · intro d hd
    obtain ⟨r, _, rfl⟩ := List.mem_map.mp hd
    exact ⟨r, rfl⟩
  · intro ys hy
    have := Outs.map (g := id) hy
    rw [this, List.map_id, List.nil_append]
    exact q
/-- a comprehension over a range: ints of a kind -/
theorem ints_lc {P : Int → Prop} {ds : List D} {vs : List Nat} {wg : WG} {we : WE} {ρ : List Sl} {Q : List D → List Sl → Prop}
    (step : ∀ d ∈ ds, ∀ Kt : D → List Sl → Prop, (∀ v, P v → Kt (.int v) ρ) → wg d ρ fun ρ1 => we ρ1 fun y ρ3 => noOwnB ρ3 vs = true ∧ Kt y (wipeD ρ3 vs))
    (q : ∀ r : List Int, r.length = ds.length → (∀ v ∈ r, P v) → Q (r.map D.int) ρ) : wLcL vs wg wYes we ds ρ [] Q := by
  refine wLcL_rule (fun d => d ∈ ds) (fun _ o => ∃ y, o = some y ∧ ∃ v : Int, y = .int v ∧ P v) ?_ _ _ _ (fun d h => h) ?_
  · rintro d hd Kt Kf ht hf
    simp only [↓wSeq_e, ↓wNext_e, ↓wBreak_e, ↓wCont_e, ↓wRet_e, ↓wRetN_e, ↓wDrop_e, ↓wIf_e, ↓wAnd_e, ↓wOr_e, ↓wNot_e, ↓wTst_e, ↓wAndV_e, ↓wOrV_e, ↓wNotV_e, ↓wIfE_e, ↓wChain_e, ↓wVar_e, ↓wPk_e, ↓wC_e, ↓wOp_e, ↓wUn_e, ↓wM1_e, ↓wTup_e, ↓wfLst_e, ↓wFz_e, ↓waNil_e, ↓waCons_e, ↓asNil_e, ↓asCons_e, ↓asBox_e, ↓wCall_e, ↓wAsg_e, ↓wSt_e, ↓wAsgO_e, ↓wTp_e, ↓wTpL_e, ↓wPar_e, ↓wStL_nil, ↓wStL_cons, ↓wFor_e, ↓wRg1_e, ↓wRg2_e, ↓wItL_e, ↓wItT_e, ↓wItS_e, ↓wApp_e, ↓woNone_e, ↓woSome_e, ↓wCut_e, ↓wBx1_e, ↓wBx0_e, ↓wBxPut_e, ↓wDraw_e, ↓wLSet_e, ↓wNever_e, ↓wFld_e, ↓wMeth_e, ↓wMake_e, ↓wFldN_e, ↓wZip_e, ↓wPut_e, ↓wfList_e, ↓wfDict_e, ↓wfDisp1_e, ↓wPop0_e, ↓wOFld_e, ↓wOFldS_e, ↓wOApp_e, ↓wOPut_e, ↓wFldNO_e, ↓wMethO_e, ↓wGet1_e, ↓wfCut_e, ↓wfDk_e, ↓wfDt_e, ↓wCopy_e, ↓wRowPk_e, ↓wPutRow_e, ↓wTru_e, ↓wLc_e, ↓wYes_e, ↓wAug_e, dLt, dLe, dGt, dGe, dSub, dMul, dMod, dFdiv, dPow, dI2, dI2C, dAdd, dEq, dNe, dLen, dInt, dIx_l, dIx_t, dIx_s, dList, dSum, dCut, atI_zero, atI_one, Option.some.injEq, dTru, dMax2, dMin2, dAddI, dEqS, dIs, dNotIs, dSortDI, obD, id_eq, List.getElem?_cons_zero, List.getElem?_cons_succ, List.set_cons_zero, List.set_cons_succ, List.length_cons, List.length_nil, D.bl.injEq, exists_eq_left', decide_eq_true_eq, decide_eq_false_iff_not, Bool.not_eq_true', Bool.not_eq_false', Nat.zero_add, Nat.reduceAdd, true_and, and_true, forall_const, reduceCtorEq, not_true_eq_false, not_false_eq_true, false_implies, true_implies, implies_true, sz_line, Nat.reduceLeDiff, Int.reduceLE, Int.reduceLT, Int.reduceNeg, Int.reducePow, Int.reduceAdd, Int.reduceSub, Int.reduceMul]
    exact step d hd Kt fun v hv => ht _ ⟨_, rfl, v, rfl, hv⟩
  · intro ys hy
    obtain ⟨y1, y2⟩ := hy.all
    obtain ⟨cs, rfl, c2, c3⟩ := ints_of y2
    rw [List.nil_append]
    exact q cs (by rw [c3, y1]) c2
theorem nin1 : ("facts" : Str) ∉ ([] : List Str) := by simp
theorem nin2 : ("step" : Str) ∉ (["facts"] : List Str) := by decide +kernel
theorem nin3 : ("gain" : Str) ∉ (["facts", "step"] : List Str) := by decide +kernel
theorem nin4 : ("leave" : Str) ∉ (["facts", "step", "gain"] : List Str) := by decide +kernel

def w_Machine_init : WS := (wSeq (wFldN 0 "Machine" "facts" (wUn dList (wPk 1)))
 (wSeq (wFldN 0 "Machine" "step" (wFz (wLc [5] (wItL (wVar 2)) (wSt 5) wYes (wUn dDict (wPk 5)))))
 (wSeq (wFldN 0 "Machine" "gain" (wFz (wLc [5] (wItL (wVar 3)) (wSt 5) wYes (wUn dDict (wPk 5)))))
 (wFldN 0 "Machine" "leave" (wUn dList (wPk 4))))))

theorem p_Machine_init : ∀ as Qd, wf_Machine_init as Qd → w_Machine_init (startD ["self", "facts", "step", "gain", "leave", "row"] as) { nx := fun ρ => ∃ as2, back as ρ as2 ∧ Qd .non as2, rt := fun d ρ => ∃ as2, back as ρ as2 ∧ Qd d as2 } := fun as Qd h => by
  unfold wf_Machine_init at h
  split at h
  · rename_i x n fs st gn lv
    obtain ⟨rfl, l1, l2, l3, l4, ⟨r1, rfl⟩, ⟨r2, rfl⟩, q⟩ := h
    show w_Machine_init [.od x (.ins "Machine" [] []), .sh (.lst fs), .sh (.lst (r1.map rowD)), .sh (.lst (r2.map rowD)), .sh (.lst lv), .no] _
    simp only [w_Machine_init, ↓wSeq_e, ↓wNext_e, ↓wBreak_e, ↓wCont_e, ↓wRet_e, ↓wRetN_e, ↓wDrop_e, ↓wIf_e, ↓wAnd_e, ↓wOr_e, ↓wNot_e, ↓wTst_e, ↓wAndV_e, ↓wOrV_e, ↓wNotV_e, ↓wIfE_e, ↓wChain_e, ↓wVar_e, ↓wPk_e, ↓wC_e, ↓wOp_e, ↓wUn_e, ↓wM1_e, ↓wTup_e, ↓wfLst_e, ↓wFz_e, ↓waNil_e, ↓waCons_e, ↓asNil_e, ↓asCons_e, ↓asBox_e, ↓wCall_e, ↓wAsg_e, ↓wSt_e, ↓wAsgO_e, ↓wTp_e, ↓wTpL_e, ↓wPar_e, ↓wStL_nil, ↓wStL_cons, ↓wFor_e, ↓wRg1_e, ↓wRg2_e, ↓wItL_e, ↓wItT_e, ↓wItS_e, ↓wApp_e, ↓woNone_e, ↓woSome_e, ↓wCut_e, ↓wBx1_e, ↓wBx0_e, ↓wBxPut_e, ↓wDraw_e, ↓wLSet_e, ↓wNever_e, ↓wFld_e, ↓wMeth_e, ↓wMake_e, ↓wFldN_e, ↓wZip_e, ↓wPut_e, ↓wfList_e, ↓wfDict_e, ↓wfDisp1_e, ↓wPop0_e, ↓wOFld_e, ↓wOFldS_e, ↓wOApp_e, ↓wOPut_e, ↓wFldNO_e, ↓wMethO_e, ↓wGet1_e, ↓wfCut_e, ↓wfDk_e, ↓wfDt_e, ↓wCopy_e, ↓wRowPk_e, ↓wPutRow_e, ↓wTru_e, ↓wLc_e, ↓wYes_e, ↓wAug_e, dLt, dLe, dGt, dGe, dSub, dMul, dMod, dFdiv, dPow, dI2, dI2C, dAdd, dEq, dNe, dLen, dInt, dIx_l, dIx_t, dIx_s, dList, dSum, dCut, atI_zero, atI_one, Option.some.injEq, dTru, dMax2, dMin2, dAddI, dEqS, dIs, dNotIs, dSortDI, obD, id_eq, List.getElem?_cons_zero, List.getElem?_cons_succ, List.set_cons_zero, List.set_cons_succ, List.length_cons, List.length_nil, D.bl.injEq, exists_eq_left', decide_eq_true_eq, decide_eq_false_iff_not, Bool.not_eq_true', Bool.not_eq_false', Nat.zero_add, Nat.reduceAdd, true_and, and_true, forall_const, reduceCtorEq, not_true_eq_false, not_false_eq_true, false_implies, true_implies, implies_true, sz_line, Nat.reduceLeDiff, Int.reduceLE, Int.reduceLT, Int.reduceNeg, Int.reducePow, Int.reduceAdd, Int.reduceSub, Int.reduceMul, dList, List.nil_append]
    refine ⟨⟨nin1, by decide⟩, by omega, rfl, ?_⟩
    refine copy_lc (ρ := [_, _, _, _, _, .no]) (fun r Kt ht => ?_) ?_
    · simp only [↓wSeq_e, ↓wNext_e, ↓wBreak_e, ↓wCont_e, ↓wRet_e, ↓wRetN_e, ↓wDrop_e, ↓wIf_e, ↓wAnd_e, ↓wOr_e, ↓wNot_e, ↓wTst_e, ↓wAndV_e, ↓wOrV_e, ↓wNotV_e, ↓wIfE_e, ↓wChain_e, ↓wVar_e, ↓wPk_e, ↓wC_e, ↓wOp_e, ↓wUn_e, ↓wM1_e, ↓wTup_e, ↓wfLst_e, ↓wFz_e, ↓waNil_e, ↓waCons_e, ↓asNil_e, ↓asCons_e, ↓asBox_e, ↓wCall_e, ↓wAsg_e, ↓wSt_e, ↓wAsgO_e, ↓wTp_e, ↓wTpL_e, ↓wPar_e, ↓wStL_nil, ↓wStL_cons, ↓wFor_e, ↓wRg1_e, ↓wRg2_e, ↓wItL_e, ↓wItT_e, ↓wItS_e, ↓wApp_e, ↓woNone_e, ↓woSome_e, ↓wCut_e, ↓wBx1_e, ↓wBx0_e, ↓wBxPut_e, ↓wDraw_e, ↓wLSet_e, ↓wNever_e, ↓wFld_e, ↓wMeth_e, ↓wMake_e, ↓wFldN_e, ↓wZip_e, ↓wPut_e, ↓wfList_e, ↓wfDict_e, ↓wfDisp1_e, ↓wPop0_e, ↓wOFld_e, ↓wOFldS_e, ↓wOApp_e, ↓wOPut_e, ↓wFldNO_e, ↓wMethO_e, ↓wGet1_e, ↓wfCut_e, ↓wfDk_e, ↓wfDt_e, ↓wCopy_e, ↓wRowPk_e, ↓wPutRow_e, ↓wTru_e, ↓wLc_e, ↓wYes_e, ↓wAug_e, dLt, dLe, dGt, dGe, dSub, dMul, dMod, dFdiv, dPow, dI2, dI2C, dAdd, dEq, dNe, dLen, dInt, dIx_l, dIx_t, dIx_s, dList, dSum, dCut, atI_zero, atI_one, Option.some.injEq, dTru, dMax2, dMin2, dAddI, dEqS, dIs, dNotIs, dSortDI, obD, id_eq, List.getElem?_cons_zero, List.getElem?_cons_succ, List.set_cons_zero, List.set_cons_succ, List.length_cons, List.length_nil, D.bl.injEq, exists_eq_left', decide_eq_true_eq, decide_eq_false_iff_not, Bool.not_eq_true', Bool.not_eq_false', Nat.zero_add, Nat.reduceAdd, true_and, and_true, forall_const, reduceCtorEq, not_true_eq_false, not_false_eq_true, false_implies, true_implies, implies_true, sz_line, Nat.reduceLeDiff, Int.reduceLE, Int.reduceLT, Int.reduceNeg, Int.reducePow, Int.reduceAdd, Int.reduceSub, Int.reduceMul, wipeD, List.reverse_cons, List.reverse_nil, List.nil_append, noOwnB, List.all_cons, List.all_nil, Bool.and_true, Bool.true_and, dDict]; exact ht
    simp only [↓wSeq_e, ↓wNext_e, ↓wBreak_e, ↓wCont_e, ↓wRet_e, ↓wRetN_e, ↓wDrop_e, ↓wIf_e, ↓wAnd_e, ↓wOr_e, ↓wNot_e, ↓wTst_e, ↓wAndV_e, ↓wOrV_e, ↓wNotV_e, ↓wIfE_e, ↓wChain_e, ↓wVar_e, ↓wPk_e, ↓wC_e, ↓wOp_e, ↓wUn_e, ↓wM1_e, ↓wTup_e, ↓wfLst_e, ↓wFz_e, ↓waNil_e, ↓waCons_e, ↓asNil_e, ↓asCons_e, ↓asBox_e, ↓wCall_e, ↓wAsg_e, ↓wSt_e, ↓wAsgO_e, ↓wTp_e, ↓wTpL_e, ↓wPar_e, ↓wStL_nil, ↓wStL_cons, ↓wFor_e, ↓wRg1_e, ↓wRg2_e, ↓wItL_e, ↓wItT_e, ↓wItS_e, ↓wApp_e, ↓woNone_e, ↓woSome_e, ↓wCut_e, ↓wBx1_e, ↓wBx0_e, ↓wBxPut_e, ↓wDraw_e, ↓wLSet_e, ↓wNever_e, ↓wFld_e, ↓wMeth_e, ↓wMake_e, ↓wFldN_e, ↓wZip_e, ↓wPut_e, ↓wfList_e, ↓wfDict_e, ↓wfDisp1_e, ↓wPop0_e, ↓wOFld_e, ↓wOFldS_e, ↓wOApp_e, ↓wOPut_e, ↓wFldNO_e, ↓wMethO_e, ↓wGet1_e, ↓wfCut_e, ↓wfDk_e, ↓wfDt_e, ↓wCopy_e, ↓wRowPk_e, ↓wPutRow_e, ↓wTru_e, ↓wLc_e, ↓wYes_e, ↓wAug_e, dLt, dLe, dGt, dGe, dSub, dMul, dMod, dFdiv, dPow, dI2, dI2C, dAdd, dEq, dNe, dLen, dInt, dIx_l, dIx_t, dIx_s, dList, dSum, dCut, atI_zero, atI_one, Option.some.injEq, dTru, dMax2, dMin2, dAddI, dEqS, dIs, dNotIs, dSortDI, obD, id_eq, List.getElem?_cons_zero, List.getElem?_cons_succ, List.set_cons_zero, List.set_cons_succ, List.length_cons, List.length_nil, D.bl.injEq, exists_eq_left', decide_eq_true_eq, decide_eq_false_iff_not, Bool.not_eq_true', Bool.not_eq_false', Nat.zero_add, Nat.reduceAdd, true_and, and_true, forall_const, reduceCtorEq, not_true_eq_false, not_false_eq_true, false_implies, true_implies, implies_true, sz_line, Nat.reduceLeDiff, Int.reduceLE, Int.reduceLT, Int.reduceNeg, Int.reducePow, Int.reduceAdd, Int.reduceSub, Int.reduceMul, wipeD, List.reverse_cons, List.reverse_nil, List.nil_append, noOwnB, List.all_cons, List.all_nil, Bool.and_true, Bool.true_and, List.cons_append]
    refine ⟨⟨nin2, by decide⟩, by omega, ?_⟩
    refine copy_lc (ρ := [_, _, _, _, _, .no]) (fun r Kt ht => ?_) ?_
    · simp only [↓wSeq_e, ↓wNext_e, ↓wBreak_e, ↓wCont_e, ↓wRet_e, ↓wRetN_e, ↓wDrop_e, ↓wIf_e, ↓wAnd_e, ↓wOr_e, ↓wNot_e, ↓wTst_e, ↓wAndV_e, ↓wOrV_e, ↓wNotV_e, ↓wIfE_e, ↓wChain_e, ↓wVar_e, ↓wPk_e, ↓wC_e, ↓wOp_e, ↓wUn_e, ↓wM1_e, ↓wTup_e, ↓wfLst_e, ↓wFz_e, ↓waNil_e, ↓waCons_e, ↓asNil_e, ↓asCons_e, ↓asBox_e, ↓wCall_e, ↓wAsg_e, ↓wSt_e, ↓wAsgO_e, ↓wTp_e, ↓wTpL_e, ↓wPar_e, ↓wStL_nil, ↓wStL_cons, ↓wFor_e, ↓wRg1_e, ↓wRg2_e, ↓wItL_e, ↓wItT_e, ↓wItS_e, ↓wApp_e, ↓woNone_e, ↓woSome_e, ↓wCut_e, ↓wBx1_e, ↓wBx0_e, ↓wBxPut_e, ↓wDraw_e, ↓wLSet_e, ↓wNever_e, ↓wFld_e, ↓wMeth_e, ↓wMake_e, ↓wFldN_e, ↓wZip_e, ↓wPut_e, ↓wfList_e, ↓wfDict_e, ↓wfDisp1_e, ↓wPop0_e, ↓wOFld_e, ↓wOFldS_e, ↓wOApp_e, ↓wOPut_e, ↓wFldNO_e, ↓wMethO_e, ↓wGet1_e, ↓wfCut_e, ↓wfDk_e, ↓wfDt_e, ↓wCopy_e, ↓wRowPk_e, ↓wPutRow_e, ↓wTru_e, ↓wLc_e, ↓wYes_e, ↓wAug_e, dLt, dLe, dGt, dGe, dSub, dMul, dMod, dFdiv, dPow, dI2, dI2C, dAdd, dEq, dNe, dLen, dInt, dIx_l, dIx_t, dIx_s, dList, dSum, dCut, atI_zero, atI_one, Option.some.injEq, dTru, dMax2, dMin2, dAddI, dEqS, dIs, dNotIs, dSortDI, obD, id_eq, List.getElem?_cons_zero, List.getElem?_cons_succ, List.set_cons_zero, List.set_cons_succ, List.length_cons, List.length_nil, D.bl.injEq, exists_eq_left', decide_eq_true_eq, decide_eq_false_iff_not, Bool.not_eq_true', Bool.not_eq_false', Nat.zero_add, Nat.reduceAdd, true_and, and_true, forall_const, reduceCtorEq, not_true_eq_false, not_false_eq_true, false_implies, true_implies, implies_true, sz_line, Nat.reduceLeDiff, Int.reduceLE, Int.reduceLT, Int.reduceNeg, Int.reducePow, Int.reduceAdd, Int.reduceSub, Int.reduceMul, wipeD, List.reverse_cons, List.reverse_nil, List.nil_append, noOwnB, List.all_cons, List.all_nil, Bool.and_true, Bool.true_and, dDict]; exact ht
    simp only [↓wSeq_e, ↓wNext_e, ↓wBreak_e, ↓wCont_e, ↓wRet_e, ↓wRetN_e, ↓wDrop_e, ↓wIf_e, ↓wAnd_e, ↓wOr_e, ↓wNot_e, ↓wTst_e, ↓wAndV_e, ↓wOrV_e, ↓wNotV_e, ↓wIfE_e, ↓wChain_e, ↓wVar_e, ↓wPk_e, ↓wC_e, ↓wOp_e, ↓wUn_e, ↓wM1_e, ↓wTup_e, ↓wfLst_e, ↓wFz_e, ↓waNil_e, ↓waCons_e, ↓asNil_e, ↓asCons_e, ↓asBox_e, ↓wCall_e, ↓wAsg_e, ↓wSt_e, ↓wAsgO_e, ↓wTp_e, ↓wTpL_e, ↓wPar_e, ↓wStL_nil, ↓wStL_cons, ↓wFor_e, ↓wRg1_e, ↓wRg2_e, ↓wItL_e, ↓wItT_e, ↓wItS_e, ↓wApp_e, ↓woNone_e, ↓woSome_e, ↓wCut_e, ↓wBx1_e, ↓wBx0_e, ↓wBxPut_e, ↓wDraw_e, ↓wLSet_e, ↓wNever_e, ↓wFld_e, ↓wMeth_e, ↓wMake_e, ↓wFldN_e, ↓wZip_e, ↓wPut_e, ↓wfList_e, ↓wfDict_e, ↓wfDisp1_e, ↓wPop0_e, ↓wOFld_e, ↓wOFldS_e, ↓wOApp_e, ↓wOPut_e, ↓wFldNO_e, ↓wMethO_e, ↓wGet1_e, ↓wfCut_e, ↓wfDk_e, ↓wfDt_e, ↓wCopy_e, ↓wRowPk_e, ↓wPutRow_e, ↓wTru_e, ↓wLc_e, ↓wYes_e, ↓wAug_e, dLt, dLe, dGt, dGe, dSub, dMul, dMod, dFdiv, dPow, dI2, dI2C, dAdd, dEq, dNe, dLen, dInt, dIx_l, dIx_t, dIx_s, dList, dSum, dCut, atI_zero, atI_one, Option.some.injEq, dTru, dMax2, dMin2, dAddI, dEqS, dIs, dNotIs, dSortDI, obD, id_eq, List.getElem?_cons_zero, List.getElem?_cons_succ, List.set_cons_zero, List.set_cons_succ, List.length_cons, List.length_nil, D.bl.injEq, exists_eq_left', decide_eq_true_eq, decide_eq_false_iff_not, Bool.not_eq_true', Bool.not_eq_false', Nat.zero_add, Nat.reduceAdd, true_and, and_true, forall_const, reduceCtorEq, not_true_eq_false, not_false_eq_true, false_implies, true_implies, implies_true, sz_line, Nat.reduceLeDiff, Int.reduceLE, Int.reduceLT, Int.reduceNeg, Int.reducePow, Int.reduceAdd, Int.reduceSub, Int.reduceMul, wipeD, List.reverse_cons, List.reverse_nil, List.nil_append, noOwnB, List.all_cons, List.all_nil, Bool.and_true, Bool.true_and, List.cons_append, List.nil_append]
    refine ⟨⟨nin3, by decide⟩, ⟨nin4, by decide⟩, ?_⟩
    refine ⟨_, ?_, q⟩
    exact ⟨⟨rfl, _, rfl⟩, rfl, rfl, rfl, rfl, rfl⟩
  · exact h.elim
/-! ### Carry.__init__ -/
def wf_Carry_init : WFo
  | [.od x (.ins n [] []), .sh (.lst fs), .sh (.lst st)], Q => n = "Carry" ∧ fs.length ≤ 1000 ∧ st.length ≤ 1000 ∧
    Q .non [.od x (.ins n ["to", "cost"] [.sh (.lst fs), .sh (.lst st)]), .sh (.lst fs), .sh (.lst st)]
  | _, _ => False
theorem len_Carry_init : ∀ as Qd, wf_Carry_init as Qd → as.length = 3 := fun as Qd h => by
  unfold wf_Carry_init at h
  split at h
  · rfl
  · exact h.elim
theorem nin5 : ("cost" : Str) ∉ (["to"] : List Str) := by decide +kernel

def w_Carry_init : WS := (wSeq (wFldN 0 "Carry" "to" (wUn dList (wPk 1)))
 (wFldN 0 "Carry" "cost" (wUn dList (wPk 2))))

theorem p_Carry_init : ∀ as Qd, wf_Carry_init as Qd → w_Carry_init (startD ["self", "to", "cost"] as) { nx := fun ρ => ∃ as2, back as ρ as2 ∧ Qd .non as2, rt := fun d ρ => ∃ as2, back as ρ as2 ∧ Qd d as2 } := fun as Qd h => by
  unfold wf_Carry_init at h
  split at h
  · rename_i x n fs st
    obtain ⟨rfl, l1, l2, q⟩ := h
    show w_Carry_init [.od x (.ins "Carry" [] []), .sh (.lst fs), .sh (.lst st)] _
    simp only [w_Carry_init, ↓wSeq_e, ↓wNext_e, ↓wBreak_e, ↓wCont_e, ↓wRet_e, ↓wRetN_e, ↓wDrop_e, ↓wIf_e, ↓wAnd_e, ↓wOr_e, ↓wNot_e, ↓wTst_e, ↓wAndV_e, ↓wOrV_e, ↓wNotV_e, ↓wIfE_e, ↓wChain_e, ↓wVar_e, ↓wPk_e, ↓wC_e, ↓wOp_e, ↓wUn_e, ↓wM1_e, ↓wTup_e, ↓wfLst_e, ↓wFz_e, ↓waNil_e, ↓waCons_e, ↓asNil_e, ↓asCons_e, ↓asBox_e, ↓wCall_e, ↓wAsg_e, ↓wSt_e, ↓wAsgO_e, ↓wTp_e, ↓wTpL_e, ↓wPar_e, ↓wStL_nil, ↓wStL_cons, ↓wFor_e, ↓wRg1_e, ↓wRg2_e, ↓wItL_e, ↓wItT_e, ↓wItS_e, ↓wApp_e, ↓woNone_e, ↓woSome_e, ↓wCut_e, ↓wBx1_e, ↓wBx0_e, ↓wBxPut_e, ↓wDraw_e, ↓wLSet_e, ↓wNever_e, ↓wFld_e, ↓wMeth_e, ↓wMake_e, ↓wFldN_e, ↓wZip_e, ↓wPut_e, ↓wfList_e, ↓wfDict_e, ↓wfDisp1_e, ↓wPop0_e, ↓wOFld_e, ↓wOFldS_e, ↓wOApp_e, ↓wOPut_e, ↓wFldNO_e, ↓wMethO_e, ↓wGet1_e, ↓wfCut_e, ↓wfDk_e, ↓wfDt_e, ↓wCopy_e, ↓wRowPk_e, ↓wPutRow_e, ↓wTru_e, ↓wLc_e, ↓wYes_e, ↓wAug_e, dLt, dLe, dGt, dGe, dSub, dMul, dMod, dFdiv, dPow, dI2, dI2C, dAdd, dEq, dNe, dLen, dInt, dIx_l, dIx_t, dIx_s, dList, dSum, dCut, atI_zero, atI_one, Option.some.injEq, dTru, dMax2, dMin2, dAddI, dEqS, dIs, dNotIs, dSortDI, obD, id_eq, List.getElem?_cons_zero, List.getElem?_cons_succ, List.set_cons_zero, List.set_cons_succ, List.length_cons, List.length_nil, D.bl.injEq, exists_eq_left', decide_eq_true_eq, decide_eq_false_iff_not, Bool.not_eq_true', Bool.not_eq_false', Nat.zero_add, Nat.reduceAdd, true_and, and_true, forall_const, reduceCtorEq, not_true_eq_false, not_false_eq_true, false_implies, true_implies, implies_true, sz_line, Nat.reduceLeDiff, Int.reduceLE, Int.reduceLT, Int.reduceNeg, Int.reducePow, Int.reduceAdd, Int.reduceSub, Int.reduceMul, List.nil_append, List.cons_append]
    refine ⟨⟨by simp, by decide⟩, ⟨nin5, by decide⟩, ?_⟩
    refine ⟨_, ?_, q⟩
    exact ⟨⟨rfl, _, rfl⟩, rfl, rfl, rfl⟩
  · exact h.elim
/-! ### _law_cell -/
def wf__law_cell : WFn
  | [.sh (.scr ds), .sh (.int k)], Q => (∃ ns : List Int, ds = ns.map D.int) ∧ 0 ≤ k ∧ ∀ z, Q (.int z)
  | _, _ => False
theorem len__law_cell : ∀ as Qd, wf__law_cell as Qd → as.length = 2 := fun as Qd h => by
  unfold wf__law_cell at h
  split at h
  · rfl
  · exact h.elim

def w__law_cell : WS := (wSeq (wIf (wTst (wOp dLt (wPk 1) (wUn dLen (wPk 0))))
 (wRet (wOp dIx (wPk 0) (wPk 1)))
 wNext)
 (wRet (wC (.int 0))))

theorem p__law_cell : ∀ as Qd, wf__law_cell as Qd → w__law_cell (startD ["_law_script", "_law_k"] as) { nx := fun _ => Qd .non, rt := fun d _ => Qd d } := fun as Qd h => by
  unfold wf__law_cell at h
  split at h
  · obtain ⟨⟨ns, rfl⟩, hk, q⟩ := h
    show w__law_cell [.sh _, .sh _] _
    simp only [w__law_cell, ↓wSeq_e, ↓wNext_e, ↓wBreak_e, ↓wCont_e, ↓wRet_e, ↓wRetN_e, ↓wDrop_e, ↓wIf_e, ↓wAnd_e, ↓wOr_e, ↓wNot_e, ↓wTst_e, ↓wAndV_e, ↓wOrV_e, ↓wNotV_e, ↓wIfE_e, ↓wChain_e, ↓wVar_e, ↓wPk_e, ↓wC_e, ↓wOp_e, ↓wUn_e, ↓wM1_e, ↓wTup_e, ↓wfLst_e, ↓wFz_e, ↓waNil_e, ↓waCons_e, ↓asNil_e, ↓asCons_e, ↓asBox_e, ↓wCall_e, ↓wAsg_e, ↓wSt_e, ↓wAsgO_e, ↓wTp_e, ↓wTpL_e, ↓wPar_e, ↓wStL_nil, ↓wStL_cons, ↓wFor_e, ↓wRg1_e, ↓wRg2_e, ↓wItL_e, ↓wItT_e, ↓wItS_e, ↓wApp_e, ↓woNone_e, ↓woSome_e, ↓wCut_e, ↓wBx1_e, ↓wBx0_e, ↓wBxPut_e, ↓wDraw_e, ↓wLSet_e, ↓wNever_e, ↓wFld_e, ↓wMeth_e, ↓wMake_e, ↓wFldN_e, ↓wZip_e, ↓wPut_e, ↓wfList_e, ↓wfDict_e, ↓wfDisp1_e, ↓wPop0_e, ↓wOFld_e, ↓wOFldS_e, ↓wOApp_e, ↓wOPut_e, ↓wFldNO_e, ↓wMethO_e, ↓wGet1_e, ↓wfCut_e, ↓wfDk_e, ↓wfDt_e, ↓wCopy_e, ↓wRowPk_e, ↓wPutRow_e, ↓wTru_e, ↓wLc_e, ↓wYes_e, ↓wAug_e, dLt, dLe, dGt, dGe, dSub, dMul, dMod, dFdiv, dPow, dI2, dI2C, dAdd, dEq, dNe, dLen, dInt, dIx_l, dIx_t, dIx_s, dList, dSum, dCut, atI_zero, atI_one, Option.some.injEq, dTru, dMax2, dMin2, dAddI, dEqS, dIs, dNotIs, dSortDI, obD, id_eq, List.getElem?_cons_zero, List.getElem?_cons_succ, List.set_cons_zero, List.set_cons_succ, List.length_cons, List.length_nil, D.bl.injEq, exists_eq_left', decide_eq_true_eq, decide_eq_false_iff_not, Bool.not_eq_true', Bool.not_eq_false', Nat.zero_add, Nat.reduceAdd, true_and, and_true, forall_const, reduceCtorEq, not_true_eq_false, not_false_eq_true, false_implies, true_implies, implies_true, sz_line, Nat.reduceLeDiff, Int.reduceLE, Int.reduceLT, Int.reduceNeg, Int.reducePow, Int.reduceAdd, Int.reduceSub, Int.reduceMul]
    refine ⟨fun hc => ?_, fun _ => q 0⟩
    rw [List.length_map] at hc
    obtain ⟨n, _, _, e⟩ := atI_map (f := D.int) hk hc
    exact ⟨_, e, q n⟩
  · exact h.elim
/-! ### _law_row -/
def wf__law_row : WFn
  | [.sh (.int z), .sh (.int k), .sh (.int m)], Q => 0 ≤ m ∧ m ≤ 1000000 ∧ ∀ ns : List Int, (ns.length : Int) ≤ m → Q (.lst (ns.map D.int))
  | _, _ => False
theorem len__law_row : ∀ as Qd, wf__law_row as Qd → as.length = 3 := fun as Qd h => by
  unfold wf__law_row at h
  split at h
  · rfl
  · exact h.elim

def w__law_row : WS := (wSeq (wAsgO (wfLst waNil) 3)
 (wSeq (wIf (wTst (wOp dLt (wPk 0) (wC (.int 0))))
 (wAsg (wOp dSub (wC (.int 1)) (wOp dMul (wC (.int 2)) (wPk 0))) (wSt 0))
 wNext)
 (wSeq (wIf (wTst (wOp dGe (wPk 0) (wOp dPow (wC (.int 10)) (wC (.int 18)))))
 (wSeq (wFor (wRg1 (waCons (wC (.int 60)) waNil)) (wSt 4)
 (wIf (wAnd (wTst (wOp dGt (wPk 0) (wC (.int 0)))) (wTst (wOp dLt (wUn dLen (wPk 3)) (wPk 2))))
 (wSeq (wApp 3 (wOp dMod (wUn dInt (wPk 0)) (wC (.int 1000))))
 (wAsg (wOp dFdiv (wPk 0) (wC (.int 1000))) (wSt 0)))
 wNext))
 (wRet (wVar 3)))
 wNext)
 (wSeq (wAsg (wOp dMod (wUn dInt (wOp dAdd (wOp dAdd (wOp dMul (wPk 0) (wC (.int 48271))) (wOp dMul (wPk 1) (wC (.int 69621)))) (wC (.int 11)))) (wC (.int 2147483647))) (wSt 5))
 (wSeq (wFor (wRg1 (waCons (wVar 2) waNil)) (wSt 4)
 (wSeq (wAsg (wOp dMod (wUn dInt (wOp dAdd (wOp dAdd (wOp dMul (wPk 5) (wC (.int 16807))) (wOp dMul (wC (.int 7)) (wPk 4))) (wC (.int 1)))) (wC (.int 2147483647))) (wSt 5))
 (wApp 3 (wOp dMod (wUn dInt (wOp dFdiv (wPk 5) (wC (.int 997)))) (wC (.int 1000))))))
 (wRet (wVar 3)))))))

theorem p__law_row : ∀ as Qd, wf__law_row as Qd → w__law_row (startD ["_law_cell_here", "_law_k", "_law_many", "_law_row_here", "_law_turn", "_law_seed"] as) { nx := fun _ => Qd .non, rt := fun d _ => Qd d } := fun as Qd h => by
  unfold wf__law_row at h
  split at h
  · rename_i z k m
    obtain ⟨hm0, hm1, q⟩ := h
    show w__law_row [.sh (.int z), .sh (.int k), .sh (.int m), .no, .no, .no] _
    simp only [w__law_row, ↓wSeq_e, ↓wNext_e, ↓wBreak_e, ↓wCont_e, ↓wRet_e, ↓wRetN_e, ↓wDrop_e, ↓wIf_e, ↓wAnd_e, ↓wOr_e, ↓wNot_e, ↓wTst_e, ↓wAndV_e, ↓wOrV_e, ↓wNotV_e, ↓wIfE_e, ↓wChain_e, ↓wVar_e, ↓wPk_e, ↓wC_e, ↓wOp_e, ↓wUn_e, ↓wM1_e, ↓wTup_e, ↓wfLst_e, ↓wFz_e, ↓waNil_e, ↓waCons_e, ↓asNil_e, ↓asCons_e, ↓asBox_e, ↓wCall_e, ↓wAsg_e, ↓wSt_e, ↓wAsgO_e, ↓wTp_e, ↓wTpL_e, ↓wPar_e, ↓wStL_nil, ↓wStL_cons, ↓wFor_e, ↓wRg1_e, ↓wRg2_e, ↓wItL_e, ↓wItT_e, ↓wItS_e, ↓wApp_e, ↓woNone_e, ↓woSome_e, ↓wCut_e, ↓wBx1_e, ↓wBx0_e, ↓wBxPut_e, ↓wDraw_e, ↓wLSet_e, ↓wNever_e, ↓wFld_e, ↓wMeth_e, ↓wMake_e, ↓wFldN_e, ↓wZip_e, ↓wPut_e, ↓wfList_e, ↓wfDict_e, ↓wfDisp1_e, ↓wPop0_e, ↓wOFld_e, ↓wOFldS_e, ↓wOApp_e, ↓wOPut_e, ↓wFldNO_e, ↓wMethO_e, ↓wGet1_e, ↓wfCut_e, ↓wfDk_e, ↓wfDt_e, ↓wCopy_e, ↓wRowPk_e, ↓wPutRow_e, ↓wTru_e, ↓wLc_e, ↓wYes_e, ↓wAug_e, dLt, dLe, dGt, dGe, dSub, dMul, dMod, dFdiv, dPow, dI2, dI2C, dAdd, dEq, dNe, dLen, dInt, dIx_l, dIx_t, dIx_s, dList, dSum, dCut, atI_zero, atI_one, Option.some.injEq, dTru, dMax2, dMin2, dAddI, dEqS, dIs, dNotIs, dSortDI, obD, id_eq, List.getElem?_cons_zero, List.getElem?_cons_succ, List.set_cons_zero, List.set_cons_succ, List.length_cons, List.length_nil, D.bl.injEq, exists_eq_left', decide_eq_true_eq, decide_eq_false_iff_not, Bool.not_eq_true', Bool.not_eq_false', Nat.zero_add, Nat.reduceAdd, true_and, and_true, forall_const, reduceCtorEq, not_true_eq_false, not_false_eq_true, false_implies, true_implies, implies_true, sz_line, Nat.reduceLeDiff, Int.reduceLE, Int.reduceLT, Int.reduceNeg, Int.reducePow, Int.reduceAdd, Int.reduceSub, Int.reduceMul]
    refine ⟨fun _ => ⟨.inl (by decide), ?_⟩, fun _ => ?_⟩
    all_goals
      refine ⟨⟨by decide, by decide, by decide⟩, fun _ => ?_, fun _ => ⟨.inr (by decide), .inr (by decide), by omega, ?_⟩⟩
      · refine wForL_rule (fun _ ρ => ∃ (z : Int) (ns : List Int) (s4 : Sl), ρ = [.sh (.int z), .sh (.int k), .sh (.int m), .ol (ns.map D.int), s4, .no] ∧ (ns.length : Int) ≤ m) ?_ ?_ _ _ ⟨_, [], _, rfl, hm0⟩
        · rintro d r ρ ⟨z, ns, s4, rfl, hl⟩ C hC
          simp only [↓wSeq_e, ↓wNext_e, ↓wBreak_e, ↓wCont_e, ↓wRet_e, ↓wRetN_e, ↓wDrop_e, ↓wIf_e, ↓wAnd_e, ↓wOr_e, ↓wNot_e, ↓wTst_e, ↓wAndV_e, ↓wOrV_e, ↓wNotV_e, ↓wIfE_e, ↓wChain_e, ↓wVar_e, ↓wPk_e, ↓wC_e, ↓wOp_e, ↓wUn_e, ↓wM1_e, ↓wTup_e, ↓wfLst_e, ↓wFz_e, ↓waNil_e, ↓waCons_e, ↓asNil_e, ↓asCons_e, ↓asBox_e, ↓wCall_e, ↓wAsg_e, ↓wSt_e, ↓wAsgO_e, ↓wTp_e, ↓wTpL_e, ↓wPar_e, ↓wStL_nil, ↓wStL_cons, ↓wFor_e, ↓wRg1_e, ↓wRg2_e, ↓wItL_e, ↓wItT_e, ↓wItS_e, ↓wApp_e, ↓woNone_e, ↓woSome_e, ↓wCut_e, ↓wBx1_e, ↓wBx0_e, ↓wBxPut_e, ↓wDraw_e, ↓wLSet_e, ↓wNever_e, ↓wFld_e, ↓wMeth_e, ↓wMake_e, ↓wFldN_e, ↓wZip_e, ↓wPut_e, ↓wfList_e, ↓wfDict_e, ↓wfDisp1_e, ↓wPop0_e, ↓wOFld_e, ↓wOFldS_e, ↓wOApp_e, ↓wOPut_e, ↓wFldNO_e, ↓wMethO_e, ↓wGet1_e, ↓wfCut_e, ↓wfDk_e, ↓wfDt_e, ↓wCopy_e, ↓wRowPk_e, ↓wPutRow_e, ↓wTru_e, ↓wLc_e, ↓wYes_e, ↓wAug_e, dLt, dLe, dGt, dGe, dSub, dMul, dMod, dFdiv, dPow, dI2, dI2C, dAdd, dEq, dNe, dLen, dInt, dIx_l, dIx_t, dIx_s, dList, dSum, dCut, atI_zero, atI_one, Option.some.injEq, dTru, dMax2, dMin2, dAddI, dEqS, dIs, dNotIs, dSortDI, obD, id_eq, List.getElem?_cons_zero, List.getElem?_cons_succ, List.set_cons_zero, List.set_cons_succ, List.length_cons, List.length_nil, D.bl.injEq, exists_eq_left', decide_eq_true_eq, decide_eq_false_iff_not, Bool.not_eq_true', Bool.not_eq_false', Nat.zero_add, Nat.reduceAdd, true_and, and_true, forall_const, reduceCtorEq, not_true_eq_false, not_false_eq_true, false_implies, true_implies, implies_true, sz_line, Nat.reduceLeDiff, Int.reduceLE, Int.reduceLT, Int.reduceNeg, Int.reducePow, Int.reduceAdd, Int.reduceSub, Int.reduceMul, List.length_map]
          refine ⟨fun _ => ⟨fun hc => ⟨by omega, ⟨by decide, by decide⟩, ?_⟩, fun _ => ?_⟩, fun _ => ?_⟩
          · exact hC _ ⟨z / 1000, ns ++ [z % 1000], _, by rw [List.map_append]; rfl, by simp; omega⟩
          · exact hC _ ⟨z, ns, _, rfl, hl⟩
          · exact hC _ ⟨z, ns, _, rfl, hl⟩
        · rintro ρ ⟨z, ns, s4, rfl, hl⟩
          simp only [↓wSeq_e, ↓wNext_e, ↓wBreak_e, ↓wCont_e, ↓wRet_e, ↓wRetN_e, ↓wDrop_e, ↓wIf_e, ↓wAnd_e, ↓wOr_e, ↓wNot_e, ↓wTst_e, ↓wAndV_e, ↓wOrV_e, ↓wNotV_e, ↓wIfE_e, ↓wChain_e, ↓wVar_e, ↓wPk_e, ↓wC_e, ↓wOp_e, ↓wUn_e, ↓wM1_e, ↓wTup_e, ↓wfLst_e, ↓wFz_e, ↓waNil_e, ↓waCons_e, ↓asNil_e, ↓asCons_e, ↓asBox_e, ↓wCall_e, ↓wAsg_e, ↓wSt_e, ↓wAsgO_e, ↓wTp_e, ↓wTpL_e, ↓wPar_e, ↓wStL_nil, ↓wStL_cons, ↓wFor_e, ↓wRg1_e, ↓wRg2_e, ↓wItL_e, ↓wItT_e, ↓wItS_e, ↓wApp_e, ↓woNone_e, ↓woSome_e, ↓wCut_e, ↓wBx1_e, ↓wBx0_e, ↓wBxPut_e, ↓wDraw_e, ↓wLSet_e, ↓wNever_e, ↓wFld_e, ↓wMeth_e, ↓wMake_e, ↓wFldN_e, ↓wZip_e, ↓wPut_e, ↓wfList_e, ↓wfDict_e, ↓wfDisp1_e, ↓wPop0_e, ↓wOFld_e, ↓wOFldS_e, ↓wOApp_e, ↓wOPut_e, ↓wFldNO_e, ↓wMethO_e, ↓wGet1_e, ↓wfCut_e, ↓wfDk_e, ↓wfDt_e, ↓wCopy_e, ↓wRowPk_e, ↓wPutRow_e, ↓wTru_e, ↓wLc_e, ↓wYes_e, ↓wAug_e, dLt, dLe, dGt, dGe, dSub, dMul, dMod, dFdiv, dPow, dI2, dI2C, dAdd, dEq, dNe, dLen, dInt, dIx_l, dIx_t, dIx_s, dList, dSum, dCut, atI_zero, atI_one, Option.some.injEq, dTru, dMax2, dMin2, dAddI, dEqS, dIs, dNotIs, dSortDI, obD, id_eq, List.getElem?_cons_zero, List.getElem?_cons_succ, List.set_cons_zero, List.set_cons_succ, List.length_cons, List.length_nil, D.bl.injEq, exists_eq_left', decide_eq_true_eq, decide_eq_false_iff_not, Bool.not_eq_true', Bool.not_eq_false', Nat.zero_add, Nat.reduceAdd, true_and, and_true, forall_const, reduceCtorEq, not_true_eq_false, not_false_eq_true, false_implies, true_implies, implies_true, sz_line, Nat.reduceLeDiff, Int.reduceLE, Int.reduceLT, Int.reduceNeg, Int.reducePow, Int.reduceAdd, Int.reduceSub, Int.reduceMul]
          exact q ns hl
      · refine wForL_rule (fun r ρ => ∃ (z : Int) (ns : List Int) (s4 : Sl) (y : Int), ρ = [.sh (.int z), .sh (.int k), .sh (.int m), .ol (ns.map D.int), s4, .sh (.int y)] ∧ ns.length + r.length ≤ m.toNat ∧ ∀ d ∈ r, ∃ i, d = D.int i) ?_ ?_ _ _ ⟨_, [], _, _, rfl, ?_, ?_⟩
        · rintro d r ρ ⟨z, ns, s4, y, rfl, hl, hr⟩ C hC
          obtain ⟨i, rfl⟩ := hr d List.mem_cons_self
          rw [List.length_cons] at hl
          simp only [↓wSeq_e, ↓wNext_e, ↓wBreak_e, ↓wCont_e, ↓wRet_e, ↓wRetN_e, ↓wDrop_e, ↓wIf_e, ↓wAnd_e, ↓wOr_e, ↓wNot_e, ↓wTst_e, ↓wAndV_e, ↓wOrV_e, ↓wNotV_e, ↓wIfE_e, ↓wChain_e, ↓wVar_e, ↓wPk_e, ↓wC_e, ↓wOp_e, ↓wUn_e, ↓wM1_e, ↓wTup_e, ↓wfLst_e, ↓wFz_e, ↓waNil_e, ↓waCons_e, ↓asNil_e, ↓asCons_e, ↓asBox_e, ↓wCall_e, ↓wAsg_e, ↓wSt_e, ↓wAsgO_e, ↓wTp_e, ↓wTpL_e, ↓wPar_e, ↓wStL_nil, ↓wStL_cons, ↓wFor_e, ↓wRg1_e, ↓wRg2_e, ↓wItL_e, ↓wItT_e, ↓wItS_e, ↓wApp_e, ↓woNone_e, ↓woSome_e, ↓wCut_e, ↓wBx1_e, ↓wBx0_e, ↓wBxPut_e, ↓wDraw_e, ↓wLSet_e, ↓wNever_e, ↓wFld_e, ↓wMeth_e, ↓wMake_e, ↓wFldN_e, ↓wZip_e, ↓wPut_e, ↓wfList_e, ↓wfDict_e, ↓wfDisp1_e, ↓wPop0_e, ↓wOFld_e, ↓wOFldS_e, ↓wOApp_e, ↓wOPut_e, ↓wFldNO_e, ↓wMethO_e, ↓wGet1_e, ↓wfCut_e, ↓wfDk_e, ↓wfDt_e, ↓wCopy_e, ↓wRowPk_e, ↓wPutRow_e, ↓wTru_e, ↓wLc_e, ↓wYes_e, ↓wAug_e, dLt, dLe, dGt, dGe, dSub, dMul, dMod, dFdiv, dPow, dI2, dI2C, dAdd, dEq, dNe, dLen, dInt, dIx_l, dIx_t, dIx_s, dList, dSum, dCut, atI_zero, atI_one, Option.some.injEq, dTru, dMax2, dMin2, dAddI, dEqS, dIs, dNotIs, dSortDI, obD, id_eq, List.getElem?_cons_zero, List.getElem?_cons_succ, List.set_cons_zero, List.set_cons_succ, List.length_cons, List.length_nil, D.bl.injEq, exists_eq_left', decide_eq_true_eq, decide_eq_false_iff_not, Bool.not_eq_true', Bool.not_eq_false', Nat.zero_add, Nat.reduceAdd, true_and, and_true, forall_const, reduceCtorEq, not_true_eq_false, not_false_eq_true, false_implies, true_implies, implies_true, sz_line, Nat.reduceLeDiff, Int.reduceLE, Int.reduceLT, Int.reduceNeg, Int.reducePow, Int.reduceAdd, Int.reduceSub, Int.reduceMul, List.length_map]
          refine ⟨.inr (by decide), .inl (by decide), ⟨by decide, by decide⟩, by omega, ?_⟩
          exact hC _ ⟨z, ns ++ [_], _, _, by rw [List.map_append]; rfl, by simp; omega, fun d hd => hr d (List.mem_cons_of_mem _ hd)⟩
        · rintro ρ ⟨z, ns, s4, y, rfl, hl, _⟩
          simp only [↓wSeq_e, ↓wNext_e, ↓wBreak_e, ↓wCont_e, ↓wRet_e, ↓wRetN_e, ↓wDrop_e, ↓wIf_e, ↓wAnd_e, ↓wOr_e, ↓wNot_e, ↓wTst_e, ↓wAndV_e, ↓wOrV_e, ↓wNotV_e, ↓wIfE_e, ↓wChain_e, ↓wVar_e, ↓wPk_e, ↓wC_e, ↓wOp_e, ↓wUn_e, ↓wM1_e, ↓wTup_e, ↓wfLst_e, ↓wFz_e, ↓waNil_e, ↓waCons_e, ↓asNil_e, ↓asCons_e, ↓asBox_e, ↓wCall_e, ↓wAsg_e, ↓wSt_e, ↓wAsgO_e, ↓wTp_e, ↓wTpL_e, ↓wPar_e, ↓wStL_nil, ↓wStL_cons, ↓wFor_e, ↓wRg1_e, ↓wRg2_e, ↓wItL_e, ↓wItT_e, ↓wItS_e, ↓wApp_e, ↓woNone_e, ↓woSome_e, ↓wCut_e, ↓wBx1_e, ↓wBx0_e, ↓wBxPut_e, ↓wDraw_e, ↓wLSet_e, ↓wNever_e, ↓wFld_e, ↓wMeth_e, ↓wMake_e, ↓wFldN_e, ↓wZip_e, ↓wPut_e, ↓wfList_e, ↓wfDict_e, ↓wfDisp1_e, ↓wPop0_e, ↓wOFld_e, ↓wOFldS_e, ↓wOApp_e, ↓wOPut_e, ↓wFldNO_e, ↓wMethO_e, ↓wGet1_e, ↓wfCut_e, ↓wfDk_e, ↓wfDt_e, ↓wCopy_e, ↓wRowPk_e, ↓wPutRow_e, ↓wTru_e, ↓wLc_e, ↓wYes_e, ↓wAug_e, dLt, dLe, dGt, dGe, dSub, dMul, dMod, dFdiv, dPow, dI2, dI2C, dAdd, dEq, dNe, dLen, dInt, dIx_l, dIx_t, dIx_s, dList, dSum, dCut, atI_zero, atI_one, Option.some.injEq, dTru, dMax2, dMin2, dAddI, dEqS, dIs, dNotIs, dSortDI, obD, id_eq, List.getElem?_cons_zero, List.getElem?_cons_succ, List.set_cons_zero, List.set_cons_succ, List.length_cons, List.length_nil, D.bl.injEq, exists_eq_left', decide_eq_true_eq, decide_eq_false_iff_not, Bool.not_eq_true', Bool.not_eq_false', Nat.zero_add, Nat.reduceAdd, true_and, and_true, forall_const, reduceCtorEq, not_true_eq_false, not_false_eq_true, false_implies, true_implies, implies_true, sz_line, Nat.reduceLeDiff, Int.reduceLE, Int.reduceLT, Int.reduceNeg, Int.reducePow, Int.reduceAdd, Int.reduceSub, Int.reduceMul]
          exact q ns (by simp at hl; omega)
        · rw [rangeD_length]; simp
        · intro d hd
          obtain ⟨i, e, _⟩ := rangeD_mem hd
          exact ⟨i, e⟩
  · exact h.elim
/-! ### _law_box -/
def wf__law_box : WFn
  | [.sh (.scr ds), .sh (.int lo), .sh (.int hi)], Q => (∃ ns : List Int, ds = ns.map D.int) ∧ 0 ≤ lo ∧ lo ≤ hi ∧ hi ≤ 10000 ∧ ∀ ns : List Int, Q (.lst [.lst (ns.map D.int), .int 0])
  | _, _ => False
theorem len__law_box : ∀ as Qd, wf__law_box as Qd → as.length = 3 := fun as Qd h => by
  unfold wf__law_box at h
  split at h
  · rfl
  · exact h.elim

def w__law_box : WS := (wSeq (wAsg (wFz (wfLst waNil)) (wSt 3))
 (wSeq (wFor (wRg2 (waCons (wVar 1) (waCons (wVar 2) waNil))) (wSt 4)
 (wAsg (wOp dAdd (wPk 3) (wCall wf__law_row (asCons (wCall wf__law_cell (asCons (wVar 0) (asCons (wVar 4) asNil))) (asCons (wVar 4) (asCons (wC (.int 12)) asNil))))) (wSt 3)))
 (wRet (wFz (wfLst (waCons (wVar 3) (waCons (wC (.int 0)) waNil)))))))

theorem p__law_box : ∀ as Qd, wf__law_box as Qd → w__law_box (startD ["_law_script", "_law_first", "_law_last", "_law_row_here", "_law_k"] as) { nx := fun _ => Qd .non, rt := fun d _ => Qd d } := fun as Qd h => by
  unfold wf__law_box at h
  split at h
  · rename_i _ _ ds lo hi
    obtain ⟨⟨sc, rfl⟩, h0, h1, h2, q⟩ := h
    show w__law_box [.sh (.scr (sc.map D.int)), .sh (.int lo), .sh (.int hi), .no, .no] _
    simp only [w__law_box, ↓wSeq_e, ↓wNext_e, ↓wBreak_e, ↓wCont_e, ↓wRet_e, ↓wRetN_e, ↓wDrop_e, ↓wIf_e, ↓wAnd_e, ↓wOr_e, ↓wNot_e, ↓wTst_e, ↓wAndV_e, ↓wOrV_e, ↓wNotV_e, ↓wIfE_e, ↓wChain_e, ↓wVar_e, ↓wPk_e, ↓wC_e, ↓wOp_e, ↓wUn_e, ↓wM1_e, ↓wTup_e, ↓wfLst_e, ↓wFz_e, ↓waNil_e, ↓waCons_e, ↓asNil_e, ↓asCons_e, ↓asBox_e, ↓wCall_e, ↓wAsg_e, ↓wSt_e, ↓wAsgO_e, ↓wTp_e, ↓wTpL_e, ↓wPar_e, ↓wStL_nil, ↓wStL_cons, ↓wFor_e, ↓wRg1_e, ↓wRg2_e, ↓wItL_e, ↓wItT_e, ↓wItS_e, ↓wApp_e, ↓woNone_e, ↓woSome_e, ↓wCut_e, ↓wBx1_e, ↓wBx0_e, ↓wBxPut_e, ↓wDraw_e, ↓wLSet_e, ↓wNever_e, ↓wFld_e, ↓wMeth_e, ↓wMake_e, ↓wFldN_e, ↓wZip_e, ↓wPut_e, ↓wfList_e, ↓wfDict_e, ↓wfDisp1_e, ↓wPop0_e, ↓wOFld_e, ↓wOFldS_e, ↓wOApp_e, ↓wOPut_e, ↓wFldNO_e, ↓wMethO_e, ↓wGet1_e, ↓wfCut_e, ↓wfDk_e, ↓wfDt_e, ↓wCopy_e, ↓wRowPk_e, ↓wPutRow_e, ↓wTru_e, ↓wLc_e, ↓wYes_e, ↓wAug_e, dLt, dLe, dGt, dGe, dSub, dMul, dMod, dFdiv, dPow, dI2, dI2C, dAdd, dEq, dNe, dLen, dInt, dIx_l, dIx_t, dIx_s, dList, dSum, dCut, atI_zero, atI_one, Option.some.injEq, dTru, dMax2, dMin2, dAddI, dEqS, dIs, dNotIs, dSortDI, obD, id_eq, List.getElem?_cons_zero, List.getElem?_cons_succ, List.set_cons_zero, List.set_cons_succ, List.length_cons, List.length_nil, D.bl.injEq, exists_eq_left', decide_eq_true_eq, decide_eq_false_iff_not, Bool.not_eq_true', Bool.not_eq_false', Nat.zero_add, Nat.reduceAdd, true_and, and_true, forall_const, reduceCtorEq, not_true_eq_false, not_false_eq_true, false_implies, true_implies, implies_true, sz_line, Nat.reduceLeDiff, Int.reduceLE, Int.reduceLT, Int.reduceNeg, Int.reducePow, Int.reduceAdd, Int.reduceSub, Int.reduceMul]
    refine ⟨by omega, ?_⟩
    refine wForL_rule (fun r ρ => ∃ (ns : List Int) (s4 : Sl), ρ = [.sh (.scr (sc.map D.int)), .sh (.int lo), .sh (.int hi), .sh (.lst (ns.map D.int)), s4] ∧ ns.length + 12 * r.length ≤ 12 * (hi - lo).toNat ∧ ∀ d ∈ r, ∃ i : Int, d = .int i ∧ 0 ≤ i) ?_ ?_ _ _ ⟨[], _, rfl, ?_, ?_⟩
    · rintro d r ρ ⟨ns, s4, rfl, hl, hr⟩ C hC
      obtain ⟨i, rfl, hi0⟩ := hr d List.mem_cons_self
      rw [List.length_cons] at hl
      simp only [↓wSeq_e, ↓wNext_e, ↓wBreak_e, ↓wCont_e, ↓wRet_e, ↓wRetN_e, ↓wDrop_e, ↓wIf_e, ↓wAnd_e, ↓wOr_e, ↓wNot_e, ↓wTst_e, ↓wAndV_e, ↓wOrV_e, ↓wNotV_e, ↓wIfE_e, ↓wChain_e, ↓wVar_e, ↓wPk_e, ↓wC_e, ↓wOp_e, ↓wUn_e, ↓wM1_e, ↓wTup_e, ↓wfLst_e, ↓wFz_e, ↓waNil_e, ↓waCons_e, ↓asNil_e, ↓asCons_e, ↓asBox_e, ↓wCall_e, ↓wAsg_e, ↓wSt_e, ↓wAsgO_e, ↓wTp_e, ↓wTpL_e, ↓wPar_e, ↓wStL_nil, ↓wStL_cons, ↓wFor_e, ↓wRg1_e, ↓wRg2_e, ↓wItL_e, ↓wItT_e, ↓wItS_e, ↓wApp_e, ↓woNone_e, ↓woSome_e, ↓wCut_e, ↓wBx1_e, ↓wBx0_e, ↓wBxPut_e, ↓wDraw_e, ↓wLSet_e, ↓wNever_e, ↓wFld_e, ↓wMeth_e, ↓wMake_e, ↓wFldN_e, ↓wZip_e, ↓wPut_e, ↓wfList_e, ↓wfDict_e, ↓wfDisp1_e, ↓wPop0_e, ↓wOFld_e, ↓wOFldS_e, ↓wOApp_e, ↓wOPut_e, ↓wFldNO_e, ↓wMethO_e, ↓wGet1_e, ↓wfCut_e, ↓wfDk_e, ↓wfDt_e, ↓wCopy_e, ↓wRowPk_e, ↓wPutRow_e, ↓wTru_e, ↓wLc_e, ↓wYes_e, ↓wAug_e, dLt, dLe, dGt, dGe, dSub, dMul, dMod, dFdiv, dPow, dI2, dI2C, dAdd, dEq, dNe, dLen, dInt, dIx_l, dIx_t, dIx_s, dList, dSum, dCut, atI_zero, atI_one, Option.some.injEq, dTru, dMax2, dMin2, dAddI, dEqS, dIs, dNotIs, dSortDI, obD, id_eq, List.getElem?_cons_zero, List.getElem?_cons_succ, List.set_cons_zero, List.set_cons_succ, List.length_cons, List.length_nil, D.bl.injEq, exists_eq_left', decide_eq_true_eq, decide_eq_false_iff_not, Bool.not_eq_true', Bool.not_eq_false', Nat.zero_add, Nat.reduceAdd, true_and, and_true, forall_const, reduceCtorEq, not_true_eq_false, not_false_eq_true, false_implies, true_implies, implies_true, sz_line, Nat.reduceLeDiff, Int.reduceLE, Int.reduceLT, Int.reduceNeg, Int.reducePow, Int.reduceAdd, Int.reduceSub, Int.reduceMul, wf__law_cell, wf__law_row, List.length_map]
      refine ⟨⟨_, rfl⟩, hi0, fun ms hm => ⟨by omega, hC _ ⟨ns ++ ms, _, by rw [List.map_append], by rw [List.length_append]; omega, fun d hd => hr d (List.mem_cons_of_mem _ hd)⟩⟩⟩
    · rintro ρ ⟨ns, s4, rfl, _⟩
      simp only [↓wSeq_e, ↓wNext_e, ↓wBreak_e, ↓wCont_e, ↓wRet_e, ↓wRetN_e, ↓wDrop_e, ↓wIf_e, ↓wAnd_e, ↓wOr_e, ↓wNot_e, ↓wTst_e, ↓wAndV_e, ↓wOrV_e, ↓wNotV_e, ↓wIfE_e, ↓wChain_e, ↓wVar_e, ↓wPk_e, ↓wC_e, ↓wOp_e, ↓wUn_e, ↓wM1_e, ↓wTup_e, ↓wfLst_e, ↓wFz_e, ↓waNil_e, ↓waCons_e, ↓asNil_e, ↓asCons_e, ↓asBox_e, ↓wCall_e, ↓wAsg_e, ↓wSt_e, ↓wAsgO_e, ↓wTp_e, ↓wTpL_e, ↓wPar_e, ↓wStL_nil, ↓wStL_cons, ↓wFor_e, ↓wRg1_e, ↓wRg2_e, ↓wItL_e, ↓wItT_e, ↓wItS_e, ↓wApp_e, ↓woNone_e, ↓woSome_e, ↓wCut_e, ↓wBx1_e, ↓wBx0_e, ↓wBxPut_e, ↓wDraw_e, ↓wLSet_e, ↓wNever_e, ↓wFld_e, ↓wMeth_e, ↓wMake_e, ↓wFldN_e, ↓wZip_e, ↓wPut_e, ↓wfList_e, ↓wfDict_e, ↓wfDisp1_e, ↓wPop0_e, ↓wOFld_e, ↓wOFldS_e, ↓wOApp_e, ↓wOPut_e, ↓wFldNO_e, ↓wMethO_e, ↓wGet1_e, ↓wfCut_e, ↓wfDk_e, ↓wfDt_e, ↓wCopy_e, ↓wRowPk_e, ↓wPutRow_e, ↓wTru_e, ↓wLc_e, ↓wYes_e, ↓wAug_e, dLt, dLe, dGt, dGe, dSub, dMul, dMod, dFdiv, dPow, dI2, dI2C, dAdd, dEq, dNe, dLen, dInt, dIx_l, dIx_t, dIx_s, dList, dSum, dCut, atI_zero, atI_one, Option.some.injEq, dTru, dMax2, dMin2, dAddI, dEqS, dIs, dNotIs, dSortDI, obD, id_eq, List.getElem?_cons_zero, List.getElem?_cons_succ, List.set_cons_zero, List.set_cons_succ, List.length_cons, List.length_nil, D.bl.injEq, exists_eq_left', decide_eq_true_eq, decide_eq_false_iff_not, Bool.not_eq_true', Bool.not_eq_false', Nat.zero_add, Nat.reduceAdd, true_and, and_true, forall_const, reduceCtorEq, not_true_eq_false, not_false_eq_true, false_implies, true_implies, implies_true, sz_line, Nat.reduceLeDiff, Int.reduceLE, Int.reduceLT, Int.reduceNeg, Int.reducePow, Int.reduceAdd, Int.reduceSub, Int.reduceMul]
      exact q ns
    · rw [rangeD_length]; simp
    · intro d hd
      obtain ⟨i, e, hi, _⟩ := rangeD_mem hd
      exact ⟨i, e, by omega⟩
  · exact h.elim
/-! ### _law_draw -/
def wf__law_draw : WFn
  | [.bx, .sh (.int n)], Q => 0 < n ∧ ∀ r : Int, 0 ≤ r → r < n → Q (.int r)
  | _, _ => False
theorem len__law_draw : ∀ as Qd, wf__law_draw as Qd → as.length = 2 := fun as Qd h => by
  unfold wf__law_draw at h
  split at h
  · rfl
  · exact h.elim

def w__law_draw : WS := (wSeq (wAsg (wBx1 0) (wSt 2))
 (wSeq (wBxPut 0 (wOp dAdd (wPk 2) (wC (.int 1))))
 (wSeq (wDraw 0 2 1)
 (wRet (wOp dMod (wUn dInt (wOp dAdd (wOp dMul (wPk 2) (wC (.int 7))) (wC (.int 3)))) (wPk 1))))))

theorem p__law_draw : ∀ as Qd, wf__law_draw as Qd → w__law_draw (startD ["_law_box_here", "_law_many", "_law_at"] as) { nx := fun _ => Qd .non, rt := fun d _ => Qd d } := fun as Qd h => by
  unfold wf__law_draw at h
  split at h
  · obtain ⟨hn, q⟩ := h
    show w__law_draw [.bx, .sh (.int _), .no] _
    simp only [w__law_draw, ↓wSeq_e, ↓wNext_e, ↓wBreak_e, ↓wCont_e, ↓wRet_e, ↓wRetN_e, ↓wDrop_e, ↓wIf_e, ↓wAnd_e, ↓wOr_e, ↓wNot_e, ↓wTst_e, ↓wAndV_e, ↓wOrV_e, ↓wNotV_e, ↓wIfE_e, ↓wChain_e, ↓wVar_e, ↓wPk_e, ↓wC_e, ↓wOp_e, ↓wUn_e, ↓wM1_e, ↓wTup_e, ↓wfLst_e, ↓wFz_e, ↓waNil_e, ↓waCons_e, ↓asNil_e, ↓asCons_e, ↓asBox_e, ↓wCall_e, ↓wAsg_e, ↓wSt_e, ↓wAsgO_e, ↓wTp_e, ↓wTpL_e, ↓wPar_e, ↓wStL_nil, ↓wStL_cons, ↓wFor_e, ↓wRg1_e, ↓wRg2_e, ↓wItL_e, ↓wItT_e, ↓wItS_e, ↓wApp_e, ↓woNone_e, ↓woSome_e, ↓wCut_e, ↓wBx1_e, ↓wBx0_e, ↓wBxPut_e, ↓wDraw_e, ↓wLSet_e, ↓wNever_e, ↓wFld_e, ↓wMeth_e, ↓wMake_e, ↓wFldN_e, ↓wZip_e, ↓wPut_e, ↓wfList_e, ↓wfDict_e, ↓wfDisp1_e, ↓wPop0_e, ↓wOFld_e, ↓wOFldS_e, ↓wOApp_e, ↓wOPut_e, ↓wFldNO_e, ↓wMethO_e, ↓wGet1_e, ↓wfCut_e, ↓wfDk_e, ↓wfDt_e, ↓wCopy_e, ↓wRowPk_e, ↓wPutRow_e, ↓wTru_e, ↓wLc_e, ↓wYes_e, ↓wAug_e, dLt, dLe, dGt, dGe, dSub, dMul, dMod, dFdiv, dPow, dI2, dI2C, dAdd, dEq, dNe, dLen, dInt, dIx_l, dIx_t, dIx_s, dList, dSum, dCut, atI_zero, atI_one, Option.some.injEq, dTru, dMax2, dMin2, dAddI, dEqS, dIs, dNotIs, dSortDI, obD, id_eq, List.getElem?_cons_zero, List.getElem?_cons_succ, List.set_cons_zero, List.set_cons_succ, List.length_cons, List.length_nil, D.bl.injEq, exists_eq_left', decide_eq_true_eq, decide_eq_false_iff_not, Bool.not_eq_true', Bool.not_eq_false', Nat.zero_add, Nat.reduceAdd, true_and, and_true, forall_const, reduceCtorEq, not_true_eq_false, not_false_eq_true, false_implies, true_implies, implies_true, sz_line, Nat.reduceLeDiff, Int.reduceLE, Int.reduceLT, Int.reduceNeg, Int.reducePow, Int.reduceAdd, Int.reduceSub, Int.reduceMul, List.length_map]
    intro n h0
    refine ⟨by omega, n, _, rfl, rfl, h0, hn, q, .inr (by decide), hn, q _ (Int.emod_nonneg _ (by omega)) (Int.emod_lt_of_pos _ hn)⟩
  · exact h.elim
/-! ### _law_same -/
def wf__law_same : WFn
  | [.sh d, .sh e], Q => d = e ∧ Shw d ∧ Q (.bl true)
  | _, _ => False
theorem len__law_same : ∀ as Qd, wf__law_same as Qd → as.length = 2 := fun as Qd h => by
  unfold wf__law_same at h
  split at h
  · rfl
  · exact h.elim

def w__law_same : WS := (wRet (wOp dEq (wUn dRepr (wPk 0)) (wUn dRepr (wPk 1))))

theorem p__law_same : ∀ as Qd, wf__law_same as Qd → w__law_same (startD ["_law_one", "_law_other"] as) { nx := fun _ => Qd .non, rt := fun d _ => Qd d } := fun as Qd h => by
  unfold wf__law_same at h
  split at h
  · obtain ⟨rfl, hs, q⟩ := h
    show w__law_same [.sh _, .sh _] _
    simp only [w__law_same, ↓wSeq_e, ↓wNext_e, ↓wBreak_e, ↓wCont_e, ↓wRet_e, ↓wRetN_e, ↓wDrop_e, ↓wIf_e, ↓wAnd_e, ↓wOr_e, ↓wNot_e, ↓wTst_e, ↓wAndV_e, ↓wOrV_e, ↓wNotV_e, ↓wIfE_e, ↓wChain_e, ↓wVar_e, ↓wPk_e, ↓wC_e, ↓wOp_e, ↓wUn_e, ↓wM1_e, ↓wTup_e, ↓wfLst_e, ↓wFz_e, ↓waNil_e, ↓waCons_e, ↓asNil_e, ↓asCons_e, ↓asBox_e, ↓wCall_e, ↓wAsg_e, ↓wSt_e, ↓wAsgO_e, ↓wTp_e, ↓wTpL_e, ↓wPar_e, ↓wStL_nil, ↓wStL_cons, ↓wFor_e, ↓wRg1_e, ↓wRg2_e, ↓wItL_e, ↓wItT_e, ↓wItS_e, ↓wApp_e, ↓woNone_e, ↓woSome_e, ↓wCut_e, ↓wBx1_e, ↓wBx0_e, ↓wBxPut_e, ↓wDraw_e, ↓wLSet_e, ↓wNever_e, ↓wFld_e, ↓wMeth_e, ↓wMake_e, ↓wFldN_e, ↓wZip_e, ↓wPut_e, ↓wfList_e, ↓wfDict_e, ↓wfDisp1_e, ↓wPop0_e, ↓wOFld_e, ↓wOFldS_e, ↓wOApp_e, ↓wOPut_e, ↓wFldNO_e, ↓wMethO_e, ↓wGet1_e, ↓wfCut_e, ↓wfDk_e, ↓wfDt_e, ↓wCopy_e, ↓wRowPk_e, ↓wPutRow_e, ↓wTru_e, ↓wLc_e, ↓wYes_e, ↓wAug_e, dLt, dLe, dGt, dGe, dSub, dMul, dMod, dFdiv, dPow, dI2, dI2C, dAdd, dEq, dNe, dLen, dInt, dIx_l, dIx_t, dIx_s, dList, dSum, dCut, atI_zero, atI_one, Option.some.injEq, dTru, dMax2, dMin2, dAddI, dEqS, dIs, dNotIs, dSortDI, obD, id_eq, List.getElem?_cons_zero, List.getElem?_cons_succ, List.set_cons_zero, List.set_cons_succ, List.length_cons, List.length_nil, D.bl.injEq, exists_eq_left', decide_eq_true_eq, decide_eq_false_iff_not, Bool.not_eq_true', Bool.not_eq_false', Nat.zero_add, Nat.reduceAdd, true_and, and_true, forall_const, reduceCtorEq, not_true_eq_false, not_false_eq_true, false_implies, true_implies, implies_true, sz_line, Nat.reduceLeDiff, Int.reduceLE, Int.reduceLT, Int.reduceNeg, Int.reducePow, Int.reduceAdd, Int.reduceSub, Int.reduceMul, dRepr, dEqB]
    refine ⟨hs, hs, ?_⟩
    simpa using q
  · exact h.elim

/-! ### _law_facts -/
def goodF (fs : List Str) : Prop := fs.Nodup ∧ 1 ≤ fs.length ∧ fs.length ≤ 3 ∧ ∀ f ∈ fs, f.length = 1 ∧ PyData.strOk f = true
def wf__law_facts : WFn
  | [.bx], Q => ∀ fs : List Str, goodF fs → ¬ ("z" : Str) ∈ fs → Q (.lst (fs.map D.str))
  | _, _ => False
theorem len__law_facts : ∀ as Qd, wf__law_facts as Qd → as.length = 1 := fun as Qd h => by
  unfold wf__law_facts at h
  split at h
  · rfl
  · exact h.elim
theorem goodF1 : goodF ["f"] := by unfold goodF; decide +kernel
theorem goodF2 : goodF ["f", "g"] := by unfold goodF; decide +kernel
theorem goodF3 : goodF ["g", "f", "h"] := by unfold goodF; decide +kernel

def w__law_facts : WS := (wRet (wOp dIx (wFz (wfLst (waCons (wFz (wfLst (waCons (wC (.str "f")) waNil))) (waCons (wFz (wfLst (waCons (wC (.str "f")) (waCons (wC (.str "g")) waNil)))) (waCons (wFz (wfLst (waCons (wC (.str "f")) (waCons (wC (.str "g")) waNil)))) (waCons (wFz (wfLst (waCons (wC (.str "g")) (waCons (wC (.str "f")) (waCons (wC (.str "h")) waNil))))) waNil)))))) (wCall wf__law_draw (asBox 0 (asCons (wC (.int 4)) asNil)))))

theorem p__law_facts : ∀ as Qd, wf__law_facts as Qd → w__law_facts (startD ["_law_box_here"] as) { nx := fun _ => Qd .non, rt := fun d _ => Qd d } := fun as Qd h => by
  unfold wf__law_facts at h
  split at h
  · show w__law_facts [.bx] _
    simp only [w__law_facts, ↓wSeq_e, ↓wNext_e, ↓wBreak_e, ↓wCont_e, ↓wRet_e, ↓wRetN_e, ↓wDrop_e, ↓wIf_e, ↓wAnd_e, ↓wOr_e, ↓wNot_e, ↓wTst_e, ↓wAndV_e, ↓wOrV_e, ↓wNotV_e, ↓wIfE_e, ↓wChain_e, ↓wVar_e, ↓wPk_e, ↓wC_e, ↓wOp_e, ↓wUn_e, ↓wM1_e, ↓wTup_e, ↓wfLst_e, ↓wFz_e, ↓waNil_e, ↓waCons_e, ↓asNil_e, ↓asCons_e, ↓asBox_e, ↓wCall_e, ↓wAsg_e, ↓wSt_e, ↓wAsgO_e, ↓wTp_e, ↓wTpL_e, ↓wPar_e, ↓wStL_nil, ↓wStL_cons, ↓wFor_e, ↓wRg1_e, ↓wRg2_e, ↓wItL_e, ↓wItT_e, ↓wItS_e, ↓wApp_e, ↓woNone_e, ↓woSome_e, ↓wCut_e, ↓wBx1_e, ↓wBx0_e, ↓wBxPut_e, ↓wDraw_e, ↓wLSet_e, ↓wNever_e, ↓wFld_e, ↓wMeth_e, ↓wMake_e, ↓wFldN_e, ↓wZip_e, ↓wPut_e, ↓wfList_e, ↓wfDict_e, ↓wfDisp1_e, ↓wPop0_e, ↓wOFld_e, ↓wOFldS_e, ↓wOApp_e, ↓wOPut_e, ↓wFldNO_e, ↓wMethO_e, ↓wGet1_e, ↓wfCut_e, ↓wfDk_e, ↓wfDt_e, ↓wCopy_e, ↓wRowPk_e, ↓wPutRow_e, ↓wTru_e, ↓wLc_e, ↓wYes_e, ↓wAug_e, dLt, dLe, dGt, dGe, dSub, dMul, dMod, dFdiv, dPow, dI2, dI2C, dAdd, dEq, dNe, dLen, dInt, dIx_l, dIx_t, dIx_s, dList, dSum, dCut, atI_zero, atI_one, Option.some.injEq, dTru, dMax2, dMin2, dAddI, dEqS, dIs, dNotIs, dSortDI, obD, id_eq, List.getElem?_cons_zero, List.getElem?_cons_succ, List.set_cons_zero, List.set_cons_succ, List.length_cons, List.length_nil, D.bl.injEq, exists_eq_left', decide_eq_true_eq, decide_eq_false_iff_not, Bool.not_eq_true', Bool.not_eq_false', Nat.zero_add, Nat.reduceAdd, true_and, and_true, forall_const, reduceCtorEq, not_true_eq_false, not_false_eq_true, false_implies, true_implies, implies_true, sz_line, Nat.reduceLeDiff, Int.reduceLE, Int.reduceLT, Int.reduceNeg, Int.reducePow, Int.reduceAdd, Int.reduceSub, Int.reduceMul, wf__law_draw]
    intro r r0 r1
    obtain ⟨d, hd, e⟩ := atI_mem (l := [D.lst [.str "f"], .lst [.str "f", .str "g"], .lst [.str "f", .str "g"], .lst [.str "g", .str "f", .str "h"]]) r0 r1
    refine ⟨d, e, ?_⟩
    simp only [List.mem_cons, List.not_mem_nil, or_false] at hd
    rcases hd with rfl | rfl | rfl | rfl
    · exact h _ goodF1 (by decide +kernel)
    · exact h _ goodF2 (by decide +kernel)
    · exact h _ goodF2 (by decide +kernel)
    · exact h _ goodF3 (by decide +kernel)
  · exact h.elim
/-! ### _law_machine -/
def goodF4 (fs : List Str) : Prop := fs.Nodup ∧ 1 ≤ fs.length ∧ fs.length ≤ 4 ∧ ∀ f ∈ fs, f.length = 1 ∧ PyData.strOk f = true
def wf__law_machine : WFn
  | [.bx, .sh (.lst ds), .sh (.int most)], Q => ∃ fs : List Str, ds = fs.map D.str ∧ goodF4 fs ∧ 1 ≤ most ∧ most ≤ 8 ∧ ∀ m : Mach, m.facts = fs → (fs.length ≤ 3 → m.ok most.toNat 10) → Q m.dd
  | _, _ => False
theorem len__law_machine : ∀ as Qd, wf__law_machine as Qd → as.length = 3 := fun as Qd h => by
  unfold wf__law_machine at h
  split at h
  · rfl
  · exact h.elim
def kdsOf (fs : List Str) (r : List Int) : List (Key × D) := List.zipWith (fun f v => (Sum.inr f, D.int v)) fs r
theorem kds_keys : ∀ {fs : List Str} {r : List Int}, r.length = fs.length → (kdsOf fs r).map (·.1) = keysOf fs ∧ (kdsOf fs r).map (·.2) = r.map D.int
  | [], [], _ => ⟨rfl, rfl⟩
  | f :: fs, v :: r, h => by
    have := kds_keys (fs := fs) (r := r) (by simpa using h)
    unfold kdsOf keysOf at this ⊢
    simp only [List.zipWith_cons_cons, List.map_cons, this.1, this.2, and_self]
  | [], _ :: _, h => by simp at h
  | _ :: _, [], h => by simp at h
theorem keysOf_nd {fs : List Str} (h : fs.Nodup) : (keysOf fs).Nodup := by
  unfold keysOf
  induction fs with
  | nil => exact List.nodup_nil
  | cons f fs ih =>
    rw [List.nodup_cons] at h
    rw [List.map_cons, List.nodup_cons]
    refine ⟨fun z => ?_, ih h.2⟩
    obtain ⟨g, hg, e⟩ := List.mem_map.mp z
    exact h.1 (by rw [← Sum.inr.inj e]; exact hg)
/-- a row's pairs (fact, number) -/
theorem pairs_out {P : Int → Prop} : ∀ {fs : List Str} {ys : List D}, Outs (fun d o => ∃ f v, d = .str f ∧ o = some (pairD (.inr f, .int v)) ∧ P v) (fs.map D.str) ys → ∃ r : List Int, r.length = fs.length ∧ ys = (kdsOf fs r).map pairD ∧ ∀ v ∈ r, P v
  | [], ys, h => ⟨[], rfl, h, fun v hv => by cases hv⟩
  | f :: fs, ys, h => by
    rcases h with ⟨y, r, ⟨f', v, e1, e2, hp⟩, rfl, h⟩ | ⟨⟨f', v, e1, e2, hp⟩, _⟩
    · cases e1
      cases e2
      obtain ⟨r', h1, rfl, h3⟩ := pairs_out h
      refine ⟨v :: r', by simp [h1], rfl, fun u hu => ?_⟩
      rcases List.mem_cons.mp hu with rfl | hu
      · exact hp
      · exact h3 u hu
    · cases e2
theorem dDict_row {fs : List Str} {r : List Int} {Q : D → Prop} (nd : fs.Nodup) (h : r.length = fs.length) (q : Q (rowD (rowOf fs r))) : dDict (.lst ((kdsOf fs r).map pairD)) Q := by
  obtain ⟨e1, e2⟩ := kds_keys h
  refine ⟨kdsOf fs r, rfl, by rw [e1]; exact keysOf_nd nd, ?_⟩
  rw [e1, e2]; exact q
theorem facts_lc {fs : List Str} {P : Int → Prop} {vs : List Nat} {wg : WG} {we : WE} {ρ : List Sl} {Q : List D → List Sl → Prop}
    (step : ∀ f ∈ fs, ∀ Kt : D → List Sl → Prop, (∀ v, P v → Kt (pairD (.inr f, .int v)) ρ) → wg (.str f) ρ fun ρ1 => we ρ1 fun y ρ3 => noOwnB ρ3 vs = true ∧ Kt y (wipeD ρ3 vs))
    (q : ∀ r : List Int, r.length = fs.length → (∀ v ∈ r, P v) → Q ((kdsOf fs r).map pairD) ρ) : wLcL vs wg wYes we (fs.map D.str) ρ [] Q := by
  refine wLcL_rule (fun d => ∃ f ∈ fs, d = .str f) (fun d o => ∃ f v, d = .str f ∧ o = some (pairD (.inr f, .int v)) ∧ P v) ?_ _ _ _ ?_ ?_
  · rintro d ⟨f, hf, rfl⟩ Kt Kf ht hf'
    simp only [↓wSeq_e, ↓wNext_e, ↓wBreak_e, ↓wCont_e, ↓wRet_e, ↓wRetN_e, ↓wDrop_e, ↓wIf_e, ↓wAnd_e, ↓wOr_e, ↓wNot_e, ↓wTst_e, ↓wAndV_e, ↓wOrV_e, ↓wNotV_e, ↓wIfE_e, ↓wChain_e, ↓wVar_e, ↓wPk_e, ↓wC_e, ↓wOp_e, ↓wUn_e, ↓wM1_e, ↓wTup_e, ↓wfLst_e, ↓wFz_e, ↓waNil_e, ↓waCons_e, ↓asNil_e, ↓asCons_e, ↓asBox_e, ↓wCall_e, ↓wAsg_e, ↓wSt_e, ↓wAsgO_e, ↓wTp_e, ↓wTpL_e, ↓wPar_e, ↓wStL_nil, ↓wStL_cons, ↓wFor_e, ↓wRg1_e, ↓wRg2_e, ↓wItL_e, ↓wItT_e, ↓wItS_e, ↓wApp_e, ↓woNone_e, ↓woSome_e, ↓wCut_e, ↓wBx1_e, ↓wBx0_e, ↓wBxPut_e, ↓wDraw_e, ↓wLSet_e, ↓wNever_e, ↓wFld_e, ↓wMeth_e, ↓wMake_e, ↓wFldN_e, ↓wZip_e, ↓wPut_e, ↓wfList_e, ↓wfDict_e, ↓wfDisp1_e, ↓wPop0_e, ↓wOFld_e, ↓wOFldS_e, ↓wOApp_e, ↓wOPut_e, ↓wFldNO_e, ↓wMethO_e, ↓wGet1_e, ↓wfCut_e, ↓wfDk_e, ↓wfDt_e, ↓wCopy_e, ↓wRowPk_e, ↓wPutRow_e, ↓wTru_e, ↓wLc_e, ↓wYes_e, ↓wAug_e, dLt, dLe, dGt, dGe, dSub, dMul, dMod, dFdiv, dPow, dI2, dI2C, dAdd, dEq, dNe, dLen, dInt, dIx_l, dIx_t, dIx_s, dList, dSum, dCut, atI_zero, atI_one, Option.some.injEq, dTru, dMax2, dMin2, dAddI, dEqS, dIs, dNotIs, dSortDI, obD, id_eq, List.getElem?_cons_zero, List.getElem?_cons_succ, List.set_cons_zero, List.set_cons_succ, List.length_cons, List.length_nil, D.bl.injEq, exists_eq_left', decide_eq_true_eq, decide_eq_false_iff_not, Bool.not_eq_true', Bool.not_eq_false', Nat.zero_add, Nat.reduceAdd, true_and, and_true, forall_const, reduceCtorEq, not_true_eq_false, not_false_eq_true, false_implies, true_implies, implies_true, sz_line, Nat.reduceLeDiff, Int.reduceLE, Int.reduceLT, Int.reduceNeg, Int.reducePow, Int.reduceAdd, Int.reduceSub, Int.reduceMul]
    exact step f hf Kt fun v hv => ht _ ⟨f, v, rfl, rfl, hv⟩
  · intro d hd
    obtain ⟨f, hf, rfl⟩ := List.mem_map.mp hd
    exact ⟨f, hf, rfl⟩
  · intro ys hy
    obtain ⟨r, h1, rfl, h3⟩ := pairs_out hy
    rw [List.nil_append]
    exact q r h1 h3
def rowsOf (fs : List Str) (rs : List (List Int)) : List D := rs.map fun r => rowD (rowOf fs r)

def w__law_machine_t1 : WS := (wApp 5 (wUn dDict (wFz (wLc [7] (wItL (wVar 1)) (wSt 7) wYes (wTup (waCons (wVar 7) (waCons (wOp dIx (wFz (wfLst (waCons (wC (.int 0)) (waCons (wC (.int 0)) (waCons (wC (.int 1)) (waCons (wC (.int 2)) (waCons (wUn dNeg (wC (.int 1))) (waCons (wUn dNeg (wC (.int 2))) (waCons (wC (.int 3)) waNil))))))))) (wCall wf__law_draw (asBox 0 (asCons (wC (.int 7)) asNil)))) waNil)))))))
def w__law_machine_t2 : WS := (wRet (wMake "Machine" wf_Machine_init (asCons (wVar 1) (asCons (wVar 4) (asCons (wVar 5) (asCons (wFz (wLc [6] (wRg1 (waCons (wVar 3) waNil)) (wSt 6) wYes (wOp dSub (wCall wf__law_draw (asBox 0 (asCons (wC (.int 7)) asNil))) (wC (.int 2))))) asNil))))))
def w__law_machine_t3 : WS := (wSeq (wFor (wRg1 (waCons (wVar 3) waNil)) (wSt 6)
 (wSeq (wApp 4 (wUn dDict (wFz (wLc [7] (wItL (wVar 1)) (wSt 7) wYes (wTup (waCons (wVar 7) (waCons (wOp dMod (wUn dInt (wCall wf__law_draw (asBox 0 (asCons (wC (.int 900)) asNil)))) (wPk 3)) waNil)))))))
 w__law_machine_t1))
 w__law_machine_t2)
def w__law_machine_t4 : WS := (wSeq (wAsgO (wfLst waNil) 5)
 w__law_machine_t3)
def w__law_machine_t5 : WS := (wSeq (wAsgO (wfLst waNil) 4)
 w__law_machine_t4)
def w__law_machine : WS := (wSeq (wAsg (wOp dAdd (wC (.int 1)) (wCall wf__law_draw (asBox 0 (asCons (wVar 2) asNil)))) (wSt 3))
 w__law_machine_t5)

theorem p__law_machine : ∀ as Qd, wf__law_machine as Qd → w__law_machine (startD ["_law_box_here", "_law_facts_here", "_law_most", "_law_many", "_law_step", "_law_gain", "_law_state", "_law_fact"] as) { nx := fun _ => Qd .non, rt := fun d _ => Qd d } := fun as Qd h => by
  unfold wf__law_machine at h
  split at h
  · rename_i ds most
    obtain ⟨fs, rfl, hf, h1, h8, q⟩ := h
    obtain ⟨nd, f1, f3, fo⟩ := hf
    show w__law_machine [.bx, .sh (.lst (fs.map D.str)), .sh (.int most), .no, .no, .no, .no, .no] _
    simp only [w__law_machine, ↓wSeq_e, ↓wNext_e, ↓wBreak_e, ↓wCont_e, ↓wRet_e, ↓wRetN_e, ↓wDrop_e, ↓wIf_e, ↓wAnd_e, ↓wOr_e, ↓wNot_e, ↓wTst_e, ↓wAndV_e, ↓wOrV_e, ↓wNotV_e, ↓wIfE_e, ↓wChain_e, ↓wVar_e, ↓wPk_e, ↓wC_e, ↓wOp_e, ↓wUn_e, ↓wM1_e, ↓wTup_e, ↓wfLst_e, ↓wFz_e, ↓waNil_e, ↓waCons_e, ↓asNil_e, ↓asCons_e, ↓asBox_e, ↓wCall_e, ↓wAsg_e, ↓wSt_e, ↓wAsgO_e, ↓wTp_e, ↓wTpL_e, ↓wPar_e, ↓wStL_nil, ↓wStL_cons, ↓wFor_e, ↓wRg1_e, ↓wRg2_e, ↓wItL_e, ↓wItT_e, ↓wItS_e, ↓wApp_e, ↓woNone_e, ↓woSome_e, ↓wCut_e, ↓wBx1_e, ↓wBx0_e, ↓wBxPut_e, ↓wDraw_e, ↓wLSet_e, ↓wNever_e, ↓wFld_e, ↓wMeth_e, ↓wMake_e, ↓wFldN_e, ↓wZip_e, ↓wPut_e, ↓wfList_e, ↓wfDict_e, ↓wfDisp1_e, ↓wPop0_e, ↓wOFld_e, ↓wOFldS_e, ↓wOApp_e, ↓wOPut_e, ↓wFldNO_e, ↓wMethO_e, ↓wGet1_e, ↓wfCut_e, ↓wfDk_e, ↓wfDt_e, ↓wCopy_e, ↓wRowPk_e, ↓wPutRow_e, ↓wTru_e, ↓wLc_e, ↓wYes_e, ↓wAug_e, dLt, dLe, dGt, dGe, dSub, dMul, dMod, dFdiv, dPow, dI2, dI2C, dAdd, dEq, dNe, dLen, dInt, dIx_l, dIx_t, dIx_s, dList, dSum, dCut, atI_zero, atI_one, Option.some.injEq, dTru, dMax2, dMin2, dAddI, dEqS, dIs, dNotIs, dSortDI, obD, id_eq, List.getElem?_cons_zero, List.getElem?_cons_succ, List.set_cons_zero, List.set_cons_succ, List.length_cons, List.length_nil, D.bl.injEq, exists_eq_left', decide_eq_true_eq, decide_eq_false_iff_not, Bool.not_eq_true', Bool.not_eq_false', Nat.zero_add, Nat.reduceAdd, true_and, and_true, forall_const, reduceCtorEq, not_true_eq_false, not_false_eq_true, false_implies, true_implies, implies_true, sz_line, Nat.reduceLeDiff, Int.reduceLE, Int.reduceLT, Int.reduceNeg, Int.reducePow, Int.reduceAdd, Int.reduceSub, Int.reduceMul, wf__law_draw]
    refine ⟨by omega, fun k k0 k1 => ?_⟩
    generalize hn : 1 + k = n
    simp only [w__law_machine_t5, w__law_machine_t4, w__law_machine_t3, ↓wSeq_e, ↓wNext_e, ↓wBreak_e, ↓wCont_e, ↓wRet_e, ↓wRetN_e, ↓wDrop_e, ↓wIf_e, ↓wAnd_e, ↓wOr_e, ↓wNot_e, ↓wTst_e, ↓wAndV_e, ↓wOrV_e, ↓wNotV_e, ↓wIfE_e, ↓wChain_e, ↓wVar_e, ↓wPk_e, ↓wC_e, ↓wOp_e, ↓wUn_e, ↓wM1_e, ↓wTup_e, ↓wfLst_e, ↓wFz_e, ↓waNil_e, ↓waCons_e, ↓asNil_e, ↓asCons_e, ↓asBox_e, ↓wCall_e, ↓wAsg_e, ↓wSt_e, ↓wAsgO_e, ↓wTp_e, ↓wTpL_e, ↓wPar_e, ↓wStL_nil, ↓wStL_cons, ↓wFor_e, ↓wRg1_e, ↓wRg2_e, ↓wItL_e, ↓wItT_e, ↓wItS_e, ↓wApp_e, ↓woNone_e, ↓woSome_e, ↓wCut_e, ↓wBx1_e, ↓wBx0_e, ↓wBxPut_e, ↓wDraw_e, ↓wLSet_e, ↓wNever_e, ↓wFld_e, ↓wMeth_e, ↓wMake_e, ↓wFldN_e, ↓wZip_e, ↓wPut_e, ↓wfList_e, ↓wfDict_e, ↓wfDisp1_e, ↓wPop0_e, ↓wOFld_e, ↓wOFldS_e, ↓wOApp_e, ↓wOPut_e, ↓wFldNO_e, ↓wMethO_e, ↓wGet1_e, ↓wfCut_e, ↓wfDk_e, ↓wfDt_e, ↓wCopy_e, ↓wRowPk_e, ↓wPutRow_e, ↓wTru_e, ↓wLc_e, ↓wYes_e, ↓wAug_e, dLt, dLe, dGt, dGe, dSub, dMul, dMod, dFdiv, dPow, dI2, dI2C, dAdd, dEq, dNe, dLen, dInt, dIx_l, dIx_t, dIx_s, dList, dSum, dCut, atI_zero, atI_one, Option.some.injEq, dTru, dMax2, dMin2, dAddI, dEqS, dIs, dNotIs, dSortDI, obD, id_eq, List.getElem?_cons_zero, List.getElem?_cons_succ, List.set_cons_zero, List.set_cons_succ, List.length_cons, List.length_nil, D.bl.injEq, exists_eq_left', decide_eq_true_eq, decide_eq_false_iff_not, Bool.not_eq_true', Bool.not_eq_false', Nat.zero_add, Nat.reduceAdd, true_and, and_true, forall_const, reduceCtorEq, not_true_eq_false, not_false_eq_true, false_implies, true_implies, implies_true, sz_line, Nat.reduceLeDiff, Int.reduceLE, Int.reduceLT, Int.reduceNeg, Int.reducePow, Int.reduceAdd, Int.reduceSub, Int.reduceMul]
    refine ⟨by omega, ?_⟩
    refine wForL_rule (fun r ρ => ∃ (sr gr : List (List Int)) (s6 : Sl), (s6 = .no ∨ ∃ d, s6 = .sh d) ∧ ρ = [.bx, .sh (.lst (fs.map D.str)), .sh (.int most), .sh (.int n), .ol (rowsOf fs sr), .ol (rowsOf fs gr), s6, .no] ∧ sr.length + r.length = n.toNat ∧ gr.length = sr.length ∧
      (∀ r ∈ sr, r.length = fs.length ∧ ∀ s ∈ r, 0 ≤ s ∧ s < n) ∧ ∀ r ∈ gr, r.length = fs.length ∧ ∀ g ∈ r, -10 ≤ g ∧ g ≤ 10) ?_ ?_ _ _ ⟨[], [], _, .inl rfl, rfl, by rw [rangeD_length]; simp, rfl, (fun r h => by cases h), fun r h => by cases h⟩
    · rintro d r ρ ⟨sr, gr, s6, _, rfl, hl, hgl, hs, hg⟩ C hC
      rw [List.length_cons] at hl
      simp only [↓wSeq_e, ↓wNext_e, ↓wBreak_e, ↓wCont_e, ↓wRet_e, ↓wRetN_e, ↓wDrop_e, ↓wIf_e, ↓wAnd_e, ↓wOr_e, ↓wNot_e, ↓wTst_e, ↓wAndV_e, ↓wOrV_e, ↓wNotV_e, ↓wIfE_e, ↓wChain_e, ↓wVar_e, ↓wPk_e, ↓wC_e, ↓wOp_e, ↓wUn_e, ↓wM1_e, ↓wTup_e, ↓wfLst_e, ↓wFz_e, ↓waNil_e, ↓waCons_e, ↓asNil_e, ↓asCons_e, ↓asBox_e, ↓wCall_e, ↓wAsg_e, ↓wSt_e, ↓wAsgO_e, ↓wTp_e, ↓wTpL_e, ↓wPar_e, ↓wStL_nil, ↓wStL_cons, ↓wFor_e, ↓wRg1_e, ↓wRg2_e, ↓wItL_e, ↓wItT_e, ↓wItS_e, ↓wApp_e, ↓woNone_e, ↓woSome_e, ↓wCut_e, ↓wBx1_e, ↓wBx0_e, ↓wBxPut_e, ↓wDraw_e, ↓wLSet_e, ↓wNever_e, ↓wFld_e, ↓wMeth_e, ↓wMake_e, ↓wFldN_e, ↓wZip_e, ↓wPut_e, ↓wfList_e, ↓wfDict_e, ↓wfDisp1_e, ↓wPop0_e, ↓wOFld_e, ↓wOFldS_e, ↓wOApp_e, ↓wOPut_e, ↓wFldNO_e, ↓wMethO_e, ↓wGet1_e, ↓wfCut_e, ↓wfDk_e, ↓wfDt_e, ↓wCopy_e, ↓wRowPk_e, ↓wPutRow_e, ↓wTru_e, ↓wLc_e, ↓wYes_e, ↓wAug_e, dLt, dLe, dGt, dGe, dSub, dMul, dMod, dFdiv, dPow, dI2, dI2C, dAdd, dEq, dNe, dLen, dInt, dIx_l, dIx_t, dIx_s, dList, dSum, dCut, atI_zero, atI_one, Option.some.injEq, dTru, dMax2, dMin2, dAddI, dEqS, dIs, dNotIs, dSortDI, obD, id_eq, List.getElem?_cons_zero, List.getElem?_cons_succ, List.set_cons_zero, List.set_cons_succ, List.length_cons, List.length_nil, D.bl.injEq, exists_eq_left', decide_eq_true_eq, decide_eq_false_iff_not, Bool.not_eq_true', Bool.not_eq_false', Nat.zero_add, Nat.reduceAdd, true_and, and_true, forall_const, reduceCtorEq, not_true_eq_false, not_false_eq_true, false_implies, true_implies, implies_true, sz_line, Nat.reduceLeDiff, Int.reduceLE, Int.reduceLT, Int.reduceNeg, Int.reducePow, Int.reduceAdd, Int.reduceSub, Int.reduceMul, List.length_map]
      refine ⟨by omega, rfl, ?_⟩
      refine facts_lc (ρ := [_, _, _, _, _, _, _, .no]) (P := fun s => 0 ≤ s ∧ s < n) (fun f hf Kt ht => ?_) fun r1 hr1 hP1 => ?_
      · simp only [↓wSeq_e, ↓wNext_e, ↓wBreak_e, ↓wCont_e, ↓wRet_e, ↓wRetN_e, ↓wDrop_e, ↓wIf_e, ↓wAnd_e, ↓wOr_e, ↓wNot_e, ↓wTst_e, ↓wAndV_e, ↓wOrV_e, ↓wNotV_e, ↓wIfE_e, ↓wChain_e, ↓wVar_e, ↓wPk_e, ↓wC_e, ↓wOp_e, ↓wUn_e, ↓wM1_e, ↓wTup_e, ↓wfLst_e, ↓wFz_e, ↓waNil_e, ↓waCons_e, ↓asNil_e, ↓asCons_e, ↓asBox_e, ↓wCall_e, ↓wAsg_e, ↓wSt_e, ↓wAsgO_e, ↓wTp_e, ↓wTpL_e, ↓wPar_e, ↓wStL_nil, ↓wStL_cons, ↓wFor_e, ↓wRg1_e, ↓wRg2_e, ↓wItL_e, ↓wItT_e, ↓wItS_e, ↓wApp_e, ↓woNone_e, ↓woSome_e, ↓wCut_e, ↓wBx1_e, ↓wBx0_e, ↓wBxPut_e, ↓wDraw_e, ↓wLSet_e, ↓wNever_e, ↓wFld_e, ↓wMeth_e, ↓wMake_e, ↓wFldN_e, ↓wZip_e, ↓wPut_e, ↓wfList_e, ↓wfDict_e, ↓wfDisp1_e, ↓wPop0_e, ↓wOFld_e, ↓wOFldS_e, ↓wOApp_e, ↓wOPut_e, ↓wFldNO_e, ↓wMethO_e, ↓wGet1_e, ↓wfCut_e, ↓wfDk_e, ↓wfDt_e, ↓wCopy_e, ↓wRowPk_e, ↓wPutRow_e, ↓wTru_e, ↓wLc_e, ↓wYes_e, ↓wAug_e, dLt, dLe, dGt, dGe, dSub, dMul, dMod, dFdiv, dPow, dI2, dI2C, dAdd, dEq, dNe, dLen, dInt, dIx_l, dIx_t, dIx_s, dList, dSum, dCut, atI_zero, atI_one, Option.some.injEq, dTru, dMax2, dMin2, dAddI, dEqS, dIs, dNotIs, dSortDI, obD, id_eq, List.getElem?_cons_zero, List.getElem?_cons_succ, List.set_cons_zero, List.set_cons_succ, List.length_cons, List.length_nil, D.bl.injEq, exists_eq_left', decide_eq_true_eq, decide_eq_false_iff_not, Bool.not_eq_true', Bool.not_eq_false', Nat.zero_add, Nat.reduceAdd, true_and, and_true, forall_const, reduceCtorEq, not_true_eq_false, not_false_eq_true, false_implies, true_implies, implies_true, sz_line, Nat.reduceLeDiff, Int.reduceLE, Int.reduceLT, Int.reduceNeg, Int.reducePow, Int.reduceAdd, Int.reduceSub, Int.reduceMul, wipeD, List.reverse_cons, List.reverse_nil, List.nil_append, noOwnB, List.all_cons, List.all_nil, Bool.and_true, Bool.true_and, wf__law_draw]
        intro z z0 z1
        exact ⟨by omega, ht _ ⟨Int.emod_nonneg _ (by omega), Int.emod_lt_of_pos _ (by omega)⟩⟩
      · simp only [↓wSeq_e, ↓wNext_e, ↓wBreak_e, ↓wCont_e, ↓wRet_e, ↓wRetN_e, ↓wDrop_e, ↓wIf_e, ↓wAnd_e, ↓wOr_e, ↓wNot_e, ↓wTst_e, ↓wAndV_e, ↓wOrV_e, ↓wNotV_e, ↓wIfE_e, ↓wChain_e, ↓wVar_e, ↓wPk_e, ↓wC_e, ↓wOp_e, ↓wUn_e, ↓wM1_e, ↓wTup_e, ↓wfLst_e, ↓wFz_e, ↓waNil_e, ↓waCons_e, ↓asNil_e, ↓asCons_e, ↓asBox_e, ↓wCall_e, ↓wAsg_e, ↓wSt_e, ↓wAsgO_e, ↓wTp_e, ↓wTpL_e, ↓wPar_e, ↓wStL_nil, ↓wStL_cons, ↓wFor_e, ↓wRg1_e, ↓wRg2_e, ↓wItL_e, ↓wItT_e, ↓wItS_e, ↓wApp_e, ↓woNone_e, ↓woSome_e, ↓wCut_e, ↓wBx1_e, ↓wBx0_e, ↓wBxPut_e, ↓wDraw_e, ↓wLSet_e, ↓wNever_e, ↓wFld_e, ↓wMeth_e, ↓wMake_e, ↓wFldN_e, ↓wZip_e, ↓wPut_e, ↓wfList_e, ↓wfDict_e, ↓wfDisp1_e, ↓wPop0_e, ↓wOFld_e, ↓wOFldS_e, ↓wOApp_e, ↓wOPut_e, ↓wFldNO_e, ↓wMethO_e, ↓wGet1_e, ↓wfCut_e, ↓wfDk_e, ↓wfDt_e, ↓wCopy_e, ↓wRowPk_e, ↓wPutRow_e, ↓wTru_e, ↓wLc_e, ↓wYes_e, ↓wAug_e, dLt, dLe, dGt, dGe, dSub, dMul, dMod, dFdiv, dPow, dI2, dI2C, dAdd, dEq, dNe, dLen, dInt, dIx_l, dIx_t, dIx_s, dList, dSum, dCut, atI_zero, atI_one, Option.some.injEq, dTru, dMax2, dMin2, dAddI, dEqS, dIs, dNotIs, dSortDI, obD, id_eq, List.getElem?_cons_zero, List.getElem?_cons_succ, List.set_cons_zero, List.set_cons_succ, List.length_cons, List.length_nil, D.bl.injEq, exists_eq_left', decide_eq_true_eq, decide_eq_false_iff_not, Bool.not_eq_true', Bool.not_eq_false', Nat.zero_add, Nat.reduceAdd, true_and, and_true, forall_const, reduceCtorEq, not_true_eq_false, not_false_eq_true, false_implies, true_implies, implies_true, sz_line, Nat.reduceLeDiff, Int.reduceLE, Int.reduceLT, Int.reduceNeg, Int.reducePow, Int.reduceAdd, Int.reduceSub, Int.reduceMul, wipeD, List.reverse_cons, List.reverse_nil, List.nil_append, noOwnB, List.all_cons, List.all_nil, Bool.and_true, Bool.true_and]
        refine dDict_row nd hr1 ?_
        simp only [↓wSeq_e, ↓wNext_e, ↓wBreak_e, ↓wCont_e, ↓wRet_e, ↓wRetN_e, ↓wDrop_e, ↓wIf_e, ↓wAnd_e, ↓wOr_e, ↓wNot_e, ↓wTst_e, ↓wAndV_e, ↓wOrV_e, ↓wNotV_e, ↓wIfE_e, ↓wChain_e, ↓wVar_e, ↓wPk_e, ↓wC_e, ↓wOp_e, ↓wUn_e, ↓wM1_e, ↓wTup_e, ↓wfLst_e, ↓wFz_e, ↓waNil_e, ↓waCons_e, ↓asNil_e, ↓asCons_e, ↓asBox_e, ↓wCall_e, ↓wAsg_e, ↓wSt_e, ↓wAsgO_e, ↓wTp_e, ↓wTpL_e, ↓wPar_e, ↓wStL_nil, ↓wStL_cons, ↓wFor_e, ↓wRg1_e, ↓wRg2_e, ↓wItL_e, ↓wItT_e, ↓wItS_e, ↓wApp_e, ↓woNone_e, ↓woSome_e, ↓wCut_e, ↓wBx1_e, ↓wBx0_e, ↓wBxPut_e, ↓wDraw_e, ↓wLSet_e, ↓wNever_e, ↓wFld_e, ↓wMeth_e, ↓wMake_e, ↓wFldN_e, ↓wZip_e, ↓wPut_e, ↓wfList_e, ↓wfDict_e, ↓wfDisp1_e, ↓wPop0_e, ↓wOFld_e, ↓wOFldS_e, ↓wOApp_e, ↓wOPut_e, ↓wFldNO_e, ↓wMethO_e, ↓wGet1_e, ↓wfCut_e, ↓wfDk_e, ↓wfDt_e, ↓wCopy_e, ↓wRowPk_e, ↓wPutRow_e, ↓wTru_e, ↓wLc_e, ↓wYes_e, ↓wAug_e, dLt, dLe, dGt, dGe, dSub, dMul, dMod, dFdiv, dPow, dI2, dI2C, dAdd, dEq, dNe, dLen, dInt, dIx_l, dIx_t, dIx_s, dList, dSum, dCut, atI_zero, atI_one, Option.some.injEq, dTru, dMax2, dMin2, dAddI, dEqS, dIs, dNotIs, dSortDI, obD, id_eq, List.getElem?_cons_zero, List.getElem?_cons_succ, List.set_cons_zero, List.set_cons_succ, List.length_cons, List.length_nil, D.bl.injEq, exists_eq_left', decide_eq_true_eq, decide_eq_false_iff_not, Bool.not_eq_true', Bool.not_eq_false', Nat.zero_add, Nat.reduceAdd, true_and, and_true, forall_const, reduceCtorEq, not_true_eq_false, not_false_eq_true, false_implies, true_implies, implies_true, sz_line, Nat.reduceLeDiff, Int.reduceLE, Int.reduceLT, Int.reduceNeg, Int.reducePow, Int.reduceAdd, Int.reduceSub, Int.reduceMul, rowsOf, List.length_map]
        refine ⟨by omega, ?_⟩
        simp only [w__law_machine_t1, ↓wSeq_e, ↓wNext_e, ↓wBreak_e, ↓wCont_e, ↓wRet_e, ↓wRetN_e, ↓wDrop_e, ↓wIf_e, ↓wAnd_e, ↓wOr_e, ↓wNot_e, ↓wTst_e, ↓wAndV_e, ↓wOrV_e, ↓wNotV_e, ↓wIfE_e, ↓wChain_e, ↓wVar_e, ↓wPk_e, ↓wC_e, ↓wOp_e, ↓wUn_e, ↓wM1_e, ↓wTup_e, ↓wfLst_e, ↓wFz_e, ↓waNil_e, ↓waCons_e, ↓asNil_e, ↓asCons_e, ↓asBox_e, ↓wCall_e, ↓wAsg_e, ↓wSt_e, ↓wAsgO_e, ↓wTp_e, ↓wTpL_e, ↓wPar_e, ↓wStL_nil, ↓wStL_cons, ↓wFor_e, ↓wRg1_e, ↓wRg2_e, ↓wItL_e, ↓wItT_e, ↓wItS_e, ↓wApp_e, ↓woNone_e, ↓woSome_e, ↓wCut_e, ↓wBx1_e, ↓wBx0_e, ↓wBxPut_e, ↓wDraw_e, ↓wLSet_e, ↓wNever_e, ↓wFld_e, ↓wMeth_e, ↓wMake_e, ↓wFldN_e, ↓wZip_e, ↓wPut_e, ↓wfList_e, ↓wfDict_e, ↓wfDisp1_e, ↓wPop0_e, ↓wOFld_e, ↓wOFldS_e, ↓wOApp_e, ↓wOPut_e, ↓wFldNO_e, ↓wMethO_e, ↓wGet1_e, ↓wfCut_e, ↓wfDk_e, ↓wfDt_e, ↓wCopy_e, ↓wRowPk_e, ↓wPutRow_e, ↓wTru_e, ↓wLc_e, ↓wYes_e, ↓wAug_e, dLt, dLe, dGt, dGe, dSub, dMul, dMod, dFdiv, dPow, dI2, dI2C, dAdd, dEq, dNe, dLen, dInt, dIx_l, dIx_t, dIx_s, dList, dSum, dCut, atI_zero, atI_one, Option.some.injEq, dTru, dMax2, dMin2, dAddI, dEqS, dIs, dNotIs, dSortDI, obD, id_eq, List.getElem?_cons_zero, List.getElem?_cons_succ, List.set_cons_zero, List.set_cons_succ, List.length_cons, List.length_nil, D.bl.injEq, exists_eq_left', decide_eq_true_eq, decide_eq_false_iff_not, Bool.not_eq_true', Bool.not_eq_false', Nat.zero_add, Nat.reduceAdd, true_and, and_true, forall_const, reduceCtorEq, not_true_eq_false, not_false_eq_true, false_implies, true_implies, implies_true, sz_line, Nat.reduceLeDiff, Int.reduceLE, Int.reduceLT, Int.reduceNeg, Int.reducePow, Int.reduceAdd, Int.reduceSub, Int.reduceMul, List.length_map]
        refine ⟨by omega, rfl, ?_⟩
        refine facts_lc (ρ := [_, _, _, _, _, _, _, .no]) (P := fun s => -10 ≤ s ∧ s ≤ 10) (fun f hf Kt ht => ?_) fun r2 hr2 hP2 => ?_
        · simp only [↓wSeq_e, ↓wNext_e, ↓wBreak_e, ↓wCont_e, ↓wRet_e, ↓wRetN_e, ↓wDrop_e, ↓wIf_e, ↓wAnd_e, ↓wOr_e, ↓wNot_e, ↓wTst_e, ↓wAndV_e, ↓wOrV_e, ↓wNotV_e, ↓wIfE_e, ↓wChain_e, ↓wVar_e, ↓wPk_e, ↓wC_e, ↓wOp_e, ↓wUn_e, ↓wM1_e, ↓wTup_e, ↓wfLst_e, ↓wFz_e, ↓waNil_e, ↓waCons_e, ↓asNil_e, ↓asCons_e, ↓asBox_e, ↓wCall_e, ↓wAsg_e, ↓wSt_e, ↓wAsgO_e, ↓wTp_e, ↓wTpL_e, ↓wPar_e, ↓wStL_nil, ↓wStL_cons, ↓wFor_e, ↓wRg1_e, ↓wRg2_e, ↓wItL_e, ↓wItT_e, ↓wItS_e, ↓wApp_e, ↓woNone_e, ↓woSome_e, ↓wCut_e, ↓wBx1_e, ↓wBx0_e, ↓wBxPut_e, ↓wDraw_e, ↓wLSet_e, ↓wNever_e, ↓wFld_e, ↓wMeth_e, ↓wMake_e, ↓wFldN_e, ↓wZip_e, ↓wPut_e, ↓wfList_e, ↓wfDict_e, ↓wfDisp1_e, ↓wPop0_e, ↓wOFld_e, ↓wOFldS_e, ↓wOApp_e, ↓wOPut_e, ↓wFldNO_e, ↓wMethO_e, ↓wGet1_e, ↓wfCut_e, ↓wfDk_e, ↓wfDt_e, ↓wCopy_e, ↓wRowPk_e, ↓wPutRow_e, ↓wTru_e, ↓wLc_e, ↓wYes_e, ↓wAug_e, dLt, dLe, dGt, dGe, dSub, dMul, dMod, dFdiv, dPow, dI2, dI2C, dAdd, dEq, dNe, dLen, dInt, dIx_l, dIx_t, dIx_s, dList, dSum, dCut, atI_zero, atI_one, Option.some.injEq, dTru, dMax2, dMin2, dAddI, dEqS, dIs, dNotIs, dSortDI, obD, id_eq, List.getElem?_cons_zero, List.getElem?_cons_succ, List.set_cons_zero, List.set_cons_succ, List.length_cons, List.length_nil, D.bl.injEq, exists_eq_left', decide_eq_true_eq, decide_eq_false_iff_not, Bool.not_eq_true', Bool.not_eq_false', Nat.zero_add, Nat.reduceAdd, true_and, and_true, forall_const, reduceCtorEq, not_true_eq_false, not_false_eq_true, false_implies, true_implies, implies_true, sz_line, Nat.reduceLeDiff, Int.reduceLE, Int.reduceLT, Int.reduceNeg, Int.reducePow, Int.reduceAdd, Int.reduceSub, Int.reduceMul, wipeD, List.reverse_cons, List.reverse_nil, List.nil_append, noOwnB, List.all_cons, List.all_nil, Bool.and_true, Bool.true_and, wf__law_draw]
          intro z z0 z1
          obtain ⟨d, hd, e⟩ := atI_mem (l := [D.int 0, .int 0, .int 1, .int 2, .int (-1), .int (-2), .int 3]) z0 z1
          refine ⟨d, e, ?_⟩
          have hh : ∃ v : Int, d = .int v ∧ -10 ≤ v ∧ v ≤ 10 := by
            simp only [List.mem_cons, List.not_mem_nil, or_false] at hd
            rcases hd with rfl | rfl | rfl | rfl | rfl | rfl | rfl <;> exact ⟨_, rfl, by decide⟩
          obtain ⟨v, rfl, hv⟩ := hh
          exact ht v hv
        · simp only [↓wSeq_e, ↓wNext_e, ↓wBreak_e, ↓wCont_e, ↓wRet_e, ↓wRetN_e, ↓wDrop_e, ↓wIf_e, ↓wAnd_e, ↓wOr_e, ↓wNot_e, ↓wTst_e, ↓wAndV_e, ↓wOrV_e, ↓wNotV_e, ↓wIfE_e, ↓wChain_e, ↓wVar_e, ↓wPk_e, ↓wC_e, ↓wOp_e, ↓wUn_e, ↓wM1_e, ↓wTup_e, ↓wfLst_e, ↓wFz_e, ↓waNil_e, ↓waCons_e, ↓asNil_e, ↓asCons_e, ↓asBox_e, ↓wCall_e, ↓wAsg_e, ↓wSt_e, ↓wAsgO_e, ↓wTp_e, ↓wTpL_e, ↓wPar_e, ↓wStL_nil, ↓wStL_cons, ↓wFor_e, ↓wRg1_e, ↓wRg2_e, ↓wItL_e, ↓wItT_e, ↓wItS_e, ↓wApp_e, ↓woNone_e, ↓woSome_e, ↓wCut_e, ↓wBx1_e, ↓wBx0_e, ↓wBxPut_e, ↓wDraw_e, ↓wLSet_e, ↓wNever_e, ↓wFld_e, ↓wMeth_e, ↓wMake_e, ↓wFldN_e, ↓wZip_e, ↓wPut_e, ↓wfList_e, ↓wfDict_e, ↓wfDisp1_e, ↓wPop0_e, ↓wOFld_e, ↓wOFldS_e, ↓wOApp_e, ↓wOPut_e, ↓wFldNO_e, ↓wMethO_e, ↓wGet1_e, ↓wfCut_e, ↓wfDk_e, ↓wfDt_e, ↓wCopy_e, ↓wRowPk_e, ↓wPutRow_e, ↓wTru_e, ↓wLc_e, ↓wYes_e, ↓wAug_e, dLt, dLe, dGt, dGe, dSub, dMul, dMod, dFdiv, dPow, dI2, dI2C, dAdd, dEq, dNe, dLen, dInt, dIx_l, dIx_t, dIx_s, dList, dSum, dCut, atI_zero, atI_one, Option.some.injEq, dTru, dMax2, dMin2, dAddI, dEqS, dIs, dNotIs, dSortDI, obD, id_eq, List.getElem?_cons_zero, List.getElem?_cons_succ, List.set_cons_zero, List.set_cons_succ, List.length_cons, List.length_nil, D.bl.injEq, exists_eq_left', decide_eq_true_eq, decide_eq_false_iff_not, Bool.not_eq_true', Bool.not_eq_false', Nat.zero_add, Nat.reduceAdd, true_and, and_true, forall_const, reduceCtorEq, not_true_eq_false, not_false_eq_true, false_implies, true_implies, implies_true, sz_line, Nat.reduceLeDiff, Int.reduceLE, Int.reduceLT, Int.reduceNeg, Int.reducePow, Int.reduceAdd, Int.reduceSub, Int.reduceMul, wipeD, List.reverse_cons, List.reverse_nil, List.nil_append, noOwnB, List.all_cons, List.all_nil, Bool.and_true, Bool.true_and]
          refine dDict_row nd hr2 ?_
          simp only [↓wSeq_e, ↓wNext_e, ↓wBreak_e, ↓wCont_e, ↓wRet_e, ↓wRetN_e, ↓wDrop_e, ↓wIf_e, ↓wAnd_e, ↓wOr_e, ↓wNot_e, ↓wTst_e, ↓wAndV_e, ↓wOrV_e, ↓wNotV_e, ↓wIfE_e, ↓wChain_e, ↓wVar_e, ↓wPk_e, ↓wC_e, ↓wOp_e, ↓wUn_e, ↓wM1_e, ↓wTup_e, ↓wfLst_e, ↓wFz_e, ↓waNil_e, ↓waCons_e, ↓asNil_e, ↓asCons_e, ↓asBox_e, ↓wCall_e, ↓wAsg_e, ↓wSt_e, ↓wAsgO_e, ↓wTp_e, ↓wTpL_e, ↓wPar_e, ↓wStL_nil, ↓wStL_cons, ↓wFor_e, ↓wRg1_e, ↓wRg2_e, ↓wItL_e, ↓wItT_e, ↓wItS_e, ↓wApp_e, ↓woNone_e, ↓woSome_e, ↓wCut_e, ↓wBx1_e, ↓wBx0_e, ↓wBxPut_e, ↓wDraw_e, ↓wLSet_e, ↓wNever_e, ↓wFld_e, ↓wMeth_e, ↓wMake_e, ↓wFldN_e, ↓wZip_e, ↓wPut_e, ↓wfList_e, ↓wfDict_e, ↓wfDisp1_e, ↓wPop0_e, ↓wOFld_e, ↓wOFldS_e, ↓wOApp_e, ↓wOPut_e, ↓wFldNO_e, ↓wMethO_e, ↓wGet1_e, ↓wfCut_e, ↓wfDk_e, ↓wfDt_e, ↓wCopy_e, ↓wRowPk_e, ↓wPutRow_e, ↓wTru_e, ↓wLc_e, ↓wYes_e, ↓wAug_e, dLt, dLe, dGt, dGe, dSub, dMul, dMod, dFdiv, dPow, dI2, dI2C, dAdd, dEq, dNe, dLen, dInt, dIx_l, dIx_t, dIx_s, dList, dSum, dCut, atI_zero, atI_one, Option.some.injEq, dTru, dMax2, dMin2, dAddI, dEqS, dIs, dNotIs, dSortDI, obD, id_eq, List.getElem?_cons_zero, List.getElem?_cons_succ, List.set_cons_zero, List.set_cons_succ, List.length_cons, List.length_nil, D.bl.injEq, exists_eq_left', decide_eq_true_eq, decide_eq_false_iff_not, Bool.not_eq_true', Bool.not_eq_false', Nat.zero_add, Nat.reduceAdd, true_and, and_true, forall_const, reduceCtorEq, not_true_eq_false, not_false_eq_true, false_implies, true_implies, implies_true, sz_line, Nat.reduceLeDiff, Int.reduceLE, Int.reduceLT, Int.reduceNeg, Int.reducePow, Int.reduceAdd, Int.reduceSub, Int.reduceMul, List.length_map]
          refine ⟨by omega, ?_⟩
          refine hC _ ⟨sr ++ [r1], gr ++ [r2], .sh d, .inr ⟨d, rfl⟩, by simp [rowsOf], by simp; omega, by simp [hgl], fun r hr => ?_, fun r hr => ?_⟩
          · rcases List.mem_append.mp hr with hr | hr
            · exact hs r hr
            · rw [List.mem_singleton.mp hr]; exact ⟨hr1, hP1⟩
          · rcases List.mem_append.mp hr with hr | hr
            · exact hg r hr
            · rw [List.mem_singleton.mp hr]; exact ⟨hr2, hP2⟩
    · rintro ρ ⟨sr, gr, s6, h6, rfl, hl, hgl, hs, hg⟩
      simp only [w__law_machine_t2, ↓wSeq_e, ↓wNext_e, ↓wBreak_e, ↓wCont_e, ↓wRet_e, ↓wRetN_e, ↓wDrop_e, ↓wIf_e, ↓wAnd_e, ↓wOr_e, ↓wNot_e, ↓wTst_e, ↓wAndV_e, ↓wOrV_e, ↓wNotV_e, ↓wIfE_e, ↓wChain_e, ↓wVar_e, ↓wPk_e, ↓wC_e, ↓wOp_e, ↓wUn_e, ↓wM1_e, ↓wTup_e, ↓wfLst_e, ↓wFz_e, ↓waNil_e, ↓waCons_e, ↓asNil_e, ↓asCons_e, ↓asBox_e, ↓wCall_e, ↓wAsg_e, ↓wSt_e, ↓wAsgO_e, ↓wTp_e, ↓wTpL_e, ↓wPar_e, ↓wStL_nil, ↓wStL_cons, ↓wFor_e, ↓wRg1_e, ↓wRg2_e, ↓wItL_e, ↓wItT_e, ↓wItS_e, ↓wApp_e, ↓woNone_e, ↓woSome_e, ↓wCut_e, ↓wBx1_e, ↓wBx0_e, ↓wBxPut_e, ↓wDraw_e, ↓wLSet_e, ↓wNever_e, ↓wFld_e, ↓wMeth_e, ↓wMake_e, ↓wFldN_e, ↓wZip_e, ↓wPut_e, ↓wfList_e, ↓wfDict_e, ↓wfDisp1_e, ↓wPop0_e, ↓wOFld_e, ↓wOFldS_e, ↓wOApp_e, ↓wOPut_e, ↓wFldNO_e, ↓wMethO_e, ↓wGet1_e, ↓wfCut_e, ↓wfDk_e, ↓wfDt_e, ↓wCopy_e, ↓wRowPk_e, ↓wPutRow_e, ↓wTru_e, ↓wLc_e, ↓wYes_e, ↓wAug_e, dLt, dLe, dGt, dGe, dSub, dMul, dMod, dFdiv, dPow, dI2, dI2C, dAdd, dEq, dNe, dLen, dInt, dIx_l, dIx_t, dIx_s, dList, dSum, dCut, atI_zero, atI_one, Option.some.injEq, dTru, dMax2, dMin2, dAddI, dEqS, dIs, dNotIs, dSortDI, obD, id_eq, List.getElem?_cons_zero, List.getElem?_cons_succ, List.set_cons_zero, List.set_cons_succ, List.length_cons, List.length_nil, D.bl.injEq, exists_eq_left', decide_eq_true_eq, decide_eq_false_iff_not, Bool.not_eq_true', Bool.not_eq_false', Nat.zero_add, Nat.reduceAdd, true_and, and_true, forall_const, reduceCtorEq, not_true_eq_false, not_false_eq_true, false_implies, true_implies, implies_true, sz_line, Nat.reduceLeDiff, Int.reduceLE, Int.reduceLT, Int.reduceNeg, Int.reducePow, Int.reduceAdd, Int.reduceSub, Int.reduceMul]
      have e6 : noOwnB [Sl.bx, Sl.sh (D.lst (List.map D.str fs)), Sl.sh (D.int most), Sl.sh (D.int n), Sl.sh (D.lst (rowsOf fs sr)), Sl.sh (D.lst (rowsOf fs gr)), s6, Sl.no] [6] = true := by
        rcases h6 with rfl | ⟨d, rfl⟩ <;> rfl
      refine ⟨by omega, by rw [rangeD_length]; omega, e6, ?_⟩
      rw [List.length_nil, Nat.add_zero] at hl
      refine wLcL_rule (ρ := [.bx, .sh (.lst (fs.map D.str)), .sh (.int most), .sh (.int n), .sh (.lst (rowsOf fs sr)), .sh (.lst (rowsOf fs gr)), .no, .no]) (fun d => True) (fun _ o => ∃ y, o = some y ∧ ∃ c : Int, y = .int c ∧ -10 ≤ c ∧ c ≤ 10) ?_ _ _ _ (fun _ _ => trivial) ?_
      · rintro d _ Kt Kf ht hf
        simp only [↓wSeq_e, ↓wNext_e, ↓wBreak_e, ↓wCont_e, ↓wRet_e, ↓wRetN_e, ↓wDrop_e, ↓wIf_e, ↓wAnd_e, ↓wOr_e, ↓wNot_e, ↓wTst_e, ↓wAndV_e, ↓wOrV_e, ↓wNotV_e, ↓wIfE_e, ↓wChain_e, ↓wVar_e, ↓wPk_e, ↓wC_e, ↓wOp_e, ↓wUn_e, ↓wM1_e, ↓wTup_e, ↓wfLst_e, ↓wFz_e, ↓waNil_e, ↓waCons_e, ↓asNil_e, ↓asCons_e, ↓asBox_e, ↓wCall_e, ↓wAsg_e, ↓wSt_e, ↓wAsgO_e, ↓wTp_e, ↓wTpL_e, ↓wPar_e, ↓wStL_nil, ↓wStL_cons, ↓wFor_e, ↓wRg1_e, ↓wRg2_e, ↓wItL_e, ↓wItT_e, ↓wItS_e, ↓wApp_e, ↓woNone_e, ↓woSome_e, ↓wCut_e, ↓wBx1_e, ↓wBx0_e, ↓wBxPut_e, ↓wDraw_e, ↓wLSet_e, ↓wNever_e, ↓wFld_e, ↓wMeth_e, ↓wMake_e, ↓wFldN_e, ↓wZip_e, ↓wPut_e, ↓wfList_e, ↓wfDict_e, ↓wfDisp1_e, ↓wPop0_e, ↓wOFld_e, ↓wOFldS_e, ↓wOApp_e, ↓wOPut_e, ↓wFldNO_e, ↓wMethO_e, ↓wGet1_e, ↓wfCut_e, ↓wfDk_e, ↓wfDt_e, ↓wCopy_e, ↓wRowPk_e, ↓wPutRow_e, ↓wTru_e, ↓wLc_e, ↓wYes_e, ↓wAug_e, dLt, dLe, dGt, dGe, dSub, dMul, dMod, dFdiv, dPow, dI2, dI2C, dAdd, dEq, dNe, dLen, dInt, dIx_l, dIx_t, dIx_s, dList, dSum, dCut, atI_zero, atI_one, Option.some.injEq, dTru, dMax2, dMin2, dAddI, dEqS, dIs, dNotIs, dSortDI, obD, id_eq, List.getElem?_cons_zero, List.getElem?_cons_succ, List.set_cons_zero, List.set_cons_succ, List.length_cons, List.length_nil, D.bl.injEq, exists_eq_left', decide_eq_true_eq, decide_eq_false_iff_not, Bool.not_eq_true', Bool.not_eq_false', Nat.zero_add, Nat.reduceAdd, true_and, and_true, forall_const, reduceCtorEq, not_true_eq_false, not_false_eq_true, false_implies, true_implies, implies_true, sz_line, Nat.reduceLeDiff, Int.reduceLE, Int.reduceLT, Int.reduceNeg, Int.reducePow, Int.reduceAdd, Int.reduceSub, Int.reduceMul, wipeD, List.reverse_cons, List.reverse_nil, List.nil_append, noOwnB, List.all_cons, List.all_nil, Bool.and_true, Bool.true_and, wf__law_draw]
        intro z z0 z1
        exact ht _ ⟨_, rfl, _, rfl, by omega, by omega⟩
      · intro ys hy
        obtain ⟨y1, y2⟩ := hy.all
        obtain ⟨cs, rfl, c2, c3⟩ := ints_of y2
        rw [rangeD_length] at y1
        rw [List.nil_append]
        refine ⟨rfl, fun x => ⟨rfl, by simp; omega, by simp [rowsOf]; omega, by simp [rowsOf]; omega, by simp; omega, ⟨sr.map (rowOf fs), by simp [rowsOf]⟩, ⟨gr.map (rowOf fs), by simp [rowsOf]⟩, _, rfl, rfl, ?_⟩⟩
        have := q ⟨fs, sr, gr, cs⟩ rfl fun f3 => ⟨nd, f1, f3, by show 1 ≤ cs.length; omega, by show cs.length ≤ most.toNat; omega, by show sr.length = cs.length; omega, by show gr.length = cs.length; omega, fun r hr => ⟨(hs r hr).1, fun s hs' => by
          have := (hs r hr).2 s hs'
          show 0 ≤ s ∧ s < (cs.length : Int)
          omega⟩, hg, c2⟩
        exact this
  · exact h.elim
/-! ### _law_carry -/
def wf__law_carry : WFn
  | [.bx, .sh d, .sh e], Q => ∃ m o : Mach, d = m.dd ∧ e = o.dd ∧ m.leave.length ≤ 100 ∧ 1 ≤ o.leave.length ∧ ∀ c : Cary, c.ok m.leave.length o.leave.length → Q c.dd
  | _, _ => False
theorem len__law_carry : ∀ as Qd, wf__law_carry as Qd → as.length = 3 := fun as Qd h => by
  unfold wf__law_carry at h
  split at h
  · rfl
  · exact h.elim

def w__law_carry : WS := (wSeq (wAsg (wUn dLen (wFld "Machine" "leave" (wPk 1))) (wSt 3))
 (wSeq (wAsg (wFz (wLc [5] (wRg1 (waCons (wVar 3) waNil)) (wSt 5) wYes (wOp dMod (wUn dInt (wCall wf__law_draw (asBox 0 (asCons (wC (.int 900)) asNil)))) (wUn dLen (wFld "Machine" "leave" (wPk 2)))))) (wSt 4))
 (wRet (wMake "Carry" wf_Carry_init (asCons (wVar 4) (asCons (wFz (wLc [5] (wRg1 (waCons (wVar 3) waNil)) (wSt 5) wYes (wOp dSub (wCall wf__law_draw (asBox 0 (asCons (wC (.int 7)) asNil))) (wC (.int 2))))) asNil))))))

theorem p__law_carry : ∀ as Qd, wf__law_carry as Qd → w__law_carry (startD ["_law_box_here", "_law_machine_here", "_law_other", "_law_many", "_law_to", "_law_state"] as) { nx := fun _ => Qd .non, rt := fun d _ => Qd d } := fun as Qd h => by
  unfold wf__law_carry at h
  split at h
  · obtain ⟨m, o, rfl, rfl, hm, ho, q⟩ := h
    show w__law_carry [.bx, .sh m.dd, .sh o.dd, .no, .no, .no] _
    simp only [w__law_carry, Mach.dd, Cary.dd, lk_facts, lk_step, lk_gain, lk_leave, lk_to, lk_cost, ↓wSeq_e, ↓wNext_e, ↓wBreak_e, ↓wCont_e, ↓wRet_e, ↓wRetN_e, ↓wDrop_e, ↓wIf_e, ↓wAnd_e, ↓wOr_e, ↓wNot_e, ↓wTst_e, ↓wAndV_e, ↓wOrV_e, ↓wNotV_e, ↓wIfE_e, ↓wChain_e, ↓wVar_e, ↓wPk_e, ↓wC_e, ↓wOp_e, ↓wUn_e, ↓wM1_e, ↓wTup_e, ↓wfLst_e, ↓wFz_e, ↓waNil_e, ↓waCons_e, ↓asNil_e, ↓asCons_e, ↓asBox_e, ↓wCall_e, ↓wAsg_e, ↓wSt_e, ↓wAsgO_e, ↓wTp_e, ↓wTpL_e, ↓wPar_e, ↓wStL_nil, ↓wStL_cons, ↓wFor_e, ↓wRg1_e, ↓wRg2_e, ↓wItL_e, ↓wItT_e, ↓wItS_e, ↓wApp_e, ↓woNone_e, ↓woSome_e, ↓wCut_e, ↓wBx1_e, ↓wBx0_e, ↓wBxPut_e, ↓wDraw_e, ↓wLSet_e, ↓wNever_e, ↓wFld_e, ↓wMeth_e, ↓wMake_e, ↓wFldN_e, ↓wZip_e, ↓wPut_e, ↓wfList_e, ↓wfDict_e, ↓wfDisp1_e, ↓wPop0_e, ↓wOFld_e, ↓wOFldS_e, ↓wOApp_e, ↓wOPut_e, ↓wFldNO_e, ↓wMethO_e, ↓wGet1_e, ↓wfCut_e, ↓wfDk_e, ↓wfDt_e, ↓wCopy_e, ↓wRowPk_e, ↓wPutRow_e, ↓wTru_e, ↓wLc_e, ↓wYes_e, ↓wAug_e, dLt, dLe, dGt, dGe, dSub, dMul, dMod, dFdiv, dPow, dI2, dI2C, dAdd, dEq, dNe, dLen, dInt, dIx_l, dIx_t, dIx_s, dList, dSum, dCut, atI_zero, atI_one, Option.some.injEq, dTru, dMax2, dMin2, dAddI, dEqS, dIs, dNotIs, dSortDI, obD, id_eq, List.getElem?_cons_zero, List.getElem?_cons_succ, List.set_cons_zero, List.set_cons_succ, List.length_cons, List.length_nil, D.bl.injEq, exists_eq_left', decide_eq_true_eq, decide_eq_false_iff_not, Bool.not_eq_true', Bool.not_eq_false', Nat.zero_add, Nat.reduceAdd, true_and, and_true, forall_const, reduceCtorEq, not_true_eq_false, not_false_eq_true, false_implies, true_implies, implies_true, sz_line, Nat.reduceLeDiff, Int.reduceLE, Int.reduceLT, Int.reduceNeg, Int.reducePow, Int.reduceAdd, Int.reduceSub, Int.reduceMul, List.length_map]
    refine ⟨by omega, by rw [rangeD_length]; omega, rfl, ?_⟩
    refine ints_lc (ρ := [_, _, _, _, .no, .no]) (P := fun s => 0 ≤ s ∧ s < (o.leave.length : Int)) (fun d hd Kt ht => ?_) fun r1 h1 p1 => ?_
    · simp only [↓wSeq_e, ↓wNext_e, ↓wBreak_e, ↓wCont_e, ↓wRet_e, ↓wRetN_e, ↓wDrop_e, ↓wIf_e, ↓wAnd_e, ↓wOr_e, ↓wNot_e, ↓wTst_e, ↓wAndV_e, ↓wOrV_e, ↓wNotV_e, ↓wIfE_e, ↓wChain_e, ↓wVar_e, ↓wPk_e, ↓wC_e, ↓wOp_e, ↓wUn_e, ↓wM1_e, ↓wTup_e, ↓wfLst_e, ↓wFz_e, ↓waNil_e, ↓waCons_e, ↓asNil_e, ↓asCons_e, ↓asBox_e, ↓wCall_e, ↓wAsg_e, ↓wSt_e, ↓wAsgO_e, ↓wTp_e, ↓wTpL_e, ↓wPar_e, ↓wStL_nil, ↓wStL_cons, ↓wFor_e, ↓wRg1_e, ↓wRg2_e, ↓wItL_e, ↓wItT_e, ↓wItS_e, ↓wApp_e, ↓woNone_e, ↓woSome_e, ↓wCut_e, ↓wBx1_e, ↓wBx0_e, ↓wBxPut_e, ↓wDraw_e, ↓wLSet_e, ↓wNever_e, ↓wFld_e, ↓wMeth_e, ↓wMake_e, ↓wFldN_e, ↓wZip_e, ↓wPut_e, ↓wfList_e, ↓wfDict_e, ↓wfDisp1_e, ↓wPop0_e, ↓wOFld_e, ↓wOFldS_e, ↓wOApp_e, ↓wOPut_e, ↓wFldNO_e, ↓wMethO_e, ↓wGet1_e, ↓wfCut_e, ↓wfDk_e, ↓wfDt_e, ↓wCopy_e, ↓wRowPk_e, ↓wPutRow_e, ↓wTru_e, ↓wLc_e, ↓wYes_e, ↓wAug_e, dLt, dLe, dGt, dGe, dSub, dMul, dMod, dFdiv, dPow, dI2, dI2C, dAdd, dEq, dNe, dLen, dInt, dIx_l, dIx_t, dIx_s, dList, dSum, dCut, atI_zero, atI_one, Option.some.injEq, dTru, dMax2, dMin2, dAddI, dEqS, dIs, dNotIs, dSortDI, obD, id_eq, List.getElem?_cons_zero, List.getElem?_cons_succ, List.set_cons_zero, List.set_cons_succ, List.length_cons, List.length_nil, D.bl.injEq, exists_eq_left', decide_eq_true_eq, decide_eq_false_iff_not, Bool.not_eq_true', Bool.not_eq_false', Nat.zero_add, Nat.reduceAdd, true_and, and_true, forall_const, reduceCtorEq, not_true_eq_false, not_false_eq_true, false_implies, true_implies, implies_true, sz_line, Nat.reduceLeDiff, Int.reduceLE, Int.reduceLT, Int.reduceNeg, Int.reducePow, Int.reduceAdd, Int.reduceSub, Int.reduceMul, wipeD, List.reverse_cons, List.reverse_nil, List.nil_append, noOwnB, List.all_cons, List.all_nil, Bool.and_true, Bool.true_and, Mach.dd, Cary.dd, lk_facts, lk_step, lk_gain, lk_leave, lk_to, lk_cost, wf__law_draw, List.length_map]
      intro z z0 z1
      exact ⟨by omega, ht _ ⟨Int.emod_nonneg _ (by omega), Int.emod_lt_of_pos _ (by omega)⟩⟩
    · simp only [↓wSeq_e, ↓wNext_e, ↓wBreak_e, ↓wCont_e, ↓wRet_e, ↓wRetN_e, ↓wDrop_e, ↓wIf_e, ↓wAnd_e, ↓wOr_e, ↓wNot_e, ↓wTst_e, ↓wAndV_e, ↓wOrV_e, ↓wNotV_e, ↓wIfE_e, ↓wChain_e, ↓wVar_e, ↓wPk_e, ↓wC_e, ↓wOp_e, ↓wUn_e, ↓wM1_e, ↓wTup_e, ↓wfLst_e, ↓wFz_e, ↓waNil_e, ↓waCons_e, ↓asNil_e, ↓asCons_e, ↓asBox_e, ↓wCall_e, ↓wAsg_e, ↓wSt_e, ↓wAsgO_e, ↓wTp_e, ↓wTpL_e, ↓wPar_e, ↓wStL_nil, ↓wStL_cons, ↓wFor_e, ↓wRg1_e, ↓wRg2_e, ↓wItL_e, ↓wItT_e, ↓wItS_e, ↓wApp_e, ↓woNone_e, ↓woSome_e, ↓wCut_e, ↓wBx1_e, ↓wBx0_e, ↓wBxPut_e, ↓wDraw_e, ↓wLSet_e, ↓wNever_e, ↓wFld_e, ↓wMeth_e, ↓wMake_e, ↓wFldN_e, ↓wZip_e, ↓wPut_e, ↓wfList_e, ↓wfDict_e, ↓wfDisp1_e, ↓wPop0_e, ↓wOFld_e, ↓wOFldS_e, ↓wOApp_e, ↓wOPut_e, ↓wFldNO_e, ↓wMethO_e, ↓wGet1_e, ↓wfCut_e, ↓wfDk_e, ↓wfDt_e, ↓wCopy_e, ↓wRowPk_e, ↓wPutRow_e, ↓wTru_e, ↓wLc_e, ↓wYes_e, ↓wAug_e, dLt, dLe, dGt, dGe, dSub, dMul, dMod, dFdiv, dPow, dI2, dI2C, dAdd, dEq, dNe, dLen, dInt, dIx_l, dIx_t, dIx_s, dList, dSum, dCut, atI_zero, atI_one, Option.some.injEq, dTru, dMax2, dMin2, dAddI, dEqS, dIs, dNotIs, dSortDI, obD, id_eq, List.getElem?_cons_zero, List.getElem?_cons_succ, List.set_cons_zero, List.set_cons_succ, List.length_cons, List.length_nil, D.bl.injEq, exists_eq_left', decide_eq_true_eq, decide_eq_false_iff_not, Bool.not_eq_true', Bool.not_eq_false', Nat.zero_add, Nat.reduceAdd, true_and, and_true, forall_const, reduceCtorEq, not_true_eq_false, not_false_eq_true, false_implies, true_implies, implies_true, sz_line, Nat.reduceLeDiff, Int.reduceLE, Int.reduceLT, Int.reduceNeg, Int.reducePow, Int.reduceAdd, Int.reduceSub, Int.reduceMul, wipeD, List.reverse_cons, List.reverse_nil, List.nil_append, noOwnB, List.all_cons, List.all_nil, Bool.and_true, Bool.true_and]
      refine ⟨by omega, by rw [rangeD_length]; omega, ?_⟩
      refine ints_lc (ρ := [_, _, _, _, _, .no]) (P := fun s => -50 ≤ s ∧ s ≤ 50) (fun d hd Kt ht => ?_) fun r2 h2 p2 => ?_
      · simp only [↓wSeq_e, ↓wNext_e, ↓wBreak_e, ↓wCont_e, ↓wRet_e, ↓wRetN_e, ↓wDrop_e, ↓wIf_e, ↓wAnd_e, ↓wOr_e, ↓wNot_e, ↓wTst_e, ↓wAndV_e, ↓wOrV_e, ↓wNotV_e, ↓wIfE_e, ↓wChain_e, ↓wVar_e, ↓wPk_e, ↓wC_e, ↓wOp_e, ↓wUn_e, ↓wM1_e, ↓wTup_e, ↓wfLst_e, ↓wFz_e, ↓waNil_e, ↓waCons_e, ↓asNil_e, ↓asCons_e, ↓asBox_e, ↓wCall_e, ↓wAsg_e, ↓wSt_e, ↓wAsgO_e, ↓wTp_e, ↓wTpL_e, ↓wPar_e, ↓wStL_nil, ↓wStL_cons, ↓wFor_e, ↓wRg1_e, ↓wRg2_e, ↓wItL_e, ↓wItT_e, ↓wItS_e, ↓wApp_e, ↓woNone_e, ↓woSome_e, ↓wCut_e, ↓wBx1_e, ↓wBx0_e, ↓wBxPut_e, ↓wDraw_e, ↓wLSet_e, ↓wNever_e, ↓wFld_e, ↓wMeth_e, ↓wMake_e, ↓wFldN_e, ↓wZip_e, ↓wPut_e, ↓wfList_e, ↓wfDict_e, ↓wfDisp1_e, ↓wPop0_e, ↓wOFld_e, ↓wOFldS_e, ↓wOApp_e, ↓wOPut_e, ↓wFldNO_e, ↓wMethO_e, ↓wGet1_e, ↓wfCut_e, ↓wfDk_e, ↓wfDt_e, ↓wCopy_e, ↓wRowPk_e, ↓wPutRow_e, ↓wTru_e, ↓wLc_e, ↓wYes_e, ↓wAug_e, dLt, dLe, dGt, dGe, dSub, dMul, dMod, dFdiv, dPow, dI2, dI2C, dAdd, dEq, dNe, dLen, dInt, dIx_l, dIx_t, dIx_s, dList, dSum, dCut, atI_zero, atI_one, Option.some.injEq, dTru, dMax2, dMin2, dAddI, dEqS, dIs, dNotIs, dSortDI, obD, id_eq, List.getElem?_cons_zero, List.getElem?_cons_succ, List.set_cons_zero, List.set_cons_succ, List.length_cons, List.length_nil, D.bl.injEq, exists_eq_left', decide_eq_true_eq, decide_eq_false_iff_not, Bool.not_eq_true', Bool.not_eq_false', Nat.zero_add, Nat.reduceAdd, true_and, and_true, forall_const, reduceCtorEq, not_true_eq_false, not_false_eq_true, false_implies, true_implies, implies_true, sz_line, Nat.reduceLeDiff, Int.reduceLE, Int.reduceLT, Int.reduceNeg, Int.reducePow, Int.reduceAdd, Int.reduceSub, Int.reduceMul, wipeD, List.reverse_cons, List.reverse_nil, List.nil_append, noOwnB, List.all_cons, List.all_nil, Bool.and_true, Bool.true_and, wf__law_draw]
        intro z z0 z1
        exact ht _ (by omega)
      · rw [rangeD_length] at h1 h2
        refine ⟨rfl, fun x => ⟨rfl, by simp; omega, by simp; omega, _, rfl, rfl, ?_⟩⟩
        exact q ⟨r1, r2⟩ ⟨by show r1.length = _; omega, by show r2.length = _; omega, p1, p2⟩
  · exact h.elim
/-! ### _law_met -/
def wf__law_met : WFn
  | [.sh d, .sh e, .sh (.lst bs)], Q => ∃ (m o : Mach) (begins : List P2), d = m.dd ∧ e = o.dd ∧ bs = begins.map pD ∧ m.ok 8 20 ∧ o.ok 8 20 ∧ o.facts = m.facts ∧ (∀ p ∈ begins, inR m o p) ∧ Q (.lst ((metL m o begins).map pD))
  | _, _ => False
theorem len__law_met : ∀ as Qd, wf__law_met as Qd → as.length = 3 := fun as Qd h => by
  unfold wf__law_met at h
  split at h
  · rfl
  · exact h.elim
theorem shD_pD (p : P2) : shD (pD p) := by
  refine ⟨?_, ?_⟩ <;> simp [pD, okD, okDL, depD, depDL]
theorem okDL_prs : ∀ prs : List P2, okDL (prs.map pD) = true
  | [] => by simp only [List.map_nil, okDL]
  | p :: prs => by simp only [List.map_cons, okDL, okDL_prs prs, (shD_pD p).1, Bool.and_self]
theorem depDL_prs (prs : List P2) : depDL (prs.map pD) ≤ 5 := depDL_of fun d hd => by
  obtain ⟨p, _, rfl⟩ := List.mem_map.mp hd
  simp [pD, depD, depDL]
theorem shD_prs (prs : List P2) : shD (.lst (prs.map pD)) := by
  refine ⟨by simp only [okD, okDL_prs], ?_⟩
  simp only [depD]
  have := depDL_prs prs
  omega
theorem any_prs (p : P2) : ∀ prs : List P2, ((prs.map pD).any fun z => eqD z (pD p)) = decide (p ∈ prs)
  | [] => by simp
  | q :: prs => by
    rw [List.map_cons, List.any_cons, any_prs p prs]
    have : eqD (pD q) (pD p) = decide (q = p) := by
      simp only [pD, eqD, eqDL, Bool.and_true]
      by_cases h : q = p
      · subst h; simp
      · rw [decide_eq_false h]
        by_cases h1 : q.1 = p.1
        · have h2 : q.2 ≠ p.2 := fun z => h (Prod.ext h1 z)
          simp [h1, h2]
        · simp [h1]
    rw [this]
    by_cases h : q = p
    · subst h; simp
    · have h' : ¬ p = q := fun z => h z.symm
      simp [h, h']
theorem notin_prs {p : P2} {prs : List P2} {Q : D → Prop} (q : Q (.bl (!decide (p ∈ prs)))) : dInB not (pD p) (.lst (prs.map pD)) Q := by
  rw [← any_prs] at q
  exact ⟨.inr ⟨shD_pD p, shD_prs prs⟩, q⟩
theorem atI_prs {prs : List P2} {k : Nat} {p : P2} (h : prs[k]? = some p) : atI (prs.map pD) (k : Int) = some (pD p) :=
  atI_nat (by omega) (by rw [Int.toNat_natCast, List.getElem?_map, h]; rfl)

def w__law_met_t1 : WS := (wIf (wTst (wOp dNotIn (wPk 6) (wPk 3)))
 (wApp 3 (wVar 6))
 wNext)
def w__law_met_t2 : WS := (wAsg (wOp dAdd (wPk 5) (wC (.int 1))) (wSt 5))
def w__law_met_t3 : WS := (wRet (wVar 3))
def w__law_met_t4 : WS := (wSeq (wWhile (wTst (wOp dLt (wPk 5) (wUn dLen (wPk 3))))
 (wSeq (wFor (wItL (wFld "Machine" "facts" (wPk 0))) (wSt 7)
 (wSeq (wAsg (wTup (waCons (wOp dIx (wOp dIx (wFld "Machine" "step" (wPk 0)) (wOp dIx (wOp dIx (wPk 3) (wPk 5)) (wC (.int 0)))) (wPk 7)) (waCons (wOp dIx (wOp dIx (wFld "Machine" "step" (wPk 1)) (wOp dIx (wOp dIx (wPk 3) (wPk 5)) (wC (.int 1)))) (wPk 7)) waNil))) (wSt 6))
 w__law_met_t1))
 w__law_met_t2))
 w__law_met_t3)
def w__law_met_t5 : WS := (wSeq (wAsg (wC (.int 0)) (wSt 5))
 w__law_met_t4)
def w__law_met_t6 : WS := (wSeq (wFor (wItL (wVar 2)) (wSt 4)
 (wIf (wTst (wOp dNotIn (wPk 4) (wPk 3)))
 (wApp 3 (wVar 4))
 wNext))
 w__law_met_t5)
def w__law_met : WS := (wSeq (wAsgO (wfLst waNil) 3)
 w__law_met_t6)

theorem p__law_met : ∀ as Qd, wf__law_met as Qd → w__law_met (startD ["_law_machine_here", "_law_other", "_law_begins", "_law_found", "_law_pair", "_law_place", "_law_after_here", "_law_fact"] as) { nx := fun _ => Qd .non, rt := fun d _ => Qd d } := fun as Qd h => by
  unfold wf__law_met at h
  split at h
  · rename_i d e bs
    obtain ⟨m, o, begins, rfl, rfl, rfl, okm, oko, hfo, hb, q⟩ := h
    show w__law_met [.sh m.dd, .sh o.dd, .sh (.lst (begins.map pD)), .no, .no, .no, .no, .no] _
    simp only [w__law_met, w__law_met_t6, ↓wSeq_e, ↓wNext_e, ↓wBreak_e, ↓wCont_e, ↓wRet_e, ↓wRetN_e, ↓wDrop_e, ↓wIf_e, ↓wAnd_e, ↓wOr_e, ↓wNot_e, ↓wTst_e, ↓wAndV_e, ↓wOrV_e, ↓wNotV_e, ↓wIfE_e, ↓wChain_e, ↓wVar_e, ↓wPk_e, ↓wC_e, ↓wOp_e, ↓wUn_e, ↓wM1_e, ↓wTup_e, ↓wfLst_e, ↓wFz_e, ↓waNil_e, ↓waCons_e, ↓asNil_e, ↓asCons_e, ↓asBox_e, ↓wCall_e, ↓wAsg_e, ↓wSt_e, ↓wAsgO_e, ↓wTp_e, ↓wTpL_e, ↓wPar_e, ↓wStL_nil, ↓wStL_cons, ↓wFor_e, ↓wRg1_e, ↓wRg2_e, ↓wItL_e, ↓wItT_e, ↓wItS_e, ↓wApp_e, ↓woNone_e, ↓woSome_e, ↓wCut_e, ↓wBx1_e, ↓wBx0_e, ↓wBxPut_e, ↓wDraw_e, ↓wLSet_e, ↓wNever_e, ↓wFld_e, ↓wMeth_e, ↓wMake_e, ↓wFldN_e, ↓wZip_e, ↓wPut_e, ↓wfList_e, ↓wfDict_e, ↓wfDisp1_e, ↓wPop0_e, ↓wOFld_e, ↓wOFldS_e, ↓wOApp_e, ↓wOPut_e, ↓wFldNO_e, ↓wMethO_e, ↓wGet1_e, ↓wfCut_e, ↓wfDk_e, ↓wfDt_e, ↓wCopy_e, ↓wRowPk_e, ↓wPutRow_e, ↓wTru_e, ↓wLc_e, ↓wYes_e, ↓wAug_e, dLt, dLe, dGt, dGe, dSub, dMul, dMod, dFdiv, dPow, dI2, dI2C, dAdd, dEq, dNe, dLen, dInt, dIx_l, dIx_t, dIx_s, dList, dSum, dCut, atI_zero, atI_one, Option.some.injEq, dTru, dMax2, dMin2, dAddI, dEqS, dIs, dNotIs, dSortDI, obD, id_eq, List.getElem?_cons_zero, List.getElem?_cons_succ, List.set_cons_zero, List.set_cons_succ, List.length_cons, List.length_nil, D.bl.injEq, exists_eq_left', decide_eq_true_eq, decide_eq_false_iff_not, Bool.not_eq_true', Bool.not_eq_false', Nat.zero_add, Nat.reduceAdd, true_and, and_true, forall_const, reduceCtorEq, not_true_eq_false, not_false_eq_true, false_implies, true_implies, implies_true, sz_line, Nat.reduceLeDiff, Int.reduceLE, Int.reduceLT, Int.reduceNeg, Int.reducePow, Int.reduceAdd, Int.reduceSub, Int.reduceMul]
    refine for_pre (fun dn ρ => PInv m o (dn.foldl meetL []) 0 ∧ ∃ s4, ρ = [.sh m.dd, .sh o.dd, .sh (.lst (begins.map pD)), .ol ((dn.foldl meetL []).map pD), s4, .no, .no, .no]) ?_ ?_ _ ⟨PInv.nil m o, _, rfl⟩
    · rintro dn p rest e ρ ⟨inv, s4, rfl⟩ C hC
      have hp : inR m o p := hb p (by rw [e]; simp)
      have l := inv.len okm oko
      simp only [↓wSeq_e, ↓wNext_e, ↓wBreak_e, ↓wCont_e, ↓wRet_e, ↓wRetN_e, ↓wDrop_e, ↓wIf_e, ↓wAnd_e, ↓wOr_e, ↓wNot_e, ↓wTst_e, ↓wAndV_e, ↓wOrV_e, ↓wNotV_e, ↓wIfE_e, ↓wChain_e, ↓wVar_e, ↓wPk_e, ↓wC_e, ↓wOp_e, ↓wUn_e, ↓wM1_e, ↓wTup_e, ↓wfLst_e, ↓wFz_e, ↓waNil_e, ↓waCons_e, ↓asNil_e, ↓asCons_e, ↓asBox_e, ↓wCall_e, ↓wAsg_e, ↓wSt_e, ↓wAsgO_e, ↓wTp_e, ↓wTpL_e, ↓wPar_e, ↓wStL_nil, ↓wStL_cons, ↓wFor_e, ↓wRg1_e, ↓wRg2_e, ↓wItL_e, ↓wItT_e, ↓wItS_e, ↓wApp_e, ↓woNone_e, ↓woSome_e, ↓wCut_e, ↓wBx1_e, ↓wBx0_e, ↓wBxPut_e, ↓wDraw_e, ↓wLSet_e, ↓wNever_e, ↓wFld_e, ↓wMeth_e, ↓wMake_e, ↓wFldN_e, ↓wZip_e, ↓wPut_e, ↓wfList_e, ↓wfDict_e, ↓wfDisp1_e, ↓wPop0_e, ↓wOFld_e, ↓wOFldS_e, ↓wOApp_e, ↓wOPut_e, ↓wFldNO_e, ↓wMethO_e, ↓wGet1_e, ↓wfCut_e, ↓wfDk_e, ↓wfDt_e, ↓wCopy_e, ↓wRowPk_e, ↓wPutRow_e, ↓wTru_e, ↓wLc_e, ↓wYes_e, ↓wAug_e, dLt, dLe, dGt, dGe, dSub, dMul, dMod, dFdiv, dPow, dI2, dI2C, dAdd, dEq, dNe, dLen, dInt, dIx_l, dIx_t, dIx_s, dList, dSum, dCut, atI_zero, atI_one, Option.some.injEq, dTru, dMax2, dMin2, dAddI, dEqS, dIs, dNotIs, dSortDI, obD, id_eq, List.getElem?_cons_zero, List.getElem?_cons_succ, List.set_cons_zero, List.set_cons_succ, List.length_cons, List.length_nil, D.bl.injEq, exists_eq_left', decide_eq_true_eq, decide_eq_false_iff_not, Bool.not_eq_true', Bool.not_eq_false', Nat.zero_add, Nat.reduceAdd, true_and, and_true, forall_const, reduceCtorEq, not_true_eq_false, not_false_eq_true, false_implies, true_implies, implies_true, sz_line, Nat.reduceLeDiff, Int.reduceLE, Int.reduceLT, Int.reduceNeg, Int.reducePow, Int.reduceAdd, Int.reduceSub, Int.reduceMul]
      refine notin_prs ?_
      refine ⟨_, rfl, fun hk => ?_, fun hk => ?_⟩
      · refine ⟨by rw [List.length_map]; omega, hC _ ⟨?_, .sh (pD p), ?_⟩⟩
        · rw [List.foldl_append]; exact inv.meet hp
        · rw [List.foldl_append]
          have : meetL (dn.foldl meetL []) p = dn.foldl meetL [] ++ [p] := if_neg (by simpa using hk)
          show _ = [Sl.sh m.dd, .sh o.dd, .sh (.lst (begins.map pD)), .ol ((meetL (dn.foldl meetL []) p).map pD), .sh (pD p), .no, .no, .no]
          rw [this, List.map_append]; rfl
      · refine hC _ ⟨?_, .sh (pD p), ?_⟩
        · rw [List.foldl_append]; exact inv.meet hp
        · rw [List.foldl_append]
          have : meetL (dn.foldl meetL []) p = dn.foldl meetL [] := if_pos (by simpa using hk)
          show _ = [Sl.sh m.dd, .sh o.dd, .sh (.lst (begins.map pD)), .ol ((meetL (dn.foldl meetL []) p).map pD), .sh (pD p), .no, .no, .no]
          rw [this]
    · rintro ρ ⟨inv, s4, rfl⟩
      simp only [w__law_met_t5, w__law_met_t4, ↓wSeq_e, ↓wNext_e, ↓wBreak_e, ↓wCont_e, ↓wRet_e, ↓wRetN_e, ↓wDrop_e, ↓wIf_e, ↓wAnd_e, ↓wOr_e, ↓wNot_e, ↓wTst_e, ↓wAndV_e, ↓wOrV_e, ↓wNotV_e, ↓wIfE_e, ↓wChain_e, ↓wVar_e, ↓wPk_e, ↓wC_e, ↓wOp_e, ↓wUn_e, ↓wM1_e, ↓wTup_e, ↓wfLst_e, ↓wFz_e, ↓waNil_e, ↓waCons_e, ↓asNil_e, ↓asCons_e, ↓asBox_e, ↓wCall_e, ↓wAsg_e, ↓wSt_e, ↓wAsgO_e, ↓wTp_e, ↓wTpL_e, ↓wPar_e, ↓wStL_nil, ↓wStL_cons, ↓wFor_e, ↓wRg1_e, ↓wRg2_e, ↓wItL_e, ↓wItT_e, ↓wItS_e, ↓wApp_e, ↓woNone_e, ↓woSome_e, ↓wCut_e, ↓wBx1_e, ↓wBx0_e, ↓wBxPut_e, ↓wDraw_e, ↓wLSet_e, ↓wNever_e, ↓wFld_e, ↓wMeth_e, ↓wMake_e, ↓wFldN_e, ↓wZip_e, ↓wPut_e, ↓wfList_e, ↓wfDict_e, ↓wfDisp1_e, ↓wPop0_e, ↓wOFld_e, ↓wOFldS_e, ↓wOApp_e, ↓wOPut_e, ↓wFldNO_e, ↓wMethO_e, ↓wGet1_e, ↓wfCut_e, ↓wfDk_e, ↓wfDt_e, ↓wCopy_e, ↓wRowPk_e, ↓wPutRow_e, ↓wTru_e, ↓wLc_e, ↓wYes_e, ↓wAug_e, dLt, dLe, dGt, dGe, dSub, dMul, dMod, dFdiv, dPow, dI2, dI2C, dAdd, dEq, dNe, dLen, dInt, dIx_l, dIx_t, dIx_s, dList, dSum, dCut, atI_zero, atI_one, Option.some.injEq, dTru, dMax2, dMin2, dAddI, dEqS, dIs, dNotIs, dSortDI, obD, id_eq, List.getElem?_cons_zero, List.getElem?_cons_succ, List.set_cons_zero, List.set_cons_succ, List.length_cons, List.length_nil, D.bl.injEq, exists_eq_left', decide_eq_true_eq, decide_eq_false_iff_not, Bool.not_eq_true', Bool.not_eq_false', Nat.zero_add, Nat.reduceAdd, true_and, and_true, forall_const, reduceCtorEq, not_true_eq_false, not_false_eq_true, false_implies, true_implies, implies_true, sz_line, Nat.reduceLeDiff, Int.reduceLE, Int.reduceLT, Int.reduceNeg, Int.reducePow, Int.reduceAdd, Int.reduceSub, Int.reduceMul]
      refine wWhile_rule (fun n ρ => ∃ (prs : List P2) (k : Nat) (s6 s7 : Sl), n = 65 - k ∧ PInv m o prs k ∧ closeL m o (65 - k) prs k = metL m o begins ∧ ρ = [.sh m.dd, .sh o.dd, .sh (.lst (begins.map pD)), .ol (prs.map pD), s4, .sh (.int (k : Nat)), s6, s7]) 65 ⟨_, 0, _, _, rfl, inv, rfl, rfl⟩ ?_
      rintro n ρ ⟨prs, k, s6, s7, rfl, inv, hcl, rfl⟩
      have l := inv.len okm oko
      have kl := inv.kl
      simp only [Mach.dd, Cary.dd, lk_facts, lk_step, lk_gain, lk_leave, lk_to, lk_cost, ↓wSeq_e, ↓wNext_e, ↓wBreak_e, ↓wCont_e, ↓wRet_e, ↓wRetN_e, ↓wDrop_e, ↓wIf_e, ↓wAnd_e, ↓wOr_e, ↓wNot_e, ↓wTst_e, ↓wAndV_e, ↓wOrV_e, ↓wNotV_e, ↓wIfE_e, ↓wChain_e, ↓wVar_e, ↓wPk_e, ↓wC_e, ↓wOp_e, ↓wUn_e, ↓wM1_e, ↓wTup_e, ↓wfLst_e, ↓wFz_e, ↓waNil_e, ↓waCons_e, ↓asNil_e, ↓asCons_e, ↓asBox_e, ↓wCall_e, ↓wAsg_e, ↓wSt_e, ↓wAsgO_e, ↓wTp_e, ↓wTpL_e, ↓wPar_e, ↓wStL_nil, ↓wStL_cons, ↓wFor_e, ↓wRg1_e, ↓wRg2_e, ↓wItL_e, ↓wItT_e, ↓wItS_e, ↓wApp_e, ↓woNone_e, ↓woSome_e, ↓wCut_e, ↓wBx1_e, ↓wBx0_e, ↓wBxPut_e, ↓wDraw_e, ↓wLSet_e, ↓wNever_e, ↓wFld_e, ↓wMeth_e, ↓wMake_e, ↓wFldN_e, ↓wZip_e, ↓wPut_e, ↓wfList_e, ↓wfDict_e, ↓wfDisp1_e, ↓wPop0_e, ↓wOFld_e, ↓wOFldS_e, ↓wOApp_e, ↓wOPut_e, ↓wFldNO_e, ↓wMethO_e, ↓wGet1_e, ↓wfCut_e, ↓wfDk_e, ↓wfDt_e, ↓wCopy_e, ↓wRowPk_e, ↓wPutRow_e, ↓wTru_e, ↓wLc_e, ↓wYes_e, ↓wAug_e, dLt, dLe, dGt, dGe, dSub, dMul, dMod, dFdiv, dPow, dI2, dI2C, dAdd, dEq, dNe, dLen, dInt, dIx_l, dIx_t, dIx_s, dList, dSum, dCut, atI_zero, atI_one, Option.some.injEq, dTru, dMax2, dMin2, dAddI, dEqS, dIs, dNotIs, dSortDI, obD, id_eq, List.getElem?_cons_zero, List.getElem?_cons_succ, List.set_cons_zero, List.set_cons_succ, List.length_cons, List.length_nil, D.bl.injEq, exists_eq_left', decide_eq_true_eq, decide_eq_false_iff_not, Bool.not_eq_true', Bool.not_eq_false', Nat.zero_add, Nat.reduceAdd, true_and, and_true, forall_const, reduceCtorEq, not_true_eq_false, not_false_eq_true, false_implies, true_implies, implies_true, sz_line, Nat.reduceLeDiff, Int.reduceLE, Int.reduceLT, Int.reduceNeg, Int.reducePow, Int.reduceAdd, Int.reduceSub, Int.reduceMul, List.length_map]
      refine ⟨fun hk => ?_, fun hk => ?_⟩
      · have hk' : k < prs.length := by omega
        have ek : prs[k]? = some prs[k] := List.getElem?_eq_getElem hk'
        have e65 : 65 - k = (65 - (k + 1)) + 1 := by omega
        have hp : inR m o prs[k] := inv.rg _ (List.getElem_mem hk')
        generalize hpk : prs[k] = p at hp ek
        refine for_pre (fun dn ρ => ∃ s6 s7, ρ = [.sh (.ins "Machine" machF m.ds), .sh (.ins "Machine" machF o.ds), .sh (.lst (begins.map pD)), .ol ((expandL m o prs p dn).map pD), s4, .sh (.int (k : Nat)), s6, s7]) ?_ ?_ _ ⟨_, _, rfl⟩
        · rintro dn f rest e ρ ⟨s6, s7, rfl⟩ C hC
          have hf : f ∈ m.facts := by rw [e]; simp
          have hdn : ∀ g ∈ dn, g ∈ m.facts := fun g hg => by rw [e]; simp [hg]
          have invd := inv.expand okm oko hfo hp dn hdn
          have ld := invd.len okm oko
          obtain ⟨more, em⟩ := expandL_ext m o p dn prs
          have ekd : (expandL m o prs p dn)[k]? = some p := by rw [em, List.getElem?_append_left hk']; exact ek
          have ap := aft_in okm oko hfo hp hf
          simp only [Mach.dd, Cary.dd, lk_facts, lk_step, lk_gain, lk_leave, lk_to, lk_cost, ↓wSeq_e, ↓wNext_e, ↓wBreak_e, ↓wCont_e, ↓wRet_e, ↓wRetN_e, ↓wDrop_e, ↓wIf_e, ↓wAnd_e, ↓wOr_e, ↓wNot_e, ↓wTst_e, ↓wAndV_e, ↓wOrV_e, ↓wNotV_e, ↓wIfE_e, ↓wChain_e, ↓wVar_e, ↓wPk_e, ↓wC_e, ↓wOp_e, ↓wUn_e, ↓wM1_e, ↓wTup_e, ↓wfLst_e, ↓wFz_e, ↓waNil_e, ↓waCons_e, ↓asNil_e, ↓asCons_e, ↓asBox_e, ↓wCall_e, ↓wAsg_e, ↓wSt_e, ↓wAsgO_e, ↓wTp_e, ↓wTpL_e, ↓wPar_e, ↓wStL_nil, ↓wStL_cons, ↓wFor_e, ↓wRg1_e, ↓wRg2_e, ↓wItL_e, ↓wItT_e, ↓wItS_e, ↓wApp_e, ↓woNone_e, ↓woSome_e, ↓wCut_e, ↓wBx1_e, ↓wBx0_e, ↓wBxPut_e, ↓wDraw_e, ↓wLSet_e, ↓wNever_e, ↓wFld_e, ↓wMeth_e, ↓wMake_e, ↓wFldN_e, ↓wZip_e, ↓wPut_e, ↓wfList_e, ↓wfDict_e, ↓wfDisp1_e, ↓wPop0_e, ↓wOFld_e, ↓wOFldS_e, ↓wOApp_e, ↓wOPut_e, ↓wFldNO_e, ↓wMethO_e, ↓wGet1_e, ↓wfCut_e, ↓wfDk_e, ↓wfDt_e, ↓wCopy_e, ↓wRowPk_e, ↓wPutRow_e, ↓wTru_e, ↓wLc_e, ↓wYes_e, ↓wAug_e, dLt, dLe, dGt, dGe, dSub, dMul, dMod, dFdiv, dPow, dI2, dI2C, dAdd, dEq, dNe, dLen, dInt, dIx_l, dIx_t, dIx_s, dList, dSum, dCut, atI_zero, atI_one, Option.some.injEq, dTru, dMax2, dMin2, dAddI, dEqS, dIs, dNotIs, dSortDI, obD, id_eq, List.getElem?_cons_zero, List.getElem?_cons_succ, List.set_cons_zero, List.set_cons_succ, List.length_cons, List.length_nil, D.bl.injEq, exists_eq_left', decide_eq_true_eq, decide_eq_false_iff_not, Bool.not_eq_true', Bool.not_eq_false', Nat.zero_add, Nat.reduceAdd, true_and, and_true, forall_const, reduceCtorEq, not_true_eq_false, not_false_eq_true, false_implies, true_implies, implies_true, sz_line, Nat.reduceLeDiff, Int.reduceLE, Int.reduceLT, Int.reduceNeg, Int.reducePow, Int.reduceAdd, Int.reduceSub, Int.reduceMul]
          refine ⟨_, atI_prs ekd, ?_⟩
          simp only [pD, ↓wSeq_e, ↓wNext_e, ↓wBreak_e, ↓wCont_e, ↓wRet_e, ↓wRetN_e, ↓wDrop_e, ↓wIf_e, ↓wAnd_e, ↓wOr_e, ↓wNot_e, ↓wTst_e, ↓wAndV_e, ↓wOrV_e, ↓wNotV_e, ↓wIfE_e, ↓wChain_e, ↓wVar_e, ↓wPk_e, ↓wC_e, ↓wOp_e, ↓wUn_e, ↓wM1_e, ↓wTup_e, ↓wfLst_e, ↓wFz_e, ↓waNil_e, ↓waCons_e, ↓asNil_e, ↓asCons_e, ↓asBox_e, ↓wCall_e, ↓wAsg_e, ↓wSt_e, ↓wAsgO_e, ↓wTp_e, ↓wTpL_e, ↓wPar_e, ↓wStL_nil, ↓wStL_cons, ↓wFor_e, ↓wRg1_e, ↓wRg2_e, ↓wItL_e, ↓wItT_e, ↓wItS_e, ↓wApp_e, ↓woNone_e, ↓woSome_e, ↓wCut_e, ↓wBx1_e, ↓wBx0_e, ↓wBxPut_e, ↓wDraw_e, ↓wLSet_e, ↓wNever_e, ↓wFld_e, ↓wMeth_e, ↓wMake_e, ↓wFldN_e, ↓wZip_e, ↓wPut_e, ↓wfList_e, ↓wfDict_e, ↓wfDisp1_e, ↓wPop0_e, ↓wOFld_e, ↓wOFldS_e, ↓wOApp_e, ↓wOPut_e, ↓wFldNO_e, ↓wMethO_e, ↓wGet1_e, ↓wfCut_e, ↓wfDk_e, ↓wfDt_e, ↓wCopy_e, ↓wRowPk_e, ↓wPutRow_e, ↓wTru_e, ↓wLc_e, ↓wYes_e, ↓wAug_e, dLt, dLe, dGt, dGe, dSub, dMul, dMod, dFdiv, dPow, dI2, dI2C, dAdd, dEq, dNe, dLen, dInt, dIx_l, dIx_t, dIx_s, dList, dSum, dCut, atI_zero, atI_one, Option.some.injEq, dTru, dMax2, dMin2, dAddI, dEqS, dIs, dNotIs, dSortDI, obD, id_eq, List.getElem?_cons_zero, List.getElem?_cons_succ, List.set_cons_zero, List.set_cons_succ, List.length_cons, List.length_nil, D.bl.injEq, exists_eq_left', decide_eq_true_eq, decide_eq_false_iff_not, Bool.not_eq_true', Bool.not_eq_false', Nat.zero_add, Nat.reduceAdd, true_and, and_true, forall_const, reduceCtorEq, not_true_eq_false, not_false_eq_true, false_implies, true_implies, implies_true, sz_line, Nat.reduceLeDiff, Int.reduceLE, Int.reduceLT, Int.reduceNeg, Int.reducePow, Int.reduceAdd, Int.reduceSub, Int.reduceMul]
          refine ⟨_, Mach.at_step okm hp.a0 hp.a1, Mach.ix_step okm (by have := hp.a1; have := hp.a0; omega) hf ?_⟩
          refine ⟨_, atI_prs ekd, ?_⟩
          simp only [pD, ↓wSeq_e, ↓wNext_e, ↓wBreak_e, ↓wCont_e, ↓wRet_e, ↓wRetN_e, ↓wDrop_e, ↓wIf_e, ↓wAnd_e, ↓wOr_e, ↓wNot_e, ↓wTst_e, ↓wAndV_e, ↓wOrV_e, ↓wNotV_e, ↓wIfE_e, ↓wChain_e, ↓wVar_e, ↓wPk_e, ↓wC_e, ↓wOp_e, ↓wUn_e, ↓wM1_e, ↓wTup_e, ↓wfLst_e, ↓wFz_e, ↓waNil_e, ↓waCons_e, ↓asNil_e, ↓asCons_e, ↓asBox_e, ↓wCall_e, ↓wAsg_e, ↓wSt_e, ↓wAsgO_e, ↓wTp_e, ↓wTpL_e, ↓wPar_e, ↓wStL_nil, ↓wStL_cons, ↓wFor_e, ↓wRg1_e, ↓wRg2_e, ↓wItL_e, ↓wItT_e, ↓wItS_e, ↓wApp_e, ↓woNone_e, ↓woSome_e, ↓wCut_e, ↓wBx1_e, ↓wBx0_e, ↓wBxPut_e, ↓wDraw_e, ↓wLSet_e, ↓wNever_e, ↓wFld_e, ↓wMeth_e, ↓wMake_e, ↓wFldN_e, ↓wZip_e, ↓wPut_e, ↓wfList_e, ↓wfDict_e, ↓wfDisp1_e, ↓wPop0_e, ↓wOFld_e, ↓wOFldS_e, ↓wOApp_e, ↓wOPut_e, ↓wFldNO_e, ↓wMethO_e, ↓wGet1_e, ↓wfCut_e, ↓wfDk_e, ↓wfDt_e, ↓wCopy_e, ↓wRowPk_e, ↓wPutRow_e, ↓wTru_e, ↓wLc_e, ↓wYes_e, ↓wAug_e, dLt, dLe, dGt, dGe, dSub, dMul, dMod, dFdiv, dPow, dI2, dI2C, dAdd, dEq, dNe, dLen, dInt, dIx_l, dIx_t, dIx_s, dList, dSum, dCut, atI_zero, atI_one, Option.some.injEq, dTru, dMax2, dMin2, dAddI, dEqS, dIs, dNotIs, dSortDI, obD, id_eq, List.getElem?_cons_zero, List.getElem?_cons_succ, List.set_cons_zero, List.set_cons_succ, List.length_cons, List.length_nil, D.bl.injEq, exists_eq_left', decide_eq_true_eq, decide_eq_false_iff_not, Bool.not_eq_true', Bool.not_eq_false', Nat.zero_add, Nat.reduceAdd, true_and, and_true, forall_const, reduceCtorEq, not_true_eq_false, not_false_eq_true, false_implies, true_implies, implies_true, sz_line, Nat.reduceLeDiff, Int.reduceLE, Int.reduceLT, Int.reduceNeg, Int.reducePow, Int.reduceAdd, Int.reduceSub, Int.reduceMul]
          refine ⟨_, Mach.at_step oko hp.b0 hp.b1, Mach.ix_step oko (by have := hp.b1; have := hp.b0; omega) (by rw [hfo]; exact hf) ?_⟩
          simp only [w__law_met_t1, ↓wSeq_e, ↓wNext_e, ↓wBreak_e, ↓wCont_e, ↓wRet_e, ↓wRetN_e, ↓wDrop_e, ↓wIf_e, ↓wAnd_e, ↓wOr_e, ↓wNot_e, ↓wTst_e, ↓wAndV_e, ↓wOrV_e, ↓wNotV_e, ↓wIfE_e, ↓wChain_e, ↓wVar_e, ↓wPk_e, ↓wC_e, ↓wOp_e, ↓wUn_e, ↓wM1_e, ↓wTup_e, ↓wfLst_e, ↓wFz_e, ↓waNil_e, ↓waCons_e, ↓asNil_e, ↓asCons_e, ↓asBox_e, ↓wCall_e, ↓wAsg_e, ↓wSt_e, ↓wAsgO_e, ↓wTp_e, ↓wTpL_e, ↓wPar_e, ↓wStL_nil, ↓wStL_cons, ↓wFor_e, ↓wRg1_e, ↓wRg2_e, ↓wItL_e, ↓wItT_e, ↓wItS_e, ↓wApp_e, ↓woNone_e, ↓woSome_e, ↓wCut_e, ↓wBx1_e, ↓wBx0_e, ↓wBxPut_e, ↓wDraw_e, ↓wLSet_e, ↓wNever_e, ↓wFld_e, ↓wMeth_e, ↓wMake_e, ↓wFldN_e, ↓wZip_e, ↓wPut_e, ↓wfList_e, ↓wfDict_e, ↓wfDisp1_e, ↓wPop0_e, ↓wOFld_e, ↓wOFldS_e, ↓wOApp_e, ↓wOPut_e, ↓wFldNO_e, ↓wMethO_e, ↓wGet1_e, ↓wfCut_e, ↓wfDk_e, ↓wfDt_e, ↓wCopy_e, ↓wRowPk_e, ↓wPutRow_e, ↓wTru_e, ↓wLc_e, ↓wYes_e, ↓wAug_e, dLt, dLe, dGt, dGe, dSub, dMul, dMod, dFdiv, dPow, dI2, dI2C, dAdd, dEq, dNe, dLen, dInt, dIx_l, dIx_t, dIx_s, dList, dSum, dCut, atI_zero, atI_one, Option.some.injEq, dTru, dMax2, dMin2, dAddI, dEqS, dIs, dNotIs, dSortDI, obD, id_eq, List.getElem?_cons_zero, List.getElem?_cons_succ, List.set_cons_zero, List.set_cons_succ, List.length_cons, List.length_nil, D.bl.injEq, exists_eq_left', decide_eq_true_eq, decide_eq_false_iff_not, Bool.not_eq_true', Bool.not_eq_false', Nat.zero_add, Nat.reduceAdd, true_and, and_true, forall_const, reduceCtorEq, not_true_eq_false, not_false_eq_true, false_implies, true_implies, implies_true, sz_line, Nat.reduceLeDiff, Int.reduceLE, Int.reduceLT, Int.reduceNeg, Int.reducePow, Int.reduceAdd, Int.reduceSub, Int.reduceMul]
          refine notin_prs (p := aft m o p f) ?_
          have es : expandL m o prs p (dn ++ [f]) = meetL (expandL m o prs p dn) (aft m o p f) := expandL_snoc ..
          refine ⟨_, rfl, fun hk => ?_, fun hk => ?_⟩
          · refine ⟨by rw [List.length_map]; omega, hC _ ⟨.sh (pD (aft m o p f)), .sh (.str f), ?_⟩⟩
            have : meetL (expandL m o prs p dn) (aft m o p f) = expandL m o prs p dn ++ [aft m o p f] := if_neg (by simpa using hk)
            rw [es, this, List.map_append]; rfl
          · refine hC _ ⟨.sh (pD (aft m o p f)), .sh (.str f), ?_⟩
            have : meetL (expandL m o prs p dn) (aft m o p f) = expandL m o prs p dn := if_pos (by simpa using hk)
            rw [es, this]; rfl
        · rintro ρ ⟨s6, s7, rfl⟩
          simp only [w__law_met_t2, ↓wSeq_e, ↓wNext_e, ↓wBreak_e, ↓wCont_e, ↓wRet_e, ↓wRetN_e, ↓wDrop_e, ↓wIf_e, ↓wAnd_e, ↓wOr_e, ↓wNot_e, ↓wTst_e, ↓wAndV_e, ↓wOrV_e, ↓wNotV_e, ↓wIfE_e, ↓wChain_e, ↓wVar_e, ↓wPk_e, ↓wC_e, ↓wOp_e, ↓wUn_e, ↓wM1_e, ↓wTup_e, ↓wfLst_e, ↓wFz_e, ↓waNil_e, ↓waCons_e, ↓asNil_e, ↓asCons_e, ↓asBox_e, ↓wCall_e, ↓wAsg_e, ↓wSt_e, ↓wAsgO_e, ↓wTp_e, ↓wTpL_e, ↓wPar_e, ↓wStL_nil, ↓wStL_cons, ↓wFor_e, ↓wRg1_e, ↓wRg2_e, ↓wItL_e, ↓wItT_e, ↓wItS_e, ↓wApp_e, ↓woNone_e, ↓woSome_e, ↓wCut_e, ↓wBx1_e, ↓wBx0_e, ↓wBxPut_e, ↓wDraw_e, ↓wLSet_e, ↓wNever_e, ↓wFld_e, ↓wMeth_e, ↓wMake_e, ↓wFldN_e, ↓wZip_e, ↓wPut_e, ↓wfList_e, ↓wfDict_e, ↓wfDisp1_e, ↓wPop0_e, ↓wOFld_e, ↓wOFldS_e, ↓wOApp_e, ↓wOPut_e, ↓wFldNO_e, ↓wMethO_e, ↓wGet1_e, ↓wfCut_e, ↓wfDk_e, ↓wfDt_e, ↓wCopy_e, ↓wRowPk_e, ↓wPutRow_e, ↓wTru_e, ↓wLc_e, ↓wYes_e, ↓wAug_e, dLt, dLe, dGt, dGe, dSub, dMul, dMod, dFdiv, dPow, dI2, dI2C, dAdd, dEq, dNe, dLen, dInt, dIx_l, dIx_t, dIx_s, dList, dSum, dCut, atI_zero, atI_one, Option.some.injEq, dTru, dMax2, dMin2, dAddI, dEqS, dIs, dNotIs, dSortDI, obD, id_eq, List.getElem?_cons_zero, List.getElem?_cons_succ, List.set_cons_zero, List.set_cons_succ, List.length_cons, List.length_nil, D.bl.injEq, exists_eq_left', decide_eq_true_eq, decide_eq_false_iff_not, Bool.not_eq_true', Bool.not_eq_false', Nat.zero_add, Nat.reduceAdd, true_and, and_true, forall_const, reduceCtorEq, not_true_eq_false, not_false_eq_true, false_implies, true_implies, implies_true, sz_line, Nat.reduceLeDiff, Int.reduceLE, Int.reduceLT, Int.reduceNeg, Int.reducePow, Int.reduceAdd, Int.reduceSub, Int.reduceMul]
          refine ⟨65 - (k + 1), by omega, expandL m o prs p m.facts, k + 1, _, _, rfl, inv.next okm oko hfo ek, ?_, rfl⟩
          rw [← hcl, e65]
          show _ = (match prs[k]? with
            | some p => closeL m o (65 - (k + 1)) (expandL m o prs p m.facts) (k + 1)
            | none => prs)
          rw [ek]
      · have hkn : prs[k]? = none := List.getElem?_eq_none (by omega)
        have e65 : 65 - k = (65 - (k + 1)) + 1 := by omega
        have hp : prs = metL m o begins := by
          rw [← hcl, e65]
          show prs = (match prs[k]? with
            | some p => closeL m o (65 - (k + 1)) (expandL m o prs p m.facts) (k + 1)
            | none => prs)
          rw [hkn]
        rw [hp]
        simp only [w__law_met_t3, ↓wSeq_e, ↓wNext_e, ↓wBreak_e, ↓wCont_e, ↓wRet_e, ↓wRetN_e, ↓wDrop_e, ↓wIf_e, ↓wAnd_e, ↓wOr_e, ↓wNot_e, ↓wTst_e, ↓wAndV_e, ↓wOrV_e, ↓wNotV_e, ↓wIfE_e, ↓wChain_e, ↓wVar_e, ↓wPk_e, ↓wC_e, ↓wOp_e, ↓wUn_e, ↓wM1_e, ↓wTup_e, ↓wfLst_e, ↓wFz_e, ↓waNil_e, ↓waCons_e, ↓asNil_e, ↓asCons_e, ↓asBox_e, ↓wCall_e, ↓wAsg_e, ↓wSt_e, ↓wAsgO_e, ↓wTp_e, ↓wTpL_e, ↓wPar_e, ↓wStL_nil, ↓wStL_cons, ↓wFor_e, ↓wRg1_e, ↓wRg2_e, ↓wItL_e, ↓wItT_e, ↓wItS_e, ↓wApp_e, ↓woNone_e, ↓woSome_e, ↓wCut_e, ↓wBx1_e, ↓wBx0_e, ↓wBxPut_e, ↓wDraw_e, ↓wLSet_e, ↓wNever_e, ↓wFld_e, ↓wMeth_e, ↓wMake_e, ↓wFldN_e, ↓wZip_e, ↓wPut_e, ↓wfList_e, ↓wfDict_e, ↓wfDisp1_e, ↓wPop0_e, ↓wOFld_e, ↓wOFldS_e, ↓wOApp_e, ↓wOPut_e, ↓wFldNO_e, ↓wMethO_e, ↓wGet1_e, ↓wfCut_e, ↓wfDk_e, ↓wfDt_e, ↓wCopy_e, ↓wRowPk_e, ↓wPutRow_e, ↓wTru_e, ↓wLc_e, ↓wYes_e, ↓wAug_e, dLt, dLe, dGt, dGe, dSub, dMul, dMod, dFdiv, dPow, dI2, dI2C, dAdd, dEq, dNe, dLen, dInt, dIx_l, dIx_t, dIx_s, dList, dSum, dCut, atI_zero, atI_one, Option.some.injEq, dTru, dMax2, dMin2, dAddI, dEqS, dIs, dNotIs, dSortDI, obD, id_eq, List.getElem?_cons_zero, List.getElem?_cons_succ, List.set_cons_zero, List.set_cons_succ, List.length_cons, List.length_nil, D.bl.injEq, exists_eq_left', decide_eq_true_eq, decide_eq_false_iff_not, Bool.not_eq_true', Bool.not_eq_false', Nat.zero_add, Nat.reduceAdd, true_and, and_true, forall_const, reduceCtorEq, not_true_eq_false, not_false_eq_true, false_implies, true_implies, implies_true, sz_line, Nat.reduceLeDiff, Int.reduceLE, Int.reduceLT, Int.reduceNeg, Int.reducePow, Int.reduceAdd, Int.reduceSub, Int.reduceMul]
        exact q
  · exact h.elim
/-! ### _law_come -/
def ckC (acc : List CE) : List Key := acc.map fun e => (Sum.inl e.1 : Key)
def cwC (acc : List CE) : List D := acc.map fun e => wordD e.2
def comeD (m : Mach) : D := .dk (ckC (comeL m)) (cwC (comeL m))
theorem alD_come {s : Int} : ∀ {acc : List CE}, alD (ckC acc) (cwC acc) (Sum.inl s) = (acc.find? fun e => decide (e.1 = s)).map fun e => wordD e.2
  | [] => rfl
  | e :: acc => by
    show (if (Sum.inl e.1 : Key) = Sum.inl s then some (wordD e.2) else alD (ckC acc) (cwC acc) (Sum.inl s)) = _
    by_cases h : e.1 = s
    · rw [if_pos (by rw [h]), List.find?_cons_of_pos (by simp [h])]; rfl
    · rw [if_neg (fun z => h (Sum.inl.inj z)), List.find?_cons_of_neg (by simp [h]), alD_come]
theorem get_come {acc : List CE} {s : Int} : getD' (.dk (ckC acc) (cwC acc)) (.int s) = some ((acc.find? fun e => decide (e.1 = s)).map fun e => wordD e.2) := by
  rw [← alD_come]; rfl
theorem put_come {acc : List CE} {a : Int} {w : List Str} (h : a ∉ acc.map (·.1)) : putA (ckC acc) (cwC acc) (Sum.inl a) (wordD w) = (ckC (acc ++ [(a, w)]), cwC (acc ++ [(a, w)])) := by
  unfold putA
  rw [if_neg (fun z => by
    obtain ⟨e, he, ee⟩ := List.mem_map.mp z
    exact h (List.mem_map.mpr ⟨e, he, Sum.inl.inj ee⟩))]
  unfold ckC cwC
  rw [List.map_append, List.map_append]; rfl
def wf__law_come : WFn
  | [.sh d], Q => ∃ m : Mach, d = m.dd ∧ m.ok 8 20 ∧ Q (comeD m)
  | _, _ => False
theorem len__law_come : ∀ as Qd, wf__law_come as Qd → as.length = 1 := fun as Qd h => by
  unfold wf__law_come at h
  split at h
  · rfl
  · exact h.elim
theorem cut1 (d : D) (ds : List D) : cutD (d :: ds) (some 1) none = ds := by
  rw [cutD_from _ (by decide)]; rfl

def w__law_come_t1 : WS := (wApp 2 (wVar 4))
def w__law_come_t2 : WS := (wIf (wTst (wOp dNotIn (wPk 4) (wPk 1)))
 (wSeq (wPut 1 (wVar 4) (wOp dAdd (wOp dIx (wPk 1) (wPk 3)) (wFz (wfLst (waCons (wVar 5) waNil)))))
 w__law_come_t1)
 wNext)
def w__law_come_t3 : WS := (wFor (wItL (wFld "Machine" "facts" (wPk 0))) (wSt 5)
 (wSeq (wAsg (wOp dIx (wOp dIx (wFld "Machine" "step" (wPk 0)) (wPk 3)) (wPk 5)) (wSt 4))
 w__law_come_t2))
def w__law_come_t4 : WS := (wSeq (wAsgO (wfCut (wPk 2) (woSome (wC (.int 1))) woNone) 2)
 w__law_come_t3)
def w__law_come_t5 : WS := (wRet (wVar 1))
def w__law_come_t6 : WS := (wSeq (wWhile (wTru (wPk 2))
 (wSeq (wAsg (wOp dIx (wPk 2) (wC (.int 0))) (wSt 3))
 w__law_come_t4))
 w__law_come_t5)
def w__law_come_t7 : WS := (wSeq (wAsgO (wfLst (waCons (wC (.int 0)) waNil)) 2)
 w__law_come_t6)
def w__law_come : WS := (wSeq (wAsgO (wfDisp1 (wC (.int 0)) (wFz (wfLst waNil))) 1)
 w__law_come_t7)

theorem p__law_come : ∀ as Qd, wf__law_come as Qd → w__law_come (startD ["_law_machine_here", "_law_found", "_law_rows", "_law_state", "_law_after_here", "_law_fact"] as) { nx := fun _ => Qd .non, rt := fun d _ => Qd d } := fun as Qd h => by
  unfold wf__law_come at h
  split at h
  · obtain ⟨m, rfl, okm, q⟩ := h
    have n8 := okm.n8
    have n1 := okm.n1
    show w__law_come [.sh m.dd, .no, .no, .no, .no, .no] _
    simp only [w__law_come, w__law_come_t7, w__law_come_t6, ↓wSeq_e, ↓wNext_e, ↓wBreak_e, ↓wCont_e, ↓wRet_e, ↓wRetN_e, ↓wDrop_e, ↓wIf_e, ↓wAnd_e, ↓wOr_e, ↓wNot_e, ↓wTst_e, ↓wAndV_e, ↓wOrV_e, ↓wNotV_e, ↓wIfE_e, ↓wChain_e, ↓wVar_e, ↓wPk_e, ↓wC_e, ↓wOp_e, ↓wUn_e, ↓wM1_e, ↓wTup_e, ↓wfLst_e, ↓wFz_e, ↓waNil_e, ↓waCons_e, ↓asNil_e, ↓asCons_e, ↓asBox_e, ↓wCall_e, ↓wAsg_e, ↓wSt_e, ↓wAsgO_e, ↓wTp_e, ↓wTpL_e, ↓wPar_e, ↓wStL_nil, ↓wStL_cons, ↓wFor_e, ↓wRg1_e, ↓wRg2_e, ↓wItL_e, ↓wItT_e, ↓wItS_e, ↓wApp_e, ↓woNone_e, ↓woSome_e, ↓wCut_e, ↓wBx1_e, ↓wBx0_e, ↓wBxPut_e, ↓wDraw_e, ↓wLSet_e, ↓wNever_e, ↓wFld_e, ↓wMeth_e, ↓wMake_e, ↓wFldN_e, ↓wZip_e, ↓wPut_e, ↓wfList_e, ↓wfDict_e, ↓wfDisp1_e, ↓wPop0_e, ↓wOFld_e, ↓wOFldS_e, ↓wOApp_e, ↓wOPut_e, ↓wFldNO_e, ↓wMethO_e, ↓wGet1_e, ↓wfCut_e, ↓wfDk_e, ↓wfDt_e, ↓wCopy_e, ↓wRowPk_e, ↓wPutRow_e, ↓wTru_e, ↓wLc_e, ↓wYes_e, ↓wAug_e, dLt, dLe, dGt, dGe, dSub, dMul, dMod, dFdiv, dPow, dI2, dI2C, dAdd, dEq, dNe, dLen, dInt, dIx_l, dIx_t, dIx_s, dList, dSum, dCut, atI_zero, atI_one, Option.some.injEq, dTru, dMax2, dMin2, dAddI, dEqS, dIs, dNotIs, dSortDI, obD, id_eq, List.getElem?_cons_zero, List.getElem?_cons_succ, List.set_cons_zero, List.set_cons_succ, List.length_cons, List.length_nil, D.bl.injEq, exists_eq_left', decide_eq_true_eq, decide_eq_false_iff_not, Bool.not_eq_true', Bool.not_eq_false', Nat.zero_add, Nat.reduceAdd, true_and, and_true, forall_const, reduceCtorEq, not_true_eq_false, not_false_eq_true, false_implies, true_implies, implies_true, sz_line, Nat.reduceLeDiff, Int.reduceLE, Int.reduceLT, Int.reduceNeg, Int.reducePow, Int.reduceAdd, Int.reduceSub, Int.reduceMul]
    refine ⟨_, rfl, ?_⟩
    refine wWhile_rule (fun n ρ => ∃ (acc : List CE) (k : Nat) (s3 s4 s5 : Sl), n = 9 - k ∧ k ≤ acc.length ∧ CInv m acc ∧ closeC m (9 - k) acc k = comeL m ∧ ρ = [.sh m.dd, .ok (ckC acc) (cwC acc), .ol (wtC acc k), s3, s4, s5]) 9 ⟨[(0, [])], 0, _, _, _, rfl, by simp, CInv.start okm, rfl, rfl⟩ ?_
    rintro n ρ ⟨acc, k, s3, s4, s5, rfl, hk, inv, hcl, rfl⟩
    have l8 := inv.len okm
    have e9 : 9 - k = (9 - (k + 1)) + 1 := by omega
    simp only [↓wSeq_e, ↓wNext_e, ↓wBreak_e, ↓wCont_e, ↓wRet_e, ↓wRetN_e, ↓wDrop_e, ↓wIf_e, ↓wAnd_e, ↓wOr_e, ↓wNot_e, ↓wTst_e, ↓wAndV_e, ↓wOrV_e, ↓wNotV_e, ↓wIfE_e, ↓wChain_e, ↓wVar_e, ↓wPk_e, ↓wC_e, ↓wOp_e, ↓wUn_e, ↓wM1_e, ↓wTup_e, ↓wfLst_e, ↓wFz_e, ↓waNil_e, ↓waCons_e, ↓asNil_e, ↓asCons_e, ↓asBox_e, ↓wCall_e, ↓wAsg_e, ↓wSt_e, ↓wAsgO_e, ↓wTp_e, ↓wTpL_e, ↓wPar_e, ↓wStL_nil, ↓wStL_cons, ↓wFor_e, ↓wRg1_e, ↓wRg2_e, ↓wItL_e, ↓wItT_e, ↓wItS_e, ↓wApp_e, ↓woNone_e, ↓woSome_e, ↓wCut_e, ↓wBx1_e, ↓wBx0_e, ↓wBxPut_e, ↓wDraw_e, ↓wLSet_e, ↓wNever_e, ↓wFld_e, ↓wMeth_e, ↓wMake_e, ↓wFldN_e, ↓wZip_e, ↓wPut_e, ↓wfList_e, ↓wfDict_e, ↓wfDisp1_e, ↓wPop0_e, ↓wOFld_e, ↓wOFldS_e, ↓wOApp_e, ↓wOPut_e, ↓wFldNO_e, ↓wMethO_e, ↓wGet1_e, ↓wfCut_e, ↓wfDk_e, ↓wfDt_e, ↓wCopy_e, ↓wRowPk_e, ↓wPutRow_e, ↓wTru_e, ↓wLc_e, ↓wYes_e, ↓wAug_e, dLt, dLe, dGt, dGe, dSub, dMul, dMod, dFdiv, dPow, dI2, dI2C, dAdd, dEq, dNe, dLen, dInt, dIx_l, dIx_t, dIx_s, dList, dSum, dCut, atI_zero, atI_one, Option.some.injEq, dTru, dMax2, dMin2, dAddI, dEqS, dIs, dNotIs, dSortDI, obD, id_eq, List.getElem?_cons_zero, List.getElem?_cons_succ, List.set_cons_zero, List.set_cons_succ, List.length_cons, List.length_nil, D.bl.injEq, exists_eq_left', decide_eq_true_eq, decide_eq_false_iff_not, Bool.not_eq_true', Bool.not_eq_false', Nat.zero_add, Nat.reduceAdd, true_and, and_true, forall_const, reduceCtorEq, not_true_eq_false, not_false_eq_true, false_implies, true_implies, implies_true, sz_line, Nat.reduceLeDiff, Int.reduceLE, Int.reduceLT, Int.reduceNeg, Int.reducePow, Int.reduceAdd, Int.reduceSub, Int.reduceMul]
    cases ek : acc[k]? with
    | none =>
      rw [wtC_nil ek]
      simp only [w__law_come_t5, ↓wSeq_e, ↓wNext_e, ↓wBreak_e, ↓wCont_e, ↓wRet_e, ↓wRetN_e, ↓wDrop_e, ↓wIf_e, ↓wAnd_e, ↓wOr_e, ↓wNot_e, ↓wTst_e, ↓wAndV_e, ↓wOrV_e, ↓wNotV_e, ↓wIfE_e, ↓wChain_e, ↓wVar_e, ↓wPk_e, ↓wC_e, ↓wOp_e, ↓wUn_e, ↓wM1_e, ↓wTup_e, ↓wfLst_e, ↓wFz_e, ↓waNil_e, ↓waCons_e, ↓asNil_e, ↓asCons_e, ↓asBox_e, ↓wCall_e, ↓wAsg_e, ↓wSt_e, ↓wAsgO_e, ↓wTp_e, ↓wTpL_e, ↓wPar_e, ↓wStL_nil, ↓wStL_cons, ↓wFor_e, ↓wRg1_e, ↓wRg2_e, ↓wItL_e, ↓wItT_e, ↓wItS_e, ↓wApp_e, ↓woNone_e, ↓woSome_e, ↓wCut_e, ↓wBx1_e, ↓wBx0_e, ↓wBxPut_e, ↓wDraw_e, ↓wLSet_e, ↓wNever_e, ↓wFld_e, ↓wMeth_e, ↓wMake_e, ↓wFldN_e, ↓wZip_e, ↓wPut_e, ↓wfList_e, ↓wfDict_e, ↓wfDisp1_e, ↓wPop0_e, ↓wOFld_e, ↓wOFldS_e, ↓wOApp_e, ↓wOPut_e, ↓wFldNO_e, ↓wMethO_e, ↓wGet1_e, ↓wfCut_e, ↓wfDk_e, ↓wfDt_e, ↓wCopy_e, ↓wRowPk_e, ↓wPutRow_e, ↓wTru_e, ↓wLc_e, ↓wYes_e, ↓wAug_e, dLt, dLe, dGt, dGe, dSub, dMul, dMod, dFdiv, dPow, dI2, dI2C, dAdd, dEq, dNe, dLen, dInt, dIx_l, dIx_t, dIx_s, dList, dSum, dCut, atI_zero, atI_one, Option.some.injEq, dTru, dMax2, dMin2, dAddI, dEqS, dIs, dNotIs, dSortDI, obD, id_eq, List.getElem?_cons_zero, List.getElem?_cons_succ, List.set_cons_zero, List.set_cons_succ, List.length_cons, List.length_nil, D.bl.injEq, exists_eq_left', decide_eq_true_eq, decide_eq_false_iff_not, Bool.not_eq_true', Bool.not_eq_false', Nat.zero_add, Nat.reduceAdd, true_and, and_true, forall_const, reduceCtorEq, not_true_eq_false, not_false_eq_true, false_implies, true_implies, implies_true, sz_line, Nat.reduceLeDiff, Int.reduceLE, Int.reduceLT, Int.reduceNeg, Int.reducePow, Int.reduceAdd, Int.reduceSub, Int.reduceMul, List.isEmpty, Bool.not_true]
      have hp : acc = comeL m := by
        rw [← hcl, e9]
        show acc = (match acc[k]? with
          | some p => closeC m (9 - (k + 1)) (expC m acc p m.facts) (k + 1)
          | none => acc)
        rw [ek]
      rw [hp]
      exact q
    | some p =>
      rw [wtC_cons ek]
      have hpm : p ∈ acc := List.mem_of_getElem? ek
      have rp := inv.rg p hpm
      simp only [w__law_come_t4, w__law_come_t3, Mach.dd, Cary.dd, lk_facts, lk_step, lk_gain, lk_leave, lk_to, lk_cost, ↓wSeq_e, ↓wNext_e, ↓wBreak_e, ↓wCont_e, ↓wRet_e, ↓wRetN_e, ↓wDrop_e, ↓wIf_e, ↓wAnd_e, ↓wOr_e, ↓wNot_e, ↓wTst_e, ↓wAndV_e, ↓wOrV_e, ↓wNotV_e, ↓wIfE_e, ↓wChain_e, ↓wVar_e, ↓wPk_e, ↓wC_e, ↓wOp_e, ↓wUn_e, ↓wM1_e, ↓wTup_e, ↓wfLst_e, ↓wFz_e, ↓waNil_e, ↓waCons_e, ↓asNil_e, ↓asCons_e, ↓asBox_e, ↓wCall_e, ↓wAsg_e, ↓wSt_e, ↓wAsgO_e, ↓wTp_e, ↓wTpL_e, ↓wPar_e, ↓wStL_nil, ↓wStL_cons, ↓wFor_e, ↓wRg1_e, ↓wRg2_e, ↓wItL_e, ↓wItT_e, ↓wItS_e, ↓wApp_e, ↓woNone_e, ↓woSome_e, ↓wCut_e, ↓wBx1_e, ↓wBx0_e, ↓wBxPut_e, ↓wDraw_e, ↓wLSet_e, ↓wNever_e, ↓wFld_e, ↓wMeth_e, ↓wMake_e, ↓wFldN_e, ↓wZip_e, ↓wPut_e, ↓wfList_e, ↓wfDict_e, ↓wfDisp1_e, ↓wPop0_e, ↓wOFld_e, ↓wOFldS_e, ↓wOApp_e, ↓wOPut_e, ↓wFldNO_e, ↓wMethO_e, ↓wGet1_e, ↓wfCut_e, ↓wfDk_e, ↓wfDt_e, ↓wCopy_e, ↓wRowPk_e, ↓wPutRow_e, ↓wTru_e, ↓wLc_e, ↓wYes_e, ↓wAug_e, dLt, dLe, dGt, dGe, dSub, dMul, dMod, dFdiv, dPow, dI2, dI2C, dAdd, dEq, dNe, dLen, dInt, dIx_l, dIx_t, dIx_s, dList, dSum, dCut, atI_zero, atI_one, Option.some.injEq, dTru, dMax2, dMin2, dAddI, dEqS, dIs, dNotIs, dSortDI, obD, id_eq, List.getElem?_cons_zero, List.getElem?_cons_succ, List.set_cons_zero, List.set_cons_succ, List.length_cons, List.length_nil, D.bl.injEq, exists_eq_left', decide_eq_true_eq, decide_eq_false_iff_not, Bool.not_eq_true', Bool.not_eq_false', Nat.zero_add, Nat.reduceAdd, true_and, and_true, forall_const, reduceCtorEq, not_true_eq_false, not_false_eq_true, false_implies, true_implies, implies_true, sz_line, Nat.reduceLeDiff, Int.reduceLE, Int.reduceLT, Int.reduceNeg, Int.reducePow, Int.reduceAdd, Int.reduceSub, Int.reduceMul, List.isEmpty, Bool.not_false, cut1]
      have hk1 : k < acc.length := (List.getElem?_eq_some_iff.mp ek).1
      have invE : ∀ dn : List Str, (∀ g ∈ dn, g ∈ m.facts) → CInv m (expC m acc p dn) := fun dn hd => inv.exp okm dn hd hpm
      refine for_pre (fun dn ρ => ∃ s4 s5, ρ = [.sh (.ins "Machine" machF m.ds), .ok (ckC (expC m acc p dn)) (cwC (expC m acc p dn)), .ol (wtC (expC m acc p dn) (k + 1)), .sh (.int p.1), s4, s5]) ?_ ?_ _ ⟨_, _, rfl⟩
      · rintro dn f rest e ρ ⟨s4, s5, rfl⟩ C hC
        have hf : f ∈ m.facts := by rw [e]; simp
        have invd := invE dn (fun g hg => by rw [e]; simp [hg])
        obtain ⟨more, em⟩ := expC_ext m p dn acc
        have hpd : p ∈ expC m acc p dn := by rw [em]; exact List.mem_append_left _ hpm
        have ld := invd.len okm
        have st := Mach.stp_in okm (s := p.1.toNat) (by omega) hf
        simp only [Mach.dd, Cary.dd, lk_facts, lk_step, lk_gain, lk_leave, lk_to, lk_cost, ↓wSeq_e, ↓wNext_e, ↓wBreak_e, ↓wCont_e, ↓wRet_e, ↓wRetN_e, ↓wDrop_e, ↓wIf_e, ↓wAnd_e, ↓wOr_e, ↓wNot_e, ↓wTst_e, ↓wAndV_e, ↓wOrV_e, ↓wNotV_e, ↓wIfE_e, ↓wChain_e, ↓wVar_e, ↓wPk_e, ↓wC_e, ↓wOp_e, ↓wUn_e, ↓wM1_e, ↓wTup_e, ↓wfLst_e, ↓wFz_e, ↓waNil_e, ↓waCons_e, ↓asNil_e, ↓asCons_e, ↓asBox_e, ↓wCall_e, ↓wAsg_e, ↓wSt_e, ↓wAsgO_e, ↓wTp_e, ↓wTpL_e, ↓wPar_e, ↓wStL_nil, ↓wStL_cons, ↓wFor_e, ↓wRg1_e, ↓wRg2_e, ↓wItL_e, ↓wItT_e, ↓wItS_e, ↓wApp_e, ↓woNone_e, ↓woSome_e, ↓wCut_e, ↓wBx1_e, ↓wBx0_e, ↓wBxPut_e, ↓wDraw_e, ↓wLSet_e, ↓wNever_e, ↓wFld_e, ↓wMeth_e, ↓wMake_e, ↓wFldN_e, ↓wZip_e, ↓wPut_e, ↓wfList_e, ↓wfDict_e, ↓wfDisp1_e, ↓wPop0_e, ↓wOFld_e, ↓wOFldS_e, ↓wOApp_e, ↓wOPut_e, ↓wFldNO_e, ↓wMethO_e, ↓wGet1_e, ↓wfCut_e, ↓wfDk_e, ↓wfDt_e, ↓wCopy_e, ↓wRowPk_e, ↓wPutRow_e, ↓wTru_e, ↓wLc_e, ↓wYes_e, ↓wAug_e, dLt, dLe, dGt, dGe, dSub, dMul, dMod, dFdiv, dPow, dI2, dI2C, dAdd, dEq, dNe, dLen, dInt, dIx_l, dIx_t, dIx_s, dList, dSum, dCut, atI_zero, atI_one, Option.some.injEq, dTru, dMax2, dMin2, dAddI, dEqS, dIs, dNotIs, dSortDI, obD, id_eq, List.getElem?_cons_zero, List.getElem?_cons_succ, List.set_cons_zero, List.set_cons_succ, List.length_cons, List.length_nil, D.bl.injEq, exists_eq_left', decide_eq_true_eq, decide_eq_false_iff_not, Bool.not_eq_true', Bool.not_eq_false', Nat.zero_add, Nat.reduceAdd, true_and, and_true, forall_const, reduceCtorEq, not_true_eq_false, not_false_eq_true, false_implies, true_implies, implies_true, sz_line, Nat.reduceLeDiff, Int.reduceLE, Int.reduceLT, Int.reduceNeg, Int.reducePow, Int.reduceAdd, Int.reduceSub, Int.reduceMul]
        refine ⟨_, Mach.at_step okm rp.1 rp.2, Mach.ix_step okm (by omega) hf ?_⟩
        simp only [w__law_come_t2, Mach.dd, Cary.dd, lk_facts, lk_step, lk_gain, lk_leave, lk_to, lk_cost, ↓wSeq_e, ↓wNext_e, ↓wBreak_e, ↓wCont_e, ↓wRet_e, ↓wRetN_e, ↓wDrop_e, ↓wIf_e, ↓wAnd_e, ↓wOr_e, ↓wNot_e, ↓wTst_e, ↓wAndV_e, ↓wOrV_e, ↓wNotV_e, ↓wIfE_e, ↓wChain_e, ↓wVar_e, ↓wPk_e, ↓wC_e, ↓wOp_e, ↓wUn_e, ↓wM1_e, ↓wTup_e, ↓wfLst_e, ↓wFz_e, ↓waNil_e, ↓waCons_e, ↓asNil_e, ↓asCons_e, ↓asBox_e, ↓wCall_e, ↓wAsg_e, ↓wSt_e, ↓wAsgO_e, ↓wTp_e, ↓wTpL_e, ↓wPar_e, ↓wStL_nil, ↓wStL_cons, ↓wFor_e, ↓wRg1_e, ↓wRg2_e, ↓wItL_e, ↓wItT_e, ↓wItS_e, ↓wApp_e, ↓woNone_e, ↓woSome_e, ↓wCut_e, ↓wBx1_e, ↓wBx0_e, ↓wBxPut_e, ↓wDraw_e, ↓wLSet_e, ↓wNever_e, ↓wFld_e, ↓wMeth_e, ↓wMake_e, ↓wFldN_e, ↓wZip_e, ↓wPut_e, ↓wfList_e, ↓wfDict_e, ↓wfDisp1_e, ↓wPop0_e, ↓wOFld_e, ↓wOFldS_e, ↓wOApp_e, ↓wOPut_e, ↓wFldNO_e, ↓wMethO_e, ↓wGet1_e, ↓wfCut_e, ↓wfDk_e, ↓wfDt_e, ↓wCopy_e, ↓wRowPk_e, ↓wPutRow_e, ↓wTru_e, ↓wLc_e, ↓wYes_e, ↓wAug_e, dLt, dLe, dGt, dGe, dSub, dMul, dMod, dFdiv, dPow, dI2, dI2C, dAdd, dEq, dNe, dLen, dInt, dIx_l, dIx_t, dIx_s, dList, dSum, dCut, atI_zero, atI_one, Option.some.injEq, dTru, dMax2, dMin2, dAddI, dEqS, dIs, dNotIs, dSortDI, obD, id_eq, List.getElem?_cons_zero, List.getElem?_cons_succ, List.set_cons_zero, List.set_cons_succ, List.length_cons, List.length_nil, D.bl.injEq, exists_eq_left', decide_eq_true_eq, decide_eq_false_iff_not, Bool.not_eq_true', Bool.not_eq_false', Nat.zero_add, Nat.reduceAdd, true_and, and_true, forall_const, reduceCtorEq, not_true_eq_false, not_false_eq_true, false_implies, true_implies, implies_true, sz_line, Nat.reduceLeDiff, Int.reduceLE, Int.reduceLT, Int.reduceNeg, Int.reducePow, Int.reduceAdd, Int.reduceSub, Int.reduceMul]
        refine ⟨_, get_come, ?_⟩
        have es : expC m acc p (dn ++ [f]) = stepC m (expC m acc p dn) p f := expC_snoc ..
        by_cases hm : m.stp p.1.toNat f ∈ (expC m acc p dn).map (·.1)
        · have e2 : stepC m (expC m acc p dn) p f = expC m acc p dn := if_pos hm
          obtain ⟨⟨a, w⟩, ha, ea⟩ := List.mem_map.mp hm
          have ea : a = _ := ea
          subst ea
          rw [find_mem invd.nd ha]
          simp only [↓wSeq_e, ↓wNext_e, ↓wBreak_e, ↓wCont_e, ↓wRet_e, ↓wRetN_e, ↓wDrop_e, ↓wIf_e, ↓wAnd_e, ↓wOr_e, ↓wNot_e, ↓wTst_e, ↓wAndV_e, ↓wOrV_e, ↓wNotV_e, ↓wIfE_e, ↓wChain_e, ↓wVar_e, ↓wPk_e, ↓wC_e, ↓wOp_e, ↓wUn_e, ↓wM1_e, ↓wTup_e, ↓wfLst_e, ↓wFz_e, ↓waNil_e, ↓waCons_e, ↓asNil_e, ↓asCons_e, ↓asBox_e, ↓wCall_e, ↓wAsg_e, ↓wSt_e, ↓wAsgO_e, ↓wTp_e, ↓wTpL_e, ↓wPar_e, ↓wStL_nil, ↓wStL_cons, ↓wFor_e, ↓wRg1_e, ↓wRg2_e, ↓wItL_e, ↓wItT_e, ↓wItS_e, ↓wApp_e, ↓woNone_e, ↓woSome_e, ↓wCut_e, ↓wBx1_e, ↓wBx0_e, ↓wBxPut_e, ↓wDraw_e, ↓wLSet_e, ↓wNever_e, ↓wFld_e, ↓wMeth_e, ↓wMake_e, ↓wFldN_e, ↓wZip_e, ↓wPut_e, ↓wfList_e, ↓wfDict_e, ↓wfDisp1_e, ↓wPop0_e, ↓wOFld_e, ↓wOFldS_e, ↓wOApp_e, ↓wOPut_e, ↓wFldNO_e, ↓wMethO_e, ↓wGet1_e, ↓wfCut_e, ↓wfDk_e, ↓wfDt_e, ↓wCopy_e, ↓wRowPk_e, ↓wPutRow_e, ↓wTru_e, ↓wLc_e, ↓wYes_e, ↓wAug_e, dLt, dLe, dGt, dGe, dSub, dMul, dMod, dFdiv, dPow, dI2, dI2C, dAdd, dEq, dNe, dLen, dInt, dIx_l, dIx_t, dIx_s, dList, dSum, dCut, atI_zero, atI_one, Option.some.injEq, dTru, dMax2, dMin2, dAddI, dEqS, dIs, dNotIs, dSortDI, obD, id_eq, List.getElem?_cons_zero, List.getElem?_cons_succ, List.set_cons_zero, List.set_cons_succ, List.length_cons, List.length_nil, D.bl.injEq, exists_eq_left', decide_eq_true_eq, decide_eq_false_iff_not, Bool.not_eq_true', Bool.not_eq_false', Nat.zero_add, Nat.reduceAdd, true_and, and_true, forall_const, reduceCtorEq, not_true_eq_false, not_false_eq_true, false_implies, true_implies, implies_true, sz_line, Nat.reduceLeDiff, Int.reduceLE, Int.reduceLT, Int.reduceNeg, Int.reducePow, Int.reduceAdd, Int.reduceSub, Int.reduceMul, Option.map, Option.isSome, Bool.not_true]
          refine hC _ ⟨.sh (.int (m.stp p.1.toNat f)), .sh (.str f), ?_⟩
          rw [es, e2]
        · have e2 : stepC m (expC m acc p dn) p f = expC m acc p dn ++ [(m.stp p.1.toNat f, p.2 ++ [f])] := if_neg hm
          rw [find_none hm]
          simp only [↓wSeq_e, ↓wNext_e, ↓wBreak_e, ↓wCont_e, ↓wRet_e, ↓wRetN_e, ↓wDrop_e, ↓wIf_e, ↓wAnd_e, ↓wOr_e, ↓wNot_e, ↓wTst_e, ↓wAndV_e, ↓wOrV_e, ↓wNotV_e, ↓wIfE_e, ↓wChain_e, ↓wVar_e, ↓wPk_e, ↓wC_e, ↓wOp_e, ↓wUn_e, ↓wM1_e, ↓wTup_e, ↓wfLst_e, ↓wFz_e, ↓waNil_e, ↓waCons_e, ↓asNil_e, ↓asCons_e, ↓asBox_e, ↓wCall_e, ↓wAsg_e, ↓wSt_e, ↓wAsgO_e, ↓wTp_e, ↓wTpL_e, ↓wPar_e, ↓wStL_nil, ↓wStL_cons, ↓wFor_e, ↓wRg1_e, ↓wRg2_e, ↓wItL_e, ↓wItT_e, ↓wItS_e, ↓wApp_e, ↓woNone_e, ↓woSome_e, ↓wCut_e, ↓wBx1_e, ↓wBx0_e, ↓wBxPut_e, ↓wDraw_e, ↓wLSet_e, ↓wNever_e, ↓wFld_e, ↓wMeth_e, ↓wMake_e, ↓wFldN_e, ↓wZip_e, ↓wPut_e, ↓wfList_e, ↓wfDict_e, ↓wfDisp1_e, ↓wPop0_e, ↓wOFld_e, ↓wOFldS_e, ↓wOApp_e, ↓wOPut_e, ↓wFldNO_e, ↓wMethO_e, ↓wGet1_e, ↓wfCut_e, ↓wfDk_e, ↓wfDt_e, ↓wCopy_e, ↓wRowPk_e, ↓wPutRow_e, ↓wTru_e, ↓wLc_e, ↓wYes_e, ↓wAug_e, dLt, dLe, dGt, dGe, dSub, dMul, dMod, dFdiv, dPow, dI2, dI2C, dAdd, dEq, dNe, dLen, dInt, dIx_l, dIx_t, dIx_s, dList, dSum, dCut, atI_zero, atI_one, Option.some.injEq, dTru, dMax2, dMin2, dAddI, dEqS, dIs, dNotIs, dSortDI, obD, id_eq, List.getElem?_cons_zero, List.getElem?_cons_succ, List.set_cons_zero, List.set_cons_succ, List.length_cons, List.length_nil, D.bl.injEq, exists_eq_left', decide_eq_true_eq, decide_eq_false_iff_not, Bool.not_eq_true', Bool.not_eq_false', Nat.zero_add, Nat.reduceAdd, true_and, and_true, forall_const, reduceCtorEq, not_true_eq_false, not_false_eq_true, false_implies, true_implies, implies_true, sz_line, Nat.reduceLeDiff, Int.reduceLE, Int.reduceLT, Int.reduceNeg, Int.reducePow, Int.reduceAdd, Int.reduceSub, Int.reduceMul, Option.map, Option.isSome, Bool.not_false]
          refine ⟨_, by
            show getD' _ _ = some (some _)
            rw [get_come, find_mem invd.nd (show (p.1, p.2) ∈ _ from hpd)]
            rfl, ?_⟩
          simp only [w__law_come_t1, wordD, Mach.dd, Cary.dd, lk_facts, lk_step, lk_gain, lk_leave, lk_to, lk_cost, ↓wSeq_e, ↓wNext_e, ↓wBreak_e, ↓wCont_e, ↓wRet_e, ↓wRetN_e, ↓wDrop_e, ↓wIf_e, ↓wAnd_e, ↓wOr_e, ↓wNot_e, ↓wTst_e, ↓wAndV_e, ↓wOrV_e, ↓wNotV_e, ↓wIfE_e, ↓wChain_e, ↓wVar_e, ↓wPk_e, ↓wC_e, ↓wOp_e, ↓wUn_e, ↓wM1_e, ↓wTup_e, ↓wfLst_e, ↓wFz_e, ↓waNil_e, ↓waCons_e, ↓asNil_e, ↓asCons_e, ↓asBox_e, ↓wCall_e, ↓wAsg_e, ↓wSt_e, ↓wAsgO_e, ↓wTp_e, ↓wTpL_e, ↓wPar_e, ↓wStL_nil, ↓wStL_cons, ↓wFor_e, ↓wRg1_e, ↓wRg2_e, ↓wItL_e, ↓wItT_e, ↓wItS_e, ↓wApp_e, ↓woNone_e, ↓woSome_e, ↓wCut_e, ↓wBx1_e, ↓wBx0_e, ↓wBxPut_e, ↓wDraw_e, ↓wLSet_e, ↓wNever_e, ↓wFld_e, ↓wMeth_e, ↓wMake_e, ↓wFldN_e, ↓wZip_e, ↓wPut_e, ↓wfList_e, ↓wfDict_e, ↓wfDisp1_e, ↓wPop0_e, ↓wOFld_e, ↓wOFldS_e, ↓wOApp_e, ↓wOPut_e, ↓wFldNO_e, ↓wMethO_e, ↓wGet1_e, ↓wfCut_e, ↓wfDk_e, ↓wfDt_e, ↓wCopy_e, ↓wRowPk_e, ↓wPutRow_e, ↓wTru_e, ↓wLc_e, ↓wYes_e, ↓wAug_e, dLt, dLe, dGt, dGe, dSub, dMul, dMod, dFdiv, dPow, dI2, dI2C, dAdd, dEq, dNe, dLen, dInt, dIx_l, dIx_t, dIx_s, dList, dSum, dCut, atI_zero, atI_one, Option.some.injEq, dTru, dMax2, dMin2, dAddI, dEqS, dIs, dNotIs, dSortDI, obD, id_eq, List.getElem?_cons_zero, List.getElem?_cons_succ, List.set_cons_zero, List.set_cons_succ, List.length_cons, List.length_nil, D.bl.injEq, exists_eq_left', decide_eq_true_eq, decide_eq_false_iff_not, Bool.not_eq_true', Bool.not_eq_false', Nat.zero_add, Nat.reduceAdd, true_and, and_true, forall_const, reduceCtorEq, not_true_eq_false, not_false_eq_true, false_implies, true_implies, implies_true, sz_line, Nat.reduceLeDiff, Int.reduceLE, Int.reduceLT, Int.reduceNeg, Int.reducePow, Int.reduceAdd, Int.reduceSub, Int.reduceMul, List.length_map]
          have wl := (invd.ws p hpd).2
          refine ⟨by omega, ⟨_, rfl, trivial⟩, _, rfl, by unfold ckC; rw [List.length_map]; omega, ?_⟩
          have e3 := put_come (acc := expC m acc p dn) (w := p.2 ++ [f]) hm
          unfold wordD at e3
          rw [List.map_append] at e3
          simp only [List.map_cons, List.map_nil] at e3
          rw [e3]
          refine ⟨by unfold wtC; rw [List.length_map, List.length_drop]; omega, ?_⟩
          refine hC _ ⟨.sh (.int (m.stp p.1.toNat f)), .sh (.str f), ?_⟩
          rw [es, e2, wtC_app (by rw [em, List.length_append]; omega)]
      · rintro ρ ⟨s4, s5, rfl⟩
        obtain ⟨more, em⟩ := expC_ext m p m.facts acc
        refine ⟨9 - (k + 1), by omega, expC m acc p m.facts, k + 1, _, _, _, rfl, by rw [em, List.length_append]; omega, invE _ (fun f h => h), ?_, rfl⟩
        rw [← hcl, e9]
        show _ = (match acc[k]? with
          | some p => closeC m (9 - (k + 1)) (expC m acc p m.facts) (k + 1)
          | none => acc)
        rw [ek]
  · exact h.elim
/-! ### _law_ahead -/
def wf__law_ahead : WFn
  | [.sh d, .sh e, .sh g, .sh (.str f)], Q => ∃ (m o : Mach) (p : P2), d = m.dd ∧ e = o.dd ∧ g = pD p ∧ m.ok 8 20 ∧ o.ok 8 20 ∧ o.facts = m.facts ∧ inR m o p ∧ f ∈ m.facts ∧ Q (.int (gnv m o p f))
  | _, _ => False
theorem len__law_ahead : ∀ as Qd, wf__law_ahead as Qd → as.length = 4 := fun as Qd h => by
  unfold wf__law_ahead at h
  split at h
  · rfl
  · exact h.elim

def w__law_ahead : WS := (wRet (wOp dSub (wOp dIx (wOp dIx (wFld "Machine" "gain" (wPk 0)) (wOp dIx (wPk 2) (wC (.int 0)))) (wPk 3)) (wOp dIx (wOp dIx (wFld "Machine" "gain" (wPk 1)) (wOp dIx (wPk 2) (wC (.int 1)))) (wPk 3))))

theorem p__law_ahead : ∀ as Qd, wf__law_ahead as Qd → w__law_ahead (startD ["_law_machine_here", "_law_other", "_law_pair", "_law_fact"] as) { nx := fun _ => Qd .non, rt := fun d _ => Qd d } := fun as Qd h => by
  unfold wf__law_ahead at h
  split at h
  · rename_i d e g f
    obtain ⟨m, o, p, rfl, rfl, rfl, okm, oko, hfo, hp, hf, q⟩ := h
    show w__law_ahead [.sh m.dd, .sh o.dd, .sh (pD p), .sh (.str f)] _
    simp only [w__law_ahead, Mach.dd, Cary.dd, lk_facts, lk_step, lk_gain, lk_leave, lk_to, lk_cost, ↓wSeq_e, ↓wNext_e, ↓wBreak_e, ↓wCont_e, ↓wRet_e, ↓wRetN_e, ↓wDrop_e, ↓wIf_e, ↓wAnd_e, ↓wOr_e, ↓wNot_e, ↓wTst_e, ↓wAndV_e, ↓wOrV_e, ↓wNotV_e, ↓wIfE_e, ↓wChain_e, ↓wVar_e, ↓wPk_e, ↓wC_e, ↓wOp_e, ↓wUn_e, ↓wM1_e, ↓wTup_e, ↓wfLst_e, ↓wFz_e, ↓waNil_e, ↓waCons_e, ↓asNil_e, ↓asCons_e, ↓asBox_e, ↓wCall_e, ↓wAsg_e, ↓wSt_e, ↓wAsgO_e, ↓wTp_e, ↓wTpL_e, ↓wPar_e, ↓wStL_nil, ↓wStL_cons, ↓wFor_e, ↓wRg1_e, ↓wRg2_e, ↓wItL_e, ↓wItT_e, ↓wItS_e, ↓wApp_e, ↓woNone_e, ↓woSome_e, ↓wCut_e, ↓wBx1_e, ↓wBx0_e, ↓wBxPut_e, ↓wDraw_e, ↓wLSet_e, ↓wNever_e, ↓wFld_e, ↓wMeth_e, ↓wMake_e, ↓wFldN_e, ↓wZip_e, ↓wPut_e, ↓wfList_e, ↓wfDict_e, ↓wfDisp1_e, ↓wPop0_e, ↓wOFld_e, ↓wOFldS_e, ↓wOApp_e, ↓wOPut_e, ↓wFldNO_e, ↓wMethO_e, ↓wGet1_e, ↓wfCut_e, ↓wfDk_e, ↓wfDt_e, ↓wCopy_e, ↓wRowPk_e, ↓wPutRow_e, ↓wTru_e, ↓wLc_e, ↓wYes_e, ↓wAug_e, dLt, dLe, dGt, dGe, dSub, dMul, dMod, dFdiv, dPow, dI2, dI2C, dAdd, dEq, dNe, dLen, dInt, dIx_l, dIx_t, dIx_s, dList, dSum, dCut, atI_zero, atI_one, Option.some.injEq, dTru, dMax2, dMin2, dAddI, dEqS, dIs, dNotIs, dSortDI, obD, id_eq, List.getElem?_cons_zero, List.getElem?_cons_succ, List.set_cons_zero, List.set_cons_succ, List.length_cons, List.length_nil, D.bl.injEq, exists_eq_left', decide_eq_true_eq, decide_eq_false_iff_not, Bool.not_eq_true', Bool.not_eq_false', Nat.zero_add, Nat.reduceAdd, true_and, and_true, forall_const, reduceCtorEq, not_true_eq_false, not_false_eq_true, false_implies, true_implies, implies_true, sz_line, Nat.reduceLeDiff, Int.reduceLE, Int.reduceLT, Int.reduceNeg, Int.reducePow, Int.reduceAdd, Int.reduceSub, Int.reduceMul, pD]
    refine ⟨_, Mach.at_gain okm hp.a0 hp.a1, Mach.ix_gain okm (by have := hp.a1; have := hp.a0; omega) hf ?_⟩
    refine ⟨_, Mach.at_gain oko hp.b0 hp.b1, Mach.ix_gain oko (by have := hp.b1; have := hp.b0; omega) (by rw [hfo]; exact hf) ?_⟩
    exact q
  · exact h.elim
/-! ### _law_after -/
def wf__law_after : WFn
  | [.sh d, .sh e, .sh g, .sh (.str f)], Q => ∃ (m o : Mach) (p : P2), d = m.dd ∧ e = o.dd ∧ g = pD p ∧ m.ok 8 20 ∧ o.ok 8 20 ∧ o.facts = m.facts ∧ inR m o p ∧ f ∈ m.facts ∧ Q (pD (aft m o p f))
  | _, _ => False
theorem len__law_after : ∀ as Qd, wf__law_after as Qd → as.length = 4 := fun as Qd h => by
  unfold wf__law_after at h
  split at h
  · rfl
  · exact h.elim

def w__law_after : WS := (wRet (wTup (waCons (wOp dIx (wOp dIx (wFld "Machine" "step" (wPk 0)) (wOp dIx (wPk 2) (wC (.int 0)))) (wPk 3)) (waCons (wOp dIx (wOp dIx (wFld "Machine" "step" (wPk 1)) (wOp dIx (wPk 2) (wC (.int 1)))) (wPk 3)) waNil))))

theorem p__law_after : ∀ as Qd, wf__law_after as Qd → w__law_after (startD ["_law_machine_here", "_law_other", "_law_pair", "_law_fact"] as) { nx := fun _ => Qd .non, rt := fun d _ => Qd d } := fun as Qd h => by
  unfold wf__law_after at h
  split at h
  · rename_i d e g f
    obtain ⟨m, o, p, rfl, rfl, rfl, okm, oko, hfo, hp, hf, q⟩ := h
    show w__law_after [.sh m.dd, .sh o.dd, .sh (pD p), .sh (.str f)] _
    simp only [w__law_after, Mach.dd, Cary.dd, lk_facts, lk_step, lk_gain, lk_leave, lk_to, lk_cost, ↓wSeq_e, ↓wNext_e, ↓wBreak_e, ↓wCont_e, ↓wRet_e, ↓wRetN_e, ↓wDrop_e, ↓wIf_e, ↓wAnd_e, ↓wOr_e, ↓wNot_e, ↓wTst_e, ↓wAndV_e, ↓wOrV_e, ↓wNotV_e, ↓wIfE_e, ↓wChain_e, ↓wVar_e, ↓wPk_e, ↓wC_e, ↓wOp_e, ↓wUn_e, ↓wM1_e, ↓wTup_e, ↓wfLst_e, ↓wFz_e, ↓waNil_e, ↓waCons_e, ↓asNil_e, ↓asCons_e, ↓asBox_e, ↓wCall_e, ↓wAsg_e, ↓wSt_e, ↓wAsgO_e, ↓wTp_e, ↓wTpL_e, ↓wPar_e, ↓wStL_nil, ↓wStL_cons, ↓wFor_e, ↓wRg1_e, ↓wRg2_e, ↓wItL_e, ↓wItT_e, ↓wItS_e, ↓wApp_e, ↓woNone_e, ↓woSome_e, ↓wCut_e, ↓wBx1_e, ↓wBx0_e, ↓wBxPut_e, ↓wDraw_e, ↓wLSet_e, ↓wNever_e, ↓wFld_e, ↓wMeth_e, ↓wMake_e, ↓wFldN_e, ↓wZip_e, ↓wPut_e, ↓wfList_e, ↓wfDict_e, ↓wfDisp1_e, ↓wPop0_e, ↓wOFld_e, ↓wOFldS_e, ↓wOApp_e, ↓wOPut_e, ↓wFldNO_e, ↓wMethO_e, ↓wGet1_e, ↓wfCut_e, ↓wfDk_e, ↓wfDt_e, ↓wCopy_e, ↓wRowPk_e, ↓wPutRow_e, ↓wTru_e, ↓wLc_e, ↓wYes_e, ↓wAug_e, dLt, dLe, dGt, dGe, dSub, dMul, dMod, dFdiv, dPow, dI2, dI2C, dAdd, dEq, dNe, dLen, dInt, dIx_l, dIx_t, dIx_s, dList, dSum, dCut, atI_zero, atI_one, Option.some.injEq, dTru, dMax2, dMin2, dAddI, dEqS, dIs, dNotIs, dSortDI, obD, id_eq, List.getElem?_cons_zero, List.getElem?_cons_succ, List.set_cons_zero, List.set_cons_succ, List.length_cons, List.length_nil, D.bl.injEq, exists_eq_left', decide_eq_true_eq, decide_eq_false_iff_not, Bool.not_eq_true', Bool.not_eq_false', Nat.zero_add, Nat.reduceAdd, true_and, and_true, forall_const, reduceCtorEq, not_true_eq_false, not_false_eq_true, false_implies, true_implies, implies_true, sz_line, Nat.reduceLeDiff, Int.reduceLE, Int.reduceLT, Int.reduceNeg, Int.reducePow, Int.reduceAdd, Int.reduceSub, Int.reduceMul, pD]
    refine ⟨_, Mach.at_step okm hp.a0 hp.a1, Mach.ix_step okm (by have := hp.a1; have := hp.a0; omega) hf ?_⟩
    refine ⟨_, Mach.at_step oko hp.b0 hp.b1, Mach.ix_step oko (by have := hp.b1; have := hp.b0; omega) (by rw [hfo]; exact hf) ?_⟩
    exact q
  · exact h.elim
/-! ### _law_refused -/
theorem eqDL_strs2 : ∀ fs gs : List Str, eqDL (fs.map D.str) (gs.map D.str) = decide (fs = gs)
  | [], [] => by simp [eqDL]
  | [], _ :: _ => by simp [eqDL]
  | _ :: _, [] => by simp [eqDL]
  | f :: fs, g :: gs => by
    simp only [List.map_cons, eqDL, eqD, eqDL_strs2 fs gs]
    by_cases h : f = g
    · subst h; simp
    · simp [h]
def wz_facts : List Sl → Prop
  | [.sh d, .sh e] => ∃ m o : Mach, d = m.dd ∧ e = o.dd ∧ o.facts ≠ m.facts ∧ (∀ f ∈ m.facts, PyData.strOk f = true) ∧ ∀ f ∈ o.facts, PyData.strOk f = true
  | _ => False
theorem lz_facts : ∀ as, wz_facts as → as.length = 2 := fun as h => by
  unfold wz_facts at h
  split at h
  · rfl
  · exact h.elim
theorem pz_facts : ∀ as, wz_facts as → (wTst (wOp dNe (wFld "Machine" "facts" (wPk 0)) (wFld "Machine" "facts" (wPk 1)))) (startD ["machine", "other"] as) fun b _ => b = true := fun as h => by
  unfold wz_facts at h
  split at h
  · obtain ⟨m, o, rfl, rfl, hf, s1, s2⟩ := h
    show (wTst (wOp dNe (wFld "Machine" "facts" (wPk 0)) (wFld "Machine" "facts" (wPk 1)))) [.sh m.dd, .sh o.dd] _
    simp only [Mach.dd, Cary.dd, lk_facts, lk_step, lk_gain, lk_leave, lk_to, lk_cost, ↓wSeq_e, ↓wNext_e, ↓wBreak_e, ↓wCont_e, ↓wRet_e, ↓wRetN_e, ↓wDrop_e, ↓wIf_e, ↓wAnd_e, ↓wOr_e, ↓wNot_e, ↓wTst_e, ↓wAndV_e, ↓wOrV_e, ↓wNotV_e, ↓wIfE_e, ↓wChain_e, ↓wVar_e, ↓wPk_e, ↓wC_e, ↓wOp_e, ↓wUn_e, ↓wM1_e, ↓wTup_e, ↓wfLst_e, ↓wFz_e, ↓waNil_e, ↓waCons_e, ↓asNil_e, ↓asCons_e, ↓asBox_e, ↓wCall_e, ↓wAsg_e, ↓wSt_e, ↓wAsgO_e, ↓wTp_e, ↓wTpL_e, ↓wPar_e, ↓wStL_nil, ↓wStL_cons, ↓wFor_e, ↓wRg1_e, ↓wRg2_e, ↓wItL_e, ↓wItT_e, ↓wItS_e, ↓wApp_e, ↓woNone_e, ↓woSome_e, ↓wCut_e, ↓wBx1_e, ↓wBx0_e, ↓wBxPut_e, ↓wDraw_e, ↓wLSet_e, ↓wNever_e, ↓wFld_e, ↓wMeth_e, ↓wMake_e, ↓wFldN_e, ↓wZip_e, ↓wPut_e, ↓wfList_e, ↓wfDict_e, ↓wfDisp1_e, ↓wPop0_e, ↓wOFld_e, ↓wOFldS_e, ↓wOApp_e, ↓wOPut_e, ↓wFldNO_e, ↓wMethO_e, ↓wGet1_e, ↓wfCut_e, ↓wfDk_e, ↓wfDt_e, ↓wCopy_e, ↓wRowPk_e, ↓wPutRow_e, ↓wTru_e, ↓wLc_e, ↓wYes_e, ↓wAug_e, dLt, dLe, dGt, dGe, dSub, dMul, dMod, dFdiv, dPow, dI2, dI2C, dAdd, dEq, dNe, dLen, dInt, dIx_l, dIx_t, dIx_s, dList, dSum, dCut, atI_zero, atI_one, Option.some.injEq, dTru, dMax2, dMin2, dAddI, dEqS, dIs, dNotIs, dSortDI, obD, id_eq, List.getElem?_cons_zero, List.getElem?_cons_succ, List.set_cons_zero, List.set_cons_succ, List.length_cons, List.length_nil, D.bl.injEq, exists_eq_left', decide_eq_true_eq, decide_eq_false_iff_not, Bool.not_eq_true', Bool.not_eq_false', Nat.zero_add, Nat.reduceAdd, true_and, and_true, forall_const, reduceCtorEq, not_true_eq_false, not_false_eq_true, false_implies, true_implies, implies_true, sz_line, Nat.reduceLeDiff, Int.reduceLE, Int.reduceLT, Int.reduceNeg, Int.reducePow, Int.reduceAdd, Int.reduceSub, Int.reduceMul, dEqB]
    refine ⟨⟨shD_strs s1, shD_strs s2⟩, ?_⟩
    simp only [eqD, eqDL_strs2, decide_eq_false (fun z : m.facts = o.facts => hf z.symm), Bool.not_false]
  · exact h.elim
def wz_init : List Sl → Prop
  | [.od _ (.ins _ [] []), .sh d, .sh e, .sh _] => wz_facts [.sh d, .sh e]
  | _ => False
theorem lz_init : ∀ as, wz_init as → as.length = 4 := fun as h => by
  unfold wz_init at h
  split at h
  · rfl
  · exact h.elim
theorem pz_init : ∀ as, wz_init as → (asCons (wVar 1) (asCons (wVar 2) asNil)) (startD ["self", "machine", "other", "begins", "pair"] as) fun as2 _ => (∀ s ∈ as2, s ≠ .bx) ∧ wz_facts as2 := fun as h => by
  unfold wz_init at h
  split at h
  · rename_i x n d e g
    show (asCons (wVar 1) (asCons (wVar 2) asNil)) [.od x (.ins n [] []), .sh d, .sh e, .sh g, .no] _
    simp only [↓wSeq_e, ↓wNext_e, ↓wBreak_e, ↓wCont_e, ↓wRet_e, ↓wRetN_e, ↓wDrop_e, ↓wIf_e, ↓wAnd_e, ↓wOr_e, ↓wNot_e, ↓wTst_e, ↓wAndV_e, ↓wOrV_e, ↓wNotV_e, ↓wIfE_e, ↓wChain_e, ↓wVar_e, ↓wPk_e, ↓wC_e, ↓wOp_e, ↓wUn_e, ↓wM1_e, ↓wTup_e, ↓wfLst_e, ↓wFz_e, ↓waNil_e, ↓waCons_e, ↓asNil_e, ↓asCons_e, ↓asBox_e, ↓wCall_e, ↓wAsg_e, ↓wSt_e, ↓wAsgO_e, ↓wTp_e, ↓wTpL_e, ↓wPar_e, ↓wStL_nil, ↓wStL_cons, ↓wFor_e, ↓wRg1_e, ↓wRg2_e, ↓wItL_e, ↓wItT_e, ↓wItS_e, ↓wApp_e, ↓woNone_e, ↓woSome_e, ↓wCut_e, ↓wBx1_e, ↓wBx0_e, ↓wBxPut_e, ↓wDraw_e, ↓wLSet_e, ↓wNever_e, ↓wFld_e, ↓wMeth_e, ↓wMake_e, ↓wFldN_e, ↓wZip_e, ↓wPut_e, ↓wfList_e, ↓wfDict_e, ↓wfDisp1_e, ↓wPop0_e, ↓wOFld_e, ↓wOFldS_e, ↓wOApp_e, ↓wOPut_e, ↓wFldNO_e, ↓wMethO_e, ↓wGet1_e, ↓wfCut_e, ↓wfDk_e, ↓wfDt_e, ↓wCopy_e, ↓wRowPk_e, ↓wPutRow_e, ↓wTru_e, ↓wLc_e, ↓wYes_e, ↓wAug_e, dLt, dLe, dGt, dGe, dSub, dMul, dMod, dFdiv, dPow, dI2, dI2C, dAdd, dEq, dNe, dLen, dInt, dIx_l, dIx_t, dIx_s, dList, dSum, dCut, atI_zero, atI_one, Option.some.injEq, dTru, dMax2, dMin2, dAddI, dEqS, dIs, dNotIs, dSortDI, obD, id_eq, List.getElem?_cons_zero, List.getElem?_cons_succ, List.set_cons_zero, List.set_cons_succ, List.length_cons, List.length_nil, D.bl.injEq, exists_eq_left', decide_eq_true_eq, decide_eq_false_iff_not, Bool.not_eq_true', Bool.not_eq_false', Nat.zero_add, Nat.reduceAdd, true_and, and_true, forall_const, reduceCtorEq, not_true_eq_false, not_false_eq_true, false_implies, true_implies, implies_true, sz_line, Nat.reduceLeDiff, Int.reduceLE, Int.reduceLT, Int.reduceNeg, Int.reducePow, Int.reduceAdd, Int.reduceSub, Int.reduceMul]
    refine ⟨fun s hs => ?_, h⟩
    simp only [List.mem_cons, List.not_mem_nil, or_false] at hs
    rcases hs with rfl | rfl <;> exact fun z => nomatch z
  · exact h.elim
def wf__law_refused1 : WFn
  | [.sh d, .sh e], Q => ∃ m o : Mach, d = m.dd ∧ e = o.dd ∧ m.ok 8 20 ∧ o.ok 8 20 ∧ o.facts = m.facts ∧ (∀ f ∈ m.facts, PyData.strOk f = true) ∧ Q (.bl false)
  | _, _ => False
def wf__law_refused2 : WFn
  | [.sh d, .sh e], Q => wz_facts [.sh d, .sh e] ∧ Q (.bl true)
  | _, _ => False
def wf__law_refused : WFn := fun as Q => wf__law_refused1 as Q ∨ wf__law_refused2 as Q
theorem len__law_refused1 : ∀ as Qd, wf__law_refused1 as Qd → as.length = 2 := fun as Qd h => by
  unfold wf__law_refused1 at h
  split at h
  · rfl
  · exact h.elim
theorem len__law_refused2 : ∀ as Qd, wf__law_refused2 as Qd → as.length = 2 := fun as Qd h => by
  unfold wf__law_refused2 at h
  split at h
  · rfl
  · exact h.elim
def w__law_refused1 : WS := (wSeq (wDrop (wMake "Pairs" wf_Pairs_init (asCons (wVar 0) (asCons (wVar 1) (asCons (wFz (wfLst (waCons (wTup (waCons (wC (.int 0)) (waCons (wC (.int 0)) waNil))) waNil))) asNil)))))
 (wRet (wC (.bl false))))
def w__law_refused2 : WS := wSeq (wTryT "Pairs" wz_init (asCons (wVar 0) (asCons (wVar 1) (asCons (wFz (wfLst (waCons (wTup (waCons (wC (.int 0)) (waCons (wC (.int 0)) waNil))) waNil))) asNil)))) (wRet (wC (.bl false)))
theorem p__law_refused1 : ∀ as Qd, wf__law_refused1 as Qd → w__law_refused1 (startD ["_law_machine_here", "_law_other"] as) { nx := fun _ => Qd .non, rt := fun d _ => Qd d } := fun as Qd h => by
  unfold wf__law_refused1 at h
  split at h
  · obtain ⟨m, o, rfl, rfl, okm, oko, hfo, hst, q⟩ := h
    have n1 := okm.n1
    have n2 := oko.n1
    show w__law_refused1 [.sh m.dd, .sh o.dd] _
    simp only [w__law_refused1, ↓wSeq_e, ↓wNext_e, ↓wBreak_e, ↓wCont_e, ↓wRet_e, ↓wRetN_e, ↓wDrop_e, ↓wIf_e, ↓wAnd_e, ↓wOr_e, ↓wNot_e, ↓wTst_e, ↓wAndV_e, ↓wOrV_e, ↓wNotV_e, ↓wIfE_e, ↓wChain_e, ↓wVar_e, ↓wPk_e, ↓wC_e, ↓wOp_e, ↓wUn_e, ↓wM1_e, ↓wTup_e, ↓wfLst_e, ↓wFz_e, ↓waNil_e, ↓waCons_e, ↓asNil_e, ↓asCons_e, ↓asBox_e, ↓wCall_e, ↓wAsg_e, ↓wSt_e, ↓wAsgO_e, ↓wTp_e, ↓wTpL_e, ↓wPar_e, ↓wStL_nil, ↓wStL_cons, ↓wFor_e, ↓wRg1_e, ↓wRg2_e, ↓wItL_e, ↓wItT_e, ↓wItS_e, ↓wApp_e, ↓woNone_e, ↓woSome_e, ↓wCut_e, ↓wBx1_e, ↓wBx0_e, ↓wBxPut_e, ↓wDraw_e, ↓wLSet_e, ↓wNever_e, ↓wFld_e, ↓wMeth_e, ↓wMake_e, ↓wFldN_e, ↓wZip_e, ↓wPut_e, ↓wfList_e, ↓wfDict_e, ↓wfDisp1_e, ↓wPop0_e, ↓wOFld_e, ↓wOFldS_e, ↓wOApp_e, ↓wOPut_e, ↓wFldNO_e, ↓wMethO_e, ↓wGet1_e, ↓wfCut_e, ↓wfDk_e, ↓wfDt_e, ↓wCopy_e, ↓wRowPk_e, ↓wPutRow_e, ↓wTru_e, ↓wLc_e, ↓wYes_e, ↓wAug_e, dLt, dLe, dGt, dGe, dSub, dMul, dMod, dFdiv, dPow, dI2, dI2C, dAdd, dEq, dNe, dLen, dInt, dIx_l, dIx_t, dIx_s, dList, dSum, dCut, atI_zero, atI_one, Option.some.injEq, dTru, dMax2, dMin2, dAddI, dEqS, dIs, dNotIs, dSortDI, obD, id_eq, List.getElem?_cons_zero, List.getElem?_cons_succ, List.set_cons_zero, List.set_cons_succ, List.length_cons, List.length_nil, D.bl.injEq, exists_eq_left', decide_eq_true_eq, decide_eq_false_iff_not, Bool.not_eq_true', Bool.not_eq_false', Nat.zero_add, Nat.reduceAdd, true_and, and_true, forall_const, reduceCtorEq, not_true_eq_false, not_false_eq_true, false_implies, true_implies, implies_true, sz_line, Nat.reduceLeDiff, Int.reduceLE, Int.reduceLT, Int.reduceNeg, Int.reducePow, Int.reduceAdd, Int.reduceSub, Int.reduceMul, wf_Pairs_init]
    refine fun x => ⟨m, o, [(0, 0)], rfl, rfl, rfl, okm, oko, hfo, hst, fun p hp => ?_, _, rfl, ?_⟩
    · rw [List.mem_singleton.mp hp]
      exact ⟨by decide, by show (0 : Int) < _; omega, by decide, by show (0 : Int) < _; omega⟩
    · exact q
  · exact h.elim
theorem wTryT_e {n : Str} {wf : List Sl → Prop} {wt : WAs} {ρ : List Sl} {E : EnD} : wTryT n wf wt ρ E = wt ρ fun as ρ1 => (∀ s ∈ as, s ≠ .bx) ∧ (∀ x, wf (.od x (.ins n [] []) :: as)) ∧ E.rt (.bl true) ρ1 := rfl
theorem p__law_refused2 : ∀ as Qd, wf__law_refused2 as Qd → w__law_refused2 (startD ["_law_machine_here", "_law_other"] as) { nx := fun _ => Qd .non, rt := fun d _ => Qd d } := fun as Qd h => by
  unfold wf__law_refused2 at h
  split at h
  · rename_i d e
    show w__law_refused2 [.sh d, .sh e] _
    simp only [w__law_refused2, wTryT_e, ↓wSeq_e, ↓wNext_e, ↓wBreak_e, ↓wCont_e, ↓wRet_e, ↓wRetN_e, ↓wDrop_e, ↓wIf_e, ↓wAnd_e, ↓wOr_e, ↓wNot_e, ↓wTst_e, ↓wAndV_e, ↓wOrV_e, ↓wNotV_e, ↓wIfE_e, ↓wChain_e, ↓wVar_e, ↓wPk_e, ↓wC_e, ↓wOp_e, ↓wUn_e, ↓wM1_e, ↓wTup_e, ↓wfLst_e, ↓wFz_e, ↓waNil_e, ↓waCons_e, ↓asNil_e, ↓asCons_e, ↓asBox_e, ↓wCall_e, ↓wAsg_e, ↓wSt_e, ↓wAsgO_e, ↓wTp_e, ↓wTpL_e, ↓wPar_e, ↓wStL_nil, ↓wStL_cons, ↓wFor_e, ↓wRg1_e, ↓wRg2_e, ↓wItL_e, ↓wItT_e, ↓wItS_e, ↓wApp_e, ↓woNone_e, ↓woSome_e, ↓wCut_e, ↓wBx1_e, ↓wBx0_e, ↓wBxPut_e, ↓wDraw_e, ↓wLSet_e, ↓wNever_e, ↓wFld_e, ↓wMeth_e, ↓wMake_e, ↓wFldN_e, ↓wZip_e, ↓wPut_e, ↓wfList_e, ↓wfDict_e, ↓wfDisp1_e, ↓wPop0_e, ↓wOFld_e, ↓wOFldS_e, ↓wOApp_e, ↓wOPut_e, ↓wFldNO_e, ↓wMethO_e, ↓wGet1_e, ↓wfCut_e, ↓wfDk_e, ↓wfDt_e, ↓wCopy_e, ↓wRowPk_e, ↓wPutRow_e, ↓wTru_e, ↓wLc_e, ↓wYes_e, ↓wAug_e, dLt, dLe, dGt, dGe, dSub, dMul, dMod, dFdiv, dPow, dI2, dI2C, dAdd, dEq, dNe, dLen, dInt, dIx_l, dIx_t, dIx_s, dList, dSum, dCut, atI_zero, atI_one, Option.some.injEq, dTru, dMax2, dMin2, dAddI, dEqS, dIs, dNotIs, dSortDI, obD, id_eq, List.getElem?_cons_zero, List.getElem?_cons_succ, List.set_cons_zero, List.set_cons_succ, List.length_cons, List.length_nil, D.bl.injEq, exists_eq_left', decide_eq_true_eq, decide_eq_false_iff_not, Bool.not_eq_true', Bool.not_eq_false', Nat.zero_add, Nat.reduceAdd, true_and, and_true, forall_const, reduceCtorEq, not_true_eq_false, not_false_eq_true, false_implies, true_implies, implies_true, sz_line, Nat.reduceLeDiff, Int.reduceLE, Int.reduceLT, Int.reduceNeg, Int.reducePow, Int.reduceAdd, Int.reduceSub, Int.reduceMul]
    refine ⟨fun s hs => ?_, fun x => h.1, h.2⟩
    simp only [List.mem_cons, List.not_mem_nil, or_false] at hs
    rcases hs with rfl | rfl | rfl <;> exact fun z => nomatch z
  · exact h.elim

/-! ### law -/

def w_law_t1 : WS := (wIf (wTst (wOp dNe (wOp dIx (wPk 9) (wOp dIx (wOp dIx (wFld "Pairs" "step" (wPk 13)) (wPk 12)) (wPk 11))) (wCall wf__law_after (asCons (wVar 3) (asCons (wVar 4) (asCons (wVar 10) (asCons (wVar 11) asNil)))))))
 (wRet (wC (.bl false)))
 wNext)
def w_law_t2 : WS := (wFor (wItL (wVar 2)) (wSt 11)
 (wSeq (wIf (wTst (wOp dNe (wOp dIx (wOp dIx (wFld "Pairs" "gain" (wPk 13)) (wPk 12)) (wPk 11)) (wCall wf__law_ahead (asCons (wVar 3) (asCons (wVar 4) (asCons (wVar 10) (asCons (wVar 11) asNil)))))))
 (wRet (wC (.bl false)))
 wNext)
 w_law_t1))
def w_law_t3 : WS := (wSeq (wIf (wOr (wTst (wOp dNe (wOp dIx (wFld "Pairs" "places" (wPk 13)) (wPk 10)) (wPk 12))) (wTst (wOp dNe (wOp dIx (wFld "Pairs" "end" (wPk 13)) (wPk 12)) (wOp dSub (wOp dIx (wFld "Machine" "leave" (wPk 3)) (wOp dIx (wPk 10) (wC (.int 0)))) (wOp dIx (wFld "Machine" "leave" (wPk 4)) (wOp dIx (wPk 10) (wC (.int 1))))))))
 (wRet (wC (.bl false)))
 wNext)
 w_law_t2)
def w_law_t4 : WS := (wFor (wRg1 (waCons (wUn dLen (wPk 9)) waNil)) (wSt 12)
 (wSeq (wAsg (wOp dIx (wPk 9) (wPk 12)) (wSt 10))
 w_law_t3))
def w_law_t5 : WS := (wSeq (wIf (wOr (wNot (wTst (wCall wf__law_same (asCons (wFld "Pairs" "pairs" (wPk 13)) (asCons (wVar 9) asNil))))) (wOr (wNot (wTst (wCall wf__law_same (asCons (wMeth "Pairs" "many" wf_Pairs_many (wVar 13) asNil) (asCons (wUn dLen (wPk 9)) asNil))))) (wNot (wTst (wCall wf__law_same (asCons (wFld "Pairs" "facts" (wPk 13)) (asCons (wVar 2) asNil)))))))
 (wRet (wC (.bl false)))
 wNext)
 w_law_t4)
def w_law_t6 : WS := (wRet (wAndV (wCall wf__law_refused (asCons (wVar 3) (asCons (wCall wf__law_machine (asBox 1 (asCons (wOp dAdd (wFz (wfLst (waCons (wC (.str "z")) waNil))) (wPk 2)) (asCons (wC (.int 3)) asNil)))) asNil))) (wNotV (wCall wf__law_refused (asCons (wVar 3) (asCons (wVar 4) asNil))))))
def w_law_t7 : WS := (wSeq (wFor (wItL (wFz (wfLst (waCons (wTup (waCons (wMake "Pairs" wf_Pairs_init (asCons (wVar 3) (asCons (wVar 4) (asCons (wOp dAdd (wPk 8) (wCut (wPk 8) woNone (woSome (wC (.int 1))))) asNil)))) (waCons (wVar 8) waNil))) (waCons (wTup (waCons (wCall wf_moved_pairs (asCons (wVar 3) (asCons (wVar 4) (asCons (wVar 5) asNil)))) (waCons (wFz (wLc [15] (wItL (wUn dSortDI (wPk 6))) (wSt 15) wYes (wTup (waCons (wVar 15) (waCons (wOp dIx (wFld "Carry" "to" (wPk 5)) (wPk 15)) waNil))))) waNil))) waNil))))) (wTp [13, 14])
 (wSeq (wAsg (wCall wf__law_met (asCons (wVar 3) (asCons (wVar 4) (asCons (wVar 14) asNil)))) (wSt 9))
 w_law_t5))
 w_law_t6)
def w_law_t8 : WS := (wSeq (wAsg (wFz (wLc [16] (wRg1 (waCons (wOp dAdd (wC (.int 1)) (wCall wf__law_draw (asBox 1 (asCons (wC (.int 3)) asNil)))) waNil)) (wSt 16) wYes (wTup (waCons (wOp dMod (wUn dInt (wCall wf__law_draw (asBox 1 (asCons (wC (.int 900)) asNil)))) (wUn dLen (wFld "Machine" "leave" (wPk 3)))) (waCons (wOp dMod (wUn dInt (wCall wf__law_draw (asBox 1 (asCons (wC (.int 900)) asNil)))) (wUn dLen (wFld "Machine" "leave" (wPk 4)))) waNil))))) (wSt 8))
 w_law_t7)
def w_law_t9 : WS := (wSeq (wIf (wOr (wNot (wTst (wCall wf__law_same (asCons (wCall wf_first_careers (asCons (wVar 3) asNil)) (asCons (wVar 7) asNil))))) (wNot (wTst (wCall wf__law_same (asCons (wCall wf_left_from (asCons (wVar 3) asNil)) (asCons (wUn dSortDI (wPk 6)) asNil))))))
 (wRet (wC (.bl false)))
 wNext)
 w_law_t8)
def w_law_t10 : WS := (wSeq (wAsg (wFz (wLc [15] (wRg1 (waCons (wUn dLen (wFld "Machine" "leave" (wPk 3))) waNil)) (wSt 15) wYes (wGet1 (wPk 6) (wPk 15)))) (wSt 7))
 w_law_t9)
def w_law_t11 : WS := (wSeq (wAsg (wCall wf__law_come (asCons (wVar 3) asNil)) (wSt 6))
 w_law_t10)
def w_law_t12 : WS := (wSeq (wAsg (wCall wf__law_carry (asBox 1 (asCons (wVar 3) (asCons (wVar 4) asNil)))) (wSt 5))
 w_law_t11)
def w_law_t13 : WS := (wSeq (wAsg (wCall wf__law_machine (asBox 1 (asCons (wVar 2) (asCons (wC (.int 4)) asNil)))) (wSt 4))
 w_law_t12)
def w_law_t14 : WS := (wSeq (wAsg (wCall wf__law_machine (asBox 1 (asCons (wVar 2) (asCons (wC (.int 4)) asNil)))) (wSt 3))
 w_law_t13)
def w_law0 : WE := (wCall wf__law_box (asCons (wVar 0) (asCons (wC (.int 0)) (asCons (wC (.int 30)) asNil))))
def w_law1 : WS := (wSeq (wAsg (wCall wf__law_facts (asBox 1 asNil)) (wSt 2))
 w_law_t14)
theorem left_mem {m : Mach} (okm : m.ok 8 20) {s : Int} : s ∈ leftL m ↔ s ∈ (comeL m).map (·.1) := by
  refine ⟨fun h => (leftL_mem h).2.2, fun h => ?_⟩
  obtain ⟨e, he, rfl⟩ := List.mem_map.mp h
  have r := (come_inv okm).rg e he
  unfold leftL
  refine List.mem_map.mpr ⟨e.1.toNat, List.mem_filter.mpr ⟨List.mem_range.mpr (by omega), ?_⟩, by omega⟩
  rw [Int.toNat_of_nonneg r.1]
  exact decide_eq_true h
theorem left_sorted (m : Mach) : (leftL m).Pairwise (· < ·) := by
  unfold leftL
  rw [List.pairwise_map]
  refine List.Pairwise.filter _ (List.Pairwise.imp (fun h => ?_) List.pairwise_lt_range)
  exact Int.ofNat_lt.mpr h
theorem left_uniq {m : Mach} (okm : m.ok 8 20) {ms : List Int} (h : ms.Perm ((comeL m).map (·.1))) (hs : ms.Pairwise (· ≤ ·)) : ms = leftL m := by
  have nd : (leftL m).Nodup := by
    rw [List.nodup_iff_pairwise_ne]
    exact (left_sorted m).imp fun h => by omega
  have hp : (leftL m).Perm ((comeL m).map (·.1)) := (List.perm_ext_iff_of_nodup nd (come_inv okm).nd).mpr fun a => left_mem okm
  exact List.Perm.eq_of_pairwise (le := fun a b => a ≤ b) (fun a b _ _ h1 h2 => by omega) hs ((left_sorted m).imp fun h => by omega) (h.trans hp.symm)
theorem prs_of {R : P2 → Prop} : ∀ {ds : List D}, (∀ d ∈ ds, ∃ p : P2, d = pD p ∧ R p) → ∃ ps : List P2, ds = ps.map pD ∧ (∀ p ∈ ps, R p) ∧ ps.length = ds.length
  | [], h => ⟨[], rfl, (fun n hn => by cases hn), rfl⟩
  | d :: ds, h => by
    obtain ⟨i, rfl, hi⟩ := h d List.mem_cons_self
    obtain ⟨ns, rfl, h2, h3⟩ := prs_of (ds := ds) (R := R) fun x hx => h x (List.mem_cons_of_mem _ hx)
    refine ⟨i :: ns, rfl, fun n hn => ?_, by simp⟩
    rcases List.mem_cons.mp hn with rfl | hn
    · exact hi
    · exact h2 n hn
theorem foldl_meet_mem : ∀ (bs : List P2) {prs : List P2} {p : P2}, p ∈ prs ∨ p ∈ bs → p ∈ bs.foldl meetL prs
  | [], prs, p, h => by simpa using h
  | b :: bs, prs, p, h => by
    show p ∈ bs.foldl meetL (meetL prs b)
    refine foldl_meet_mem bs ?_
    obtain ⟨more, e⟩ := meetL_ext prs b
    rcases h with h | h
    · exact .inl (by rw [e]; exact List.mem_append_left _ h)
    · rcases List.mem_cons.mp h with rfl | h
      · exact .inl (meetL_in _ _)
      · exact .inr h
theorem met_again (m o : Mach) (bs : List P2) : metL m o (bs ++ bs.take 1) = metL m o bs := by
  unfold metL
  have : (bs ++ bs.take 1).foldl meetL [] = bs.foldl meetL [] := by
    rw [List.foldl_append]
    cases bs with
    | nil => rfl
    | cons b bs =>
      show meetL ((b :: bs).foldl meetL []) b = _
      exact if_pos (foldl_meet_mem (b :: bs) (.inr List.mem_cons_self))
  rw [this]
theorem shw_found {m : Mach} (okm : m.ok 8 20) (h1 : ∀ f ∈ m.facts, f.length = 1 ∧ PyData.strOk f = true) : Shw (.lst (foundV m.leave.length (comeL m))) := by
  have inv := come_inv okm
  have l8 := inv.len okm
  have n8 := okm.n8
  have key : ∀ d ∈ foundV m.leave.length (comeL m), d = .non ∨ ∃ w : List Str, d = wordD w ∧ (∀ f ∈ w, f ∈ m.facts) ∧ w.length ≤ 8 := fun d hd => by
    unfold foundV at hd
    obtain ⟨i, _, rfl⟩ := List.mem_map.mp hd
    by_cases h : ((i : Nat) : Int) ∈ (comeL m).map (·.1)
    · obtain ⟨⟨a, w⟩, ha, ea⟩ := List.mem_map.mp h
      have ea : a = _ := ea
      subst ea
      rw [atC_mem inv.nd ha]
      have := inv.ws _ ha
      exact .inr ⟨w, rfl, this.1, by have := this.2; simp only at this; omega⟩
    · exact .inl (atC_none h)
  refine shw_list 0 (fun d hd => ?_) (fun d hd => ?_) (fun d hd => ?_) (by unfold foundV; rw [List.length_map, List.length_range]; omega)
  all_goals
    rcases key d hd with rfl | ⟨w, rfl, hw, hl⟩
  · simp only [smD]
  · simp only [wordD, smD]
    exact smDL_of fun d hd => by
      obtain ⟨f, hf, rfl⟩ := List.mem_map.mp hd
      simp only [smD]; exact (h1 f (hw f hf)).2
  · simp only [depD]; omega
  · simp only [wordD, depD]
    have := depDL_of (ds := w.map D.str) (B := 0) fun d hd => by
      obtain ⟨f, hf, rfl⟩ := List.mem_map.mp hd
      simp only [depD]; omega
    omega
  · simp only [szD]; omega
  · simp only [wordD, szD]
    have := szDL_of (ds := w.map D.str) (B := 1) fun d hd => by
      obtain ⟨f, hf, rfl⟩ := List.mem_map.mp hd
      simp only [szD]
      have := (h1 f (hw f hf)).1
      have e : f.cps.size = f.length := rfl
      omega
    rw [List.length_map] at this
    omega
theorem shw_prs {m o : Mach} (okm : m.ok 8 20) (oko : o.ok 8 20) {prs : List P2} (hr : ∀ p ∈ prs, inR m o p) (hl : prs.length ≤ 100) : Shw (.lst (prs.map pD)) := by
  have n8 := okm.n8
  have k8 := oko.n8
  refine shw_list 0 (fun d hd => ?_) (fun d hd => ?_) (fun d hd => ?_) (by rw [List.length_map]; omega)
  all_goals
    obtain ⟨p, hp, rfl⟩ := List.mem_map.mp hd
    have r := hr p hp
    have := r.a0; have := r.a1; have := r.b0; have := r.b1
  · simp only [pD, smD, smDL, Bool.and_eq_true, decide_eq_true_eq, and_true]
    omega
  · simp [pD, depD, depDL]
  · simp [pD, szD, szDL]
theorem shw_facts {fs : List Str} (h1 : ∀ f ∈ fs, f.length = 1 ∧ PyData.strOk f = true) (hl : fs.length ≤ 10) : Shw (.lst (fs.map D.str)) := by
  refine shw_list 0 (fun d hd => ?_) (fun d hd => ?_) (fun d hd => ?_) (by rw [List.length_map]; omega)
  all_goals obtain ⟨f, hf, rfl⟩ := List.mem_map.mp hd
  · simp only [smD]; exact (h1 f hf).2
  · simp only [depD]; omega
  · have := (h1 f hf).1
    simp only [szD]
    have e : f.cps.size = f.length := rfl
    omega
theorem shw_int {i : Int} (h : -1000000 ≤ i ∧ i ≤ 1000000) : Shw (.int i) := .of (by simp only [smD, Bool.and_eq_true, decide_eq_true_eq]; omega) (by simp only [depD]; omega) (by simp only [szD]; omega)
theorem nin_manyP : ("many" : Str) ∉ pairsF := by unfold pairsF; decide +kernel
theorem eqD_pD (p : P2) : eqD (pD p) (pD p) = true := by simp [pD, eqD, eqDL]
def dueD (m o : Mach) (due : List P2) : D := .tup [psD m o (metL m o due) (metL m o due).length, .lst (due.map pD)]
theorem p_law0 : ∀ ns : List Int, w_law0 (scrD ns :: List.replicate 16 .no) fun d ρ => ρ = scrD ns :: List.replicate 16 .no ∧ ∃ ms : List Int, d = .lst [.lst (ms.map D.int), .int 0] :=
  fun ns => ⟨⟨ns, rfl⟩, by decide, by decide, by decide, fun ms => ⟨rfl, ms, rfl⟩⟩
theorem p_law1 : ∀ ns : List Int, w_law1 ((scrD ns :: List.replicate 16 .no).set 1 .bx) { nx := fun _ => False, rt := fun d _ => d = .bl true } := fun ns => by
  show w_law1 [scrD ns, .bx, .no, .no, .no, .no, .no, .no, .no, .no, .no, .no, .no, .no, .no, .no, .no] _
  generalize scrD ns = s0
  simp only [w_law1, ↓wSeq_e, ↓wNext_e, ↓wBreak_e, ↓wCont_e, ↓wRet_e, ↓wRetN_e, ↓wDrop_e, ↓wIf_e, ↓wAnd_e, ↓wOr_e, ↓wNot_e, ↓wTst_e, ↓wAndV_e, ↓wOrV_e, ↓wNotV_e, ↓wIfE_e, ↓wChain_e, ↓wVar_e, ↓wPk_e, ↓wC_e, ↓wOp_e, ↓wUn_e, ↓wM1_e, ↓wTup_e, ↓wfLst_e, ↓wFz_e, ↓waNil_e, ↓waCons_e, ↓asNil_e, ↓asCons_e, ↓asBox_e, ↓wCall_e, ↓wAsg_e, ↓wSt_e, ↓wAsgO_e, ↓wTp_e, ↓wTpL_e, ↓wPar_e, ↓wStL_nil, ↓wStL_cons, ↓wFor_e, ↓wRg1_e, ↓wRg2_e, ↓wItL_e, ↓wItT_e, ↓wItS_e, ↓wApp_e, ↓woNone_e, ↓woSome_e, ↓wCut_e, ↓wBx1_e, ↓wBx0_e, ↓wBxPut_e, ↓wDraw_e, ↓wLSet_e, ↓wNever_e, ↓wFld_e, ↓wMeth_e, ↓wMake_e, ↓wFldN_e, ↓wZip_e, ↓wPut_e, ↓wfList_e, ↓wfDict_e, ↓wfDisp1_e, ↓wPop0_e, ↓wOFld_e, ↓wOFldS_e, ↓wOApp_e, ↓wOPut_e, ↓wFldNO_e, ↓wMethO_e, ↓wGet1_e, ↓wfCut_e, ↓wfDk_e, ↓wfDt_e, ↓wCopy_e, ↓wRowPk_e, ↓wPutRow_e, ↓wTru_e, ↓wLc_e, ↓wYes_e, ↓wAug_e, dLt, dLe, dGt, dGe, dSub, dMul, dMod, dFdiv, dPow, dI2, dI2C, dAdd, dEq, dNe, dLen, dInt, dIx_l, dIx_t, dIx_s, dList, dSum, dCut, atI_zero, atI_one, Option.some.injEq, dTru, dMax2, dMin2, dAddI, dEqS, dIs, dNotIs, dSortDI, obD, id_eq, List.getElem?_cons_zero, List.getElem?_cons_succ, List.set_cons_zero, List.set_cons_succ, List.length_cons, List.length_nil, D.bl.injEq, exists_eq_left', decide_eq_true_eq, decide_eq_false_iff_not, Bool.not_eq_true', Bool.not_eq_false', Nat.zero_add, Nat.reduceAdd, true_and, and_true, forall_const, reduceCtorEq, not_true_eq_false, not_false_eq_true, false_implies, true_implies, implies_true, sz_line, Nat.reduceLeDiff, Int.reduceLE, Int.reduceLT, Int.reduceNeg, Int.reducePow, Int.reduceAdd, Int.reduceSub, Int.reduceMul, wf__law_facts]
  intro fs gf hz
  obtain ⟨nd, f1, f3, h1⟩ := gf
  have gf4 : goodF4 fs := ⟨nd, f1, by omega, h1⟩
  simp only [w_law_t14, ↓wSeq_e, ↓wNext_e, ↓wBreak_e, ↓wCont_e, ↓wRet_e, ↓wRetN_e, ↓wDrop_e, ↓wIf_e, ↓wAnd_e, ↓wOr_e, ↓wNot_e, ↓wTst_e, ↓wAndV_e, ↓wOrV_e, ↓wNotV_e, ↓wIfE_e, ↓wChain_e, ↓wVar_e, ↓wPk_e, ↓wC_e, ↓wOp_e, ↓wUn_e, ↓wM1_e, ↓wTup_e, ↓wfLst_e, ↓wFz_e, ↓waNil_e, ↓waCons_e, ↓asNil_e, ↓asCons_e, ↓asBox_e, ↓wCall_e, ↓wAsg_e, ↓wSt_e, ↓wAsgO_e, ↓wTp_e, ↓wTpL_e, ↓wPar_e, ↓wStL_nil, ↓wStL_cons, ↓wFor_e, ↓wRg1_e, ↓wRg2_e, ↓wItL_e, ↓wItT_e, ↓wItS_e, ↓wApp_e, ↓woNone_e, ↓woSome_e, ↓wCut_e, ↓wBx1_e, ↓wBx0_e, ↓wBxPut_e, ↓wDraw_e, ↓wLSet_e, ↓wNever_e, ↓wFld_e, ↓wMeth_e, ↓wMake_e, ↓wFldN_e, ↓wZip_e, ↓wPut_e, ↓wfList_e, ↓wfDict_e, ↓wfDisp1_e, ↓wPop0_e, ↓wOFld_e, ↓wOFldS_e, ↓wOApp_e, ↓wOPut_e, ↓wFldNO_e, ↓wMethO_e, ↓wGet1_e, ↓wfCut_e, ↓wfDk_e, ↓wfDt_e, ↓wCopy_e, ↓wRowPk_e, ↓wPutRow_e, ↓wTru_e, ↓wLc_e, ↓wYes_e, ↓wAug_e, dLt, dLe, dGt, dGe, dSub, dMul, dMod, dFdiv, dPow, dI2, dI2C, dAdd, dEq, dNe, dLen, dInt, dIx_l, dIx_t, dIx_s, dList, dSum, dCut, atI_zero, atI_one, Option.some.injEq, dTru, dMax2, dMin2, dAddI, dEqS, dIs, dNotIs, dSortDI, obD, id_eq, List.getElem?_cons_zero, List.getElem?_cons_succ, List.set_cons_zero, List.set_cons_succ, List.length_cons, List.length_nil, D.bl.injEq, exists_eq_left', decide_eq_true_eq, decide_eq_false_iff_not, Bool.not_eq_true', Bool.not_eq_false', Nat.zero_add, Nat.reduceAdd, true_and, and_true, forall_const, reduceCtorEq, not_true_eq_false, not_false_eq_true, false_implies, true_implies, implies_true, sz_line, Nat.reduceLeDiff, Int.reduceLE, Int.reduceLT, Int.reduceNeg, Int.reducePow, Int.reduceAdd, Int.reduceSub, Int.reduceMul, wf__law_machine]
  refine ⟨fs, rfl, gf4, fun m hm okm => ?_⟩
  subst hm
  have okm := okm f3
  have okm8 : m.ok 8 20 := Mach.ok.mono okm (by decide) (by decide)
  have hst : ∀ f ∈ m.facts, PyData.strOk f = true := fun f hf => (h1 f hf).2
  simp only [w_law_t13, ↓wSeq_e, ↓wNext_e, ↓wBreak_e, ↓wCont_e, ↓wRet_e, ↓wRetN_e, ↓wDrop_e, ↓wIf_e, ↓wAnd_e, ↓wOr_e, ↓wNot_e, ↓wTst_e, ↓wAndV_e, ↓wOrV_e, ↓wNotV_e, ↓wIfE_e, ↓wChain_e, ↓wVar_e, ↓wPk_e, ↓wC_e, ↓wOp_e, ↓wUn_e, ↓wM1_e, ↓wTup_e, ↓wfLst_e, ↓wFz_e, ↓waNil_e, ↓waCons_e, ↓asNil_e, ↓asCons_e, ↓asBox_e, ↓wCall_e, ↓wAsg_e, ↓wSt_e, ↓wAsgO_e, ↓wTp_e, ↓wTpL_e, ↓wPar_e, ↓wStL_nil, ↓wStL_cons, ↓wFor_e, ↓wRg1_e, ↓wRg2_e, ↓wItL_e, ↓wItT_e, ↓wItS_e, ↓wApp_e, ↓woNone_e, ↓woSome_e, ↓wCut_e, ↓wBx1_e, ↓wBx0_e, ↓wBxPut_e, ↓wDraw_e, ↓wLSet_e, ↓wNever_e, ↓wFld_e, ↓wMeth_e, ↓wMake_e, ↓wFldN_e, ↓wZip_e, ↓wPut_e, ↓wfList_e, ↓wfDict_e, ↓wfDisp1_e, ↓wPop0_e, ↓wOFld_e, ↓wOFldS_e, ↓wOApp_e, ↓wOPut_e, ↓wFldNO_e, ↓wMethO_e, ↓wGet1_e, ↓wfCut_e, ↓wfDk_e, ↓wfDt_e, ↓wCopy_e, ↓wRowPk_e, ↓wPutRow_e, ↓wTru_e, ↓wLc_e, ↓wYes_e, ↓wAug_e, dLt, dLe, dGt, dGe, dSub, dMul, dMod, dFdiv, dPow, dI2, dI2C, dAdd, dEq, dNe, dLen, dInt, dIx_l, dIx_t, dIx_s, dList, dSum, dCut, atI_zero, atI_one, Option.some.injEq, dTru, dMax2, dMin2, dAddI, dEqS, dIs, dNotIs, dSortDI, obD, id_eq, List.getElem?_cons_zero, List.getElem?_cons_succ, List.set_cons_zero, List.set_cons_succ, List.length_cons, List.length_nil, D.bl.injEq, exists_eq_left', decide_eq_true_eq, decide_eq_false_iff_not, Bool.not_eq_true', Bool.not_eq_false', Nat.zero_add, Nat.reduceAdd, true_and, and_true, forall_const, reduceCtorEq, not_true_eq_false, not_false_eq_true, false_implies, true_implies, implies_true, sz_line, Nat.reduceLeDiff, Int.reduceLE, Int.reduceLT, Int.reduceNeg, Int.reducePow, Int.reduceAdd, Int.reduceSub, Int.reduceMul, wf__law_machine]
  refine ⟨m.facts, rfl, gf4, fun o ho oko => ?_⟩
  have oko := oko f3
  have oko8 : o.ok 8 20 := Mach.ok.mono oko (by decide) (by decide)
  have n8 := okm8.n8
  have k8 := oko8.n8
  have n1 := okm8.n1
  have k1 := oko8.n1
  have inv := come_inv okm8
  have l8 := inv.len okm8
  simp only [w_law_t12, ↓wSeq_e, ↓wNext_e, ↓wBreak_e, ↓wCont_e, ↓wRet_e, ↓wRetN_e, ↓wDrop_e, ↓wIf_e, ↓wAnd_e, ↓wOr_e, ↓wNot_e, ↓wTst_e, ↓wAndV_e, ↓wOrV_e, ↓wNotV_e, ↓wIfE_e, ↓wChain_e, ↓wVar_e, ↓wPk_e, ↓wC_e, ↓wOp_e, ↓wUn_e, ↓wM1_e, ↓wTup_e, ↓wfLst_e, ↓wFz_e, ↓waNil_e, ↓waCons_e, ↓asNil_e, ↓asCons_e, ↓asBox_e, ↓wCall_e, ↓wAsg_e, ↓wSt_e, ↓wAsgO_e, ↓wTp_e, ↓wTpL_e, ↓wPar_e, ↓wStL_nil, ↓wStL_cons, ↓wFor_e, ↓wRg1_e, ↓wRg2_e, ↓wItL_e, ↓wItT_e, ↓wItS_e, ↓wApp_e, ↓woNone_e, ↓woSome_e, ↓wCut_e, ↓wBx1_e, ↓wBx0_e, ↓wBxPut_e, ↓wDraw_e, ↓wLSet_e, ↓wNever_e, ↓wFld_e, ↓wMeth_e, ↓wMake_e, ↓wFldN_e, ↓wZip_e, ↓wPut_e, ↓wfList_e, ↓wfDict_e, ↓wfDisp1_e, ↓wPop0_e, ↓wOFld_e, ↓wOFldS_e, ↓wOApp_e, ↓wOPut_e, ↓wFldNO_e, ↓wMethO_e, ↓wGet1_e, ↓wfCut_e, ↓wfDk_e, ↓wfDt_e, ↓wCopy_e, ↓wRowPk_e, ↓wPutRow_e, ↓wTru_e, ↓wLc_e, ↓wYes_e, ↓wAug_e, dLt, dLe, dGt, dGe, dSub, dMul, dMod, dFdiv, dPow, dI2, dI2C, dAdd, dEq, dNe, dLen, dInt, dIx_l, dIx_t, dIx_s, dList, dSum, dCut, atI_zero, atI_one, Option.some.injEq, dTru, dMax2, dMin2, dAddI, dEqS, dIs, dNotIs, dSortDI, obD, id_eq, List.getElem?_cons_zero, List.getElem?_cons_succ, List.set_cons_zero, List.set_cons_succ, List.length_cons, List.length_nil, D.bl.injEq, exists_eq_left', decide_eq_true_eq, decide_eq_false_iff_not, Bool.not_eq_true', Bool.not_eq_false', Nat.zero_add, Nat.reduceAdd, true_and, and_true, forall_const, reduceCtorEq, not_true_eq_false, not_false_eq_true, false_implies, true_implies, implies_true, sz_line, Nat.reduceLeDiff, Int.reduceLE, Int.reduceLT, Int.reduceNeg, Int.reducePow, Int.reduceAdd, Int.reduceSub, Int.reduceMul, wf__law_carry]
  refine ⟨m, o, rfl, rfl, by omega, by omega, fun c okc => ?_⟩
  simp only [w_law_t11, ↓wSeq_e, ↓wNext_e, ↓wBreak_e, ↓wCont_e, ↓wRet_e, ↓wRetN_e, ↓wDrop_e, ↓wIf_e, ↓wAnd_e, ↓wOr_e, ↓wNot_e, ↓wTst_e, ↓wAndV_e, ↓wOrV_e, ↓wNotV_e, ↓wIfE_e, ↓wChain_e, ↓wVar_e, ↓wPk_e, ↓wC_e, ↓wOp_e, ↓wUn_e, ↓wM1_e, ↓wTup_e, ↓wfLst_e, ↓wFz_e, ↓waNil_e, ↓waCons_e, ↓asNil_e, ↓asCons_e, ↓asBox_e, ↓wCall_e, ↓wAsg_e, ↓wSt_e, ↓wAsgO_e, ↓wTp_e, ↓wTpL_e, ↓wPar_e, ↓wStL_nil, ↓wStL_cons, ↓wFor_e, ↓wRg1_e, ↓wRg2_e, ↓wItL_e, ↓wItT_e, ↓wItS_e, ↓wApp_e, ↓woNone_e, ↓woSome_e, ↓wCut_e, ↓wBx1_e, ↓wBx0_e, ↓wBxPut_e, ↓wDraw_e, ↓wLSet_e, ↓wNever_e, ↓wFld_e, ↓wMeth_e, ↓wMake_e, ↓wFldN_e, ↓wZip_e, ↓wPut_e, ↓wfList_e, ↓wfDict_e, ↓wfDisp1_e, ↓wPop0_e, ↓wOFld_e, ↓wOFldS_e, ↓wOApp_e, ↓wOPut_e, ↓wFldNO_e, ↓wMethO_e, ↓wGet1_e, ↓wfCut_e, ↓wfDk_e, ↓wfDt_e, ↓wCopy_e, ↓wRowPk_e, ↓wPutRow_e, ↓wTru_e, ↓wLc_e, ↓wYes_e, ↓wAug_e, dLt, dLe, dGt, dGe, dSub, dMul, dMod, dFdiv, dPow, dI2, dI2C, dAdd, dEq, dNe, dLen, dInt, dIx_l, dIx_t, dIx_s, dList, dSum, dCut, atI_zero, atI_one, Option.some.injEq, dTru, dMax2, dMin2, dAddI, dEqS, dIs, dNotIs, dSortDI, obD, id_eq, List.getElem?_cons_zero, List.getElem?_cons_succ, List.set_cons_zero, List.set_cons_succ, List.length_cons, List.length_nil, D.bl.injEq, exists_eq_left', decide_eq_true_eq, decide_eq_false_iff_not, Bool.not_eq_true', Bool.not_eq_false', Nat.zero_add, Nat.reduceAdd, true_and, and_true, forall_const, reduceCtorEq, not_true_eq_false, not_false_eq_true, false_implies, true_implies, implies_true, sz_line, Nat.reduceLeDiff, Int.reduceLE, Int.reduceLT, Int.reduceNeg, Int.reducePow, Int.reduceAdd, Int.reduceSub, Int.reduceMul, wf__law_come]
  refine ⟨m, rfl, okm8, ?_⟩
  simp only [w_law_t10, Mach.dd, Cary.dd, lk_facts, lk_step, lk_gain, lk_leave, lk_to, lk_cost, ↓wSeq_e, ↓wNext_e, ↓wBreak_e, ↓wCont_e, ↓wRet_e, ↓wRetN_e, ↓wDrop_e, ↓wIf_e, ↓wAnd_e, ↓wOr_e, ↓wNot_e, ↓wTst_e, ↓wAndV_e, ↓wOrV_e, ↓wNotV_e, ↓wIfE_e, ↓wChain_e, ↓wVar_e, ↓wPk_e, ↓wC_e, ↓wOp_e, ↓wUn_e, ↓wM1_e, ↓wTup_e, ↓wfLst_e, ↓wFz_e, ↓waNil_e, ↓waCons_e, ↓asNil_e, ↓asCons_e, ↓asBox_e, ↓wCall_e, ↓wAsg_e, ↓wSt_e, ↓wAsgO_e, ↓wTp_e, ↓wTpL_e, ↓wPar_e, ↓wStL_nil, ↓wStL_cons, ↓wFor_e, ↓wRg1_e, ↓wRg2_e, ↓wItL_e, ↓wItT_e, ↓wItS_e, ↓wApp_e, ↓woNone_e, ↓woSome_e, ↓wCut_e, ↓wBx1_e, ↓wBx0_e, ↓wBxPut_e, ↓wDraw_e, ↓wLSet_e, ↓wNever_e, ↓wFld_e, ↓wMeth_e, ↓wMake_e, ↓wFldN_e, ↓wZip_e, ↓wPut_e, ↓wfList_e, ↓wfDict_e, ↓wfDisp1_e, ↓wPop0_e, ↓wOFld_e, ↓wOFldS_e, ↓wOApp_e, ↓wOPut_e, ↓wFldNO_e, ↓wMethO_e, ↓wGet1_e, ↓wfCut_e, ↓wfDk_e, ↓wfDt_e, ↓wCopy_e, ↓wRowPk_e, ↓wPutRow_e, ↓wTru_e, ↓wLc_e, ↓wYes_e, ↓wAug_e, dLt, dLe, dGt, dGe, dSub, dMul, dMod, dFdiv, dPow, dI2, dI2C, dAdd, dEq, dNe, dLen, dInt, dIx_l, dIx_t, dIx_s, dList, dSum, dCut, atI_zero, atI_one, Option.some.injEq, dTru, dMax2, dMin2, dAddI, dEqS, dIs, dNotIs, dSortDI, obD, id_eq, List.getElem?_cons_zero, List.getElem?_cons_succ, List.set_cons_zero, List.set_cons_succ, List.length_cons, List.length_nil, D.bl.injEq, exists_eq_left', decide_eq_true_eq, decide_eq_false_iff_not, Bool.not_eq_true', Bool.not_eq_false', Nat.zero_add, Nat.reduceAdd, true_and, and_true, forall_const, reduceCtorEq, not_true_eq_false, not_false_eq_true, false_implies, true_implies, implies_true, sz_line, Nat.reduceLeDiff, Int.reduceLE, Int.reduceLT, Int.reduceNeg, Int.reducePow, Int.reduceAdd, Int.reduceSub, Int.reduceMul, comeD, List.length_map]
  refine ⟨by omega, by rw [rangeD_length]; omega, rfl, ?_⟩
  rw [rangeD_nat, Int.toNat_natCast]
  refine lc_map (ρ := [_, _, _, _, _, _, _, _, _, _, _, _, _, _, _, .no, .no]) (fun i : Nat => atC (comeL m) i) _ [] (fun i hi Kt ht => ?_) ?_
  · simp only [↓wSeq_e, ↓wNext_e, ↓wBreak_e, ↓wCont_e, ↓wRet_e, ↓wRetN_e, ↓wDrop_e, ↓wIf_e, ↓wAnd_e, ↓wOr_e, ↓wNot_e, ↓wTst_e, ↓wAndV_e, ↓wOrV_e, ↓wNotV_e, ↓wIfE_e, ↓wChain_e, ↓wVar_e, ↓wPk_e, ↓wC_e, ↓wOp_e, ↓wUn_e, ↓wM1_e, ↓wTup_e, ↓wfLst_e, ↓wFz_e, ↓waNil_e, ↓waCons_e, ↓asNil_e, ↓asCons_e, ↓asBox_e, ↓wCall_e, ↓wAsg_e, ↓wSt_e, ↓wAsgO_e, ↓wTp_e, ↓wTpL_e, ↓wPar_e, ↓wStL_nil, ↓wStL_cons, ↓wFor_e, ↓wRg1_e, ↓wRg2_e, ↓wItL_e, ↓wItT_e, ↓wItS_e, ↓wApp_e, ↓woNone_e, ↓woSome_e, ↓wCut_e, ↓wBx1_e, ↓wBx0_e, ↓wBxPut_e, ↓wDraw_e, ↓wLSet_e, ↓wNever_e, ↓wFld_e, ↓wMeth_e, ↓wMake_e, ↓wFldN_e, ↓wZip_e, ↓wPut_e, ↓wfList_e, ↓wfDict_e, ↓wfDisp1_e, ↓wPop0_e, ↓wOFld_e, ↓wOFldS_e, ↓wOApp_e, ↓wOPut_e, ↓wFldNO_e, ↓wMethO_e, ↓wGet1_e, ↓wfCut_e, ↓wfDk_e, ↓wfDt_e, ↓wCopy_e, ↓wRowPk_e, ↓wPutRow_e, ↓wTru_e, ↓wLc_e, ↓wYes_e, ↓wAug_e, dLt, dLe, dGt, dGe, dSub, dMul, dMod, dFdiv, dPow, dI2, dI2C, dAdd, dEq, dNe, dLen, dInt, dIx_l, dIx_t, dIx_s, dList, dSum, dCut, atI_zero, atI_one, Option.some.injEq, dTru, dMax2, dMin2, dAddI, dEqS, dIs, dNotIs, dSortDI, obD, id_eq, List.getElem?_cons_zero, List.getElem?_cons_succ, List.set_cons_zero, List.set_cons_succ, List.length_cons, List.length_nil, D.bl.injEq, exists_eq_left', decide_eq_true_eq, decide_eq_false_iff_not, Bool.not_eq_true', Bool.not_eq_false', Nat.zero_add, Nat.reduceAdd, true_and, and_true, forall_const, reduceCtorEq, not_true_eq_false, not_false_eq_true, false_implies, true_implies, implies_true, sz_line, Nat.reduceLeDiff, Int.reduceLE, Int.reduceLT, Int.reduceNeg, Int.reducePow, Int.reduceAdd, Int.reduceSub, Int.reduceMul, wipeD, List.reverse_cons, List.reverse_nil, List.nil_append, noOwnB, List.all_cons, List.all_nil, Bool.and_true, Bool.true_and, isDkt]
    exact ⟨_, get_come, ht⟩
  simp only [w_law_t9, Mach.dd, Cary.dd, lk_facts, lk_step, lk_gain, lk_leave, lk_to, lk_cost, ↓wSeq_e, ↓wNext_e, ↓wBreak_e, ↓wCont_e, ↓wRet_e, ↓wRetN_e, ↓wDrop_e, ↓wIf_e, ↓wAnd_e, ↓wOr_e, ↓wNot_e, ↓wTst_e, ↓wAndV_e, ↓wOrV_e, ↓wNotV_e, ↓wIfE_e, ↓wChain_e, ↓wVar_e, ↓wPk_e, ↓wC_e, ↓wOp_e, ↓wUn_e, ↓wM1_e, ↓wTup_e, ↓wfLst_e, ↓wFz_e, ↓waNil_e, ↓waCons_e, ↓asNil_e, ↓asCons_e, ↓asBox_e, ↓wCall_e, ↓wAsg_e, ↓wSt_e, ↓wAsgO_e, ↓wTp_e, ↓wTpL_e, ↓wPar_e, ↓wStL_nil, ↓wStL_cons, ↓wFor_e, ↓wRg1_e, ↓wRg2_e, ↓wItL_e, ↓wItT_e, ↓wItS_e, ↓wApp_e, ↓woNone_e, ↓woSome_e, ↓wCut_e, ↓wBx1_e, ↓wBx0_e, ↓wBxPut_e, ↓wDraw_e, ↓wLSet_e, ↓wNever_e, ↓wFld_e, ↓wMeth_e, ↓wMake_e, ↓wFldN_e, ↓wZip_e, ↓wPut_e, ↓wfList_e, ↓wfDict_e, ↓wfDisp1_e, ↓wPop0_e, ↓wOFld_e, ↓wOFldS_e, ↓wOApp_e, ↓wOPut_e, ↓wFldNO_e, ↓wMethO_e, ↓wGet1_e, ↓wfCut_e, ↓wfDk_e, ↓wfDt_e, ↓wCopy_e, ↓wRowPk_e, ↓wPutRow_e, ↓wTru_e, ↓wLc_e, ↓wYes_e, ↓wAug_e, dLt, dLe, dGt, dGe, dSub, dMul, dMod, dFdiv, dPow, dI2, dI2C, dAdd, dEq, dNe, dLen, dInt, dIx_l, dIx_t, dIx_s, dList, dSum, dCut, atI_zero, atI_one, Option.some.injEq, dTru, dMax2, dMin2, dAddI, dEqS, dIs, dNotIs, dSortDI, obD, id_eq, List.getElem?_cons_zero, List.getElem?_cons_succ, List.set_cons_zero, List.set_cons_succ, List.length_cons, List.length_nil, D.bl.injEq, exists_eq_left', decide_eq_true_eq, decide_eq_false_iff_not, Bool.not_eq_true', Bool.not_eq_false', Nat.zero_add, Nat.reduceAdd, true_and, and_true, forall_const, reduceCtorEq, not_true_eq_false, not_false_eq_true, false_implies, true_implies, implies_true, sz_line, Nat.reduceLeDiff, Int.reduceLE, Int.reduceLT, Int.reduceNeg, Int.reducePow, Int.reduceAdd, Int.reduceSub, Int.reduceMul, wipeD, List.reverse_cons, List.reverse_nil, List.nil_append, noOwnB, List.all_cons, List.all_nil, Bool.and_true, Bool.true_and, wf__law_same, wf_first_careers, wf_left_from]
  refine ⟨m, rfl, okm8, rfl, shw_found okm8 h1, ?_⟩
  refine ⟨m, rfl, okm8, (comeL m).map (·.1), by unfold ckC; rw [List.map_map]; rfl, by rw [List.length_map]; omega, fun ms hp hs => ?_⟩
  have ems := left_uniq okm8 hp hs
  subst ems
  have hlr : ∀ s ∈ leftL m, -1000000 ≤ s ∧ s ≤ 1000000 := fun s hs => by have := leftL_mem hs; omega
  have hll : (leftL m).length ≤ 8 := by
    have := hp.length_eq
    rw [List.length_map] at this
    omega
  refine ⟨rfl, shw_ints hlr (by omega), ?_⟩
  simp only [w_law_t8, Mach.dd, Cary.dd, lk_facts, lk_step, lk_gain, lk_leave, lk_to, lk_cost, ↓wSeq_e, ↓wNext_e, ↓wBreak_e, ↓wCont_e, ↓wRet_e, ↓wRetN_e, ↓wDrop_e, ↓wIf_e, ↓wAnd_e, ↓wOr_e, ↓wNot_e, ↓wTst_e, ↓wAndV_e, ↓wOrV_e, ↓wNotV_e, ↓wIfE_e, ↓wChain_e, ↓wVar_e, ↓wPk_e, ↓wC_e, ↓wOp_e, ↓wUn_e, ↓wM1_e, ↓wTup_e, ↓wfLst_e, ↓wFz_e, ↓waNil_e, ↓waCons_e, ↓asNil_e, ↓asCons_e, ↓asBox_e, ↓wCall_e, ↓wAsg_e, ↓wSt_e, ↓wAsgO_e, ↓wTp_e, ↓wTpL_e, ↓wPar_e, ↓wStL_nil, ↓wStL_cons, ↓wFor_e, ↓wRg1_e, ↓wRg2_e, ↓wItL_e, ↓wItT_e, ↓wItS_e, ↓wApp_e, ↓woNone_e, ↓woSome_e, ↓wCut_e, ↓wBx1_e, ↓wBx0_e, ↓wBxPut_e, ↓wDraw_e, ↓wLSet_e, ↓wNever_e, ↓wFld_e, ↓wMeth_e, ↓wMake_e, ↓wFldN_e, ↓wZip_e, ↓wPut_e, ↓wfList_e, ↓wfDict_e, ↓wfDisp1_e, ↓wPop0_e, ↓wOFld_e, ↓wOFldS_e, ↓wOApp_e, ↓wOPut_e, ↓wFldNO_e, ↓wMethO_e, ↓wGet1_e, ↓wfCut_e, ↓wfDk_e, ↓wfDt_e, ↓wCopy_e, ↓wRowPk_e, ↓wPutRow_e, ↓wTru_e, ↓wLc_e, ↓wYes_e, ↓wAug_e, dLt, dLe, dGt, dGe, dSub, dMul, dMod, dFdiv, dPow, dI2, dI2C, dAdd, dEq, dNe, dLen, dInt, dIx_l, dIx_t, dIx_s, dList, dSum, dCut, atI_zero, atI_one, Option.some.injEq, dTru, dMax2, dMin2, dAddI, dEqS, dIs, dNotIs, dSortDI, obD, id_eq, List.getElem?_cons_zero, List.getElem?_cons_succ, List.set_cons_zero, List.set_cons_succ, List.length_cons, List.length_nil, D.bl.injEq, exists_eq_left', decide_eq_true_eq, decide_eq_false_iff_not, Bool.not_eq_true', Bool.not_eq_false', Nat.zero_add, Nat.reduceAdd, true_and, and_true, forall_const, reduceCtorEq, not_true_eq_false, not_false_eq_true, false_implies, true_implies, implies_true, sz_line, Nat.reduceLeDiff, Int.reduceLE, Int.reduceLT, Int.reduceNeg, Int.reducePow, Int.reduceAdd, Int.reduceSub, Int.reduceMul, Bool.not_true, wf__law_draw]
  intro r r0 r1
  refine ⟨by omega, by rw [rangeD_length]; omega, rfl, ?_⟩
  refine wLcL_rule (ρ := [_, _, _, _, _, _, _, _, _, _, _, _, _, _, _, _, .no]) (fun d => True) (fun _ o' => ∃ y, o' = some y ∧ ∃ p : P2, y = pD p ∧ inR m o p) ?_ _ _ _ (fun _ _ => trivial) ?_
  · rintro d _ Kt Kf ht hf
    simp only [Mach.dd, Cary.dd, lk_facts, lk_step, lk_gain, lk_leave, lk_to, lk_cost, ↓wSeq_e, ↓wNext_e, ↓wBreak_e, ↓wCont_e, ↓wRet_e, ↓wRetN_e, ↓wDrop_e, ↓wIf_e, ↓wAnd_e, ↓wOr_e, ↓wNot_e, ↓wTst_e, ↓wAndV_e, ↓wOrV_e, ↓wNotV_e, ↓wIfE_e, ↓wChain_e, ↓wVar_e, ↓wPk_e, ↓wC_e, ↓wOp_e, ↓wUn_e, ↓wM1_e, ↓wTup_e, ↓wfLst_e, ↓wFz_e, ↓waNil_e, ↓waCons_e, ↓asNil_e, ↓asCons_e, ↓asBox_e, ↓wCall_e, ↓wAsg_e, ↓wSt_e, ↓wAsgO_e, ↓wTp_e, ↓wTpL_e, ↓wPar_e, ↓wStL_nil, ↓wStL_cons, ↓wFor_e, ↓wRg1_e, ↓wRg2_e, ↓wItL_e, ↓wItT_e, ↓wItS_e, ↓wApp_e, ↓woNone_e, ↓woSome_e, ↓wCut_e, ↓wBx1_e, ↓wBx0_e, ↓wBxPut_e, ↓wDraw_e, ↓wLSet_e, ↓wNever_e, ↓wFld_e, ↓wMeth_e, ↓wMake_e, ↓wFldN_e, ↓wZip_e, ↓wPut_e, ↓wfList_e, ↓wfDict_e, ↓wfDisp1_e, ↓wPop0_e, ↓wOFld_e, ↓wOFldS_e, ↓wOApp_e, ↓wOPut_e, ↓wFldNO_e, ↓wMethO_e, ↓wGet1_e, ↓wfCut_e, ↓wfDk_e, ↓wfDt_e, ↓wCopy_e, ↓wRowPk_e, ↓wPutRow_e, ↓wTru_e, ↓wLc_e, ↓wYes_e, ↓wAug_e, dLt, dLe, dGt, dGe, dSub, dMul, dMod, dFdiv, dPow, dI2, dI2C, dAdd, dEq, dNe, dLen, dInt, dIx_l, dIx_t, dIx_s, dList, dSum, dCut, atI_zero, atI_one, Option.some.injEq, dTru, dMax2, dMin2, dAddI, dEqS, dIs, dNotIs, dSortDI, obD, id_eq, List.getElem?_cons_zero, List.getElem?_cons_succ, List.set_cons_zero, List.set_cons_succ, List.length_cons, List.length_nil, D.bl.injEq, exists_eq_left', decide_eq_true_eq, decide_eq_false_iff_not, Bool.not_eq_true', Bool.not_eq_false', Nat.zero_add, Nat.reduceAdd, true_and, and_true, forall_const, reduceCtorEq, not_true_eq_false, not_false_eq_true, false_implies, true_implies, implies_true, sz_line, Nat.reduceLeDiff, Int.reduceLE, Int.reduceLT, Int.reduceNeg, Int.reducePow, Int.reduceAdd, Int.reduceSub, Int.reduceMul, wipeD, List.reverse_cons, List.reverse_nil, List.nil_append, noOwnB, List.all_cons, List.all_nil, Bool.and_true, Bool.true_and, wf__law_draw, List.length_map]
    intro z z0 z1
    refine ⟨by omega, fun y y0 y1 => ⟨by omega, ?_⟩⟩
    refine ht _ ⟨_, rfl, (z % m.leave.length, y % o.leave.length), rfl, ?_⟩
    exact ⟨Int.emod_nonneg _ (by omega), Int.emod_lt_of_pos _ (by omega), Int.emod_nonneg _ (by omega), Int.emod_lt_of_pos _ (by omega)⟩
  intro ys hy
  obtain ⟨y1, y2⟩ := hy.all
  obtain ⟨bs, rfl, hb, hbl⟩ := prs_of y2
  rw [rangeD_length] at y1
  rw [List.nil_append]
  simp only [w_law_t7, Mach.dd, Cary.dd, lk_facts, lk_step, lk_gain, lk_leave, lk_to, lk_cost, ↓wSeq_e, ↓wNext_e, ↓wBreak_e, ↓wCont_e, ↓wRet_e, ↓wRetN_e, ↓wDrop_e, ↓wIf_e, ↓wAnd_e, ↓wOr_e, ↓wNot_e, ↓wTst_e, ↓wAndV_e, ↓wOrV_e, ↓wNotV_e, ↓wIfE_e, ↓wChain_e, ↓wVar_e, ↓wPk_e, ↓wC_e, ↓wOp_e, ↓wUn_e, ↓wM1_e, ↓wTup_e, ↓wfLst_e, ↓wFz_e, ↓waNil_e, ↓waCons_e, ↓asNil_e, ↓asCons_e, ↓asBox_e, ↓wCall_e, ↓wAsg_e, ↓wSt_e, ↓wAsgO_e, ↓wTp_e, ↓wTpL_e, ↓wPar_e, ↓wStL_nil, ↓wStL_cons, ↓wFor_e, ↓wRg1_e, ↓wRg2_e, ↓wItL_e, ↓wItT_e, ↓wItS_e, ↓wApp_e, ↓woNone_e, ↓woSome_e, ↓wCut_e, ↓wBx1_e, ↓wBx0_e, ↓wBxPut_e, ↓wDraw_e, ↓wLSet_e, ↓wNever_e, ↓wFld_e, ↓wMeth_e, ↓wMake_e, ↓wFldN_e, ↓wZip_e, ↓wPut_e, ↓wfList_e, ↓wfDict_e, ↓wfDisp1_e, ↓wPop0_e, ↓wOFld_e, ↓wOFldS_e, ↓wOApp_e, ↓wOPut_e, ↓wFldNO_e, ↓wMethO_e, ↓wGet1_e, ↓wfCut_e, ↓wfDk_e, ↓wfDt_e, ↓wCopy_e, ↓wRowPk_e, ↓wPutRow_e, ↓wTru_e, ↓wLc_e, ↓wYes_e, ↓wAug_e, dLt, dLe, dGt, dGe, dSub, dMul, dMod, dFdiv, dPow, dI2, dI2C, dAdd, dEq, dNe, dLen, dInt, dIx_l, dIx_t, dIx_s, dList, dSum, dCut, atI_zero, atI_one, Option.some.injEq, dTru, dMax2, dMin2, dAddI, dEqS, dIs, dNotIs, dSortDI, obD, id_eq, List.getElem?_cons_zero, List.getElem?_cons_succ, List.set_cons_zero, List.set_cons_succ, List.length_cons, List.length_nil, D.bl.injEq, exists_eq_left', decide_eq_true_eq, decide_eq_false_iff_not, Bool.not_eq_true', Bool.not_eq_false', Nat.zero_add, Nat.reduceAdd, true_and, and_true, forall_const, reduceCtorEq, not_true_eq_false, not_false_eq_true, false_implies, true_implies, implies_true, sz_line, Nat.reduceLeDiff, Int.reduceLE, Int.reduceLT, Int.reduceNeg, Int.reducePow, Int.reduceAdd, Int.reduceSub, Int.reduceMul, wipeD, List.reverse_cons, List.reverse_nil, List.nil_append, noOwnB, List.all_cons, List.all_nil, Bool.and_true, Bool.true_and, wf_Pairs_init, wf_moved_pairs, cutD_to _ (show (0 : Int) ≤ 1 by decide)]
  have elt : bs.map pD ++ (bs.map pD).take (Int.toNat 1) = (bs ++ bs.take 1).map pD := by
    rw [List.map_append, List.map_take]; rfl
  refine ⟨by rw [List.length_take, List.length_map]; omega, fun x => ⟨m, o, bs ++ bs.take 1, rfl, rfl, elt, okm8, oko8, ho, hst, (fun p hp => by
    rcases List.mem_append.mp hp with hp | hp
    · exact hb p hp
    · exact hb p (List.mem_of_mem_take hp)), _, rfl, ?_⟩⟩
  refine ⟨m, o, c, rfl, rfl, rfl, okm8, oko8, ho, hst, okc, ?_⟩
  refine ⟨(comeL m).map (·.1), by unfold ckC; rw [List.map_map]; rfl, by rw [List.length_map]; omega, fun ms hp hs => ?_⟩
  have ems := left_uniq okm8 hp hs
  subst ems
  refine ⟨by rw [List.length_map]; omega, ?_⟩
  refine mapI_lc (ρ := [_, _, _, _, _, _, _, _, _, _, _, _, _, _, _, _, _]) (g := fun s => pD (s, c.to.getD s.toNat 0)) (fun s hs Kt ht => ?_) ?_
  · obtain ⟨s0, s1, _⟩ := leftL_mem hs
    simp only [Mach.dd, Cary.dd, lk_facts, lk_step, lk_gain, lk_leave, lk_to, lk_cost, ↓wSeq_e, ↓wNext_e, ↓wBreak_e, ↓wCont_e, ↓wRet_e, ↓wRetN_e, ↓wDrop_e, ↓wIf_e, ↓wAnd_e, ↓wOr_e, ↓wNot_e, ↓wTst_e, ↓wAndV_e, ↓wOrV_e, ↓wNotV_e, ↓wIfE_e, ↓wChain_e, ↓wVar_e, ↓wPk_e, ↓wC_e, ↓wOp_e, ↓wUn_e, ↓wM1_e, ↓wTup_e, ↓wfLst_e, ↓wFz_e, ↓waNil_e, ↓waCons_e, ↓asNil_e, ↓asCons_e, ↓asBox_e, ↓wCall_e, ↓wAsg_e, ↓wSt_e, ↓wAsgO_e, ↓wTp_e, ↓wTpL_e, ↓wPar_e, ↓wStL_nil, ↓wStL_cons, ↓wFor_e, ↓wRg1_e, ↓wRg2_e, ↓wItL_e, ↓wItT_e, ↓wItS_e, ↓wApp_e, ↓woNone_e, ↓woSome_e, ↓wCut_e, ↓wBx1_e, ↓wBx0_e, ↓wBxPut_e, ↓wDraw_e, ↓wLSet_e, ↓wNever_e, ↓wFld_e, ↓wMeth_e, ↓wMake_e, ↓wFldN_e, ↓wZip_e, ↓wPut_e, ↓wfList_e, ↓wfDict_e, ↓wfDisp1_e, ↓wPop0_e, ↓wOFld_e, ↓wOFldS_e, ↓wOApp_e, ↓wOPut_e, ↓wFldNO_e, ↓wMethO_e, ↓wGet1_e, ↓wfCut_e, ↓wfDk_e, ↓wfDt_e, ↓wCopy_e, ↓wRowPk_e, ↓wPutRow_e, ↓wTru_e, ↓wLc_e, ↓wYes_e, ↓wAug_e, dLt, dLe, dGt, dGe, dSub, dMul, dMod, dFdiv, dPow, dI2, dI2C, dAdd, dEq, dNe, dLen, dInt, dIx_l, dIx_t, dIx_s, dList, dSum, dCut, atI_zero, atI_one, Option.some.injEq, dTru, dMax2, dMin2, dAddI, dEqS, dIs, dNotIs, dSortDI, obD, id_eq, List.getElem?_cons_zero, List.getElem?_cons_succ, List.set_cons_zero, List.set_cons_succ, List.length_cons, List.length_nil, D.bl.injEq, exists_eq_left', decide_eq_true_eq, decide_eq_false_iff_not, Bool.not_eq_true', Bool.not_eq_false', Nat.zero_add, Nat.reduceAdd, true_and, and_true, forall_const, reduceCtorEq, not_true_eq_false, not_false_eq_true, false_implies, true_implies, implies_true, sz_line, Nat.reduceLeDiff, Int.reduceLE, Int.reduceLT, Int.reduceNeg, Int.reducePow, Int.reduceAdd, Int.reduceSub, Int.reduceMul, wipeD, List.reverse_cons, List.reverse_nil, List.nil_append, noOwnB, List.all_cons, List.all_nil, Bool.and_true, Bool.true_and]
    exact ⟨_, Cary.at_to okc s0 s1, ht⟩
  have emv : (leftL m).map (fun s => pD (s, c.to.getD s.toNat 0)) = (movedL m c).map pD := by unfold movedL; rw [List.map_map]; rfl
  rw [emv, psD_ot, met_again]
  simp only [↓wSeq_e, ↓wNext_e, ↓wBreak_e, ↓wCont_e, ↓wRet_e, ↓wRetN_e, ↓wDrop_e, ↓wIf_e, ↓wAnd_e, ↓wOr_e, ↓wNot_e, ↓wTst_e, ↓wAndV_e, ↓wOrV_e, ↓wNotV_e, ↓wIfE_e, ↓wChain_e, ↓wVar_e, ↓wPk_e, ↓wC_e, ↓wOp_e, ↓wUn_e, ↓wM1_e, ↓wTup_e, ↓wfLst_e, ↓wFz_e, ↓waNil_e, ↓waCons_e, ↓asNil_e, ↓asCons_e, ↓asBox_e, ↓wCall_e, ↓wAsg_e, ↓wSt_e, ↓wAsgO_e, ↓wTp_e, ↓wTpL_e, ↓wPar_e, ↓wStL_nil, ↓wStL_cons, ↓wFor_e, ↓wRg1_e, ↓wRg2_e, ↓wItL_e, ↓wItT_e, ↓wItS_e, ↓wApp_e, ↓woNone_e, ↓woSome_e, ↓wCut_e, ↓wBx1_e, ↓wBx0_e, ↓wBxPut_e, ↓wDraw_e, ↓wLSet_e, ↓wNever_e, ↓wFld_e, ↓wMeth_e, ↓wMake_e, ↓wFldN_e, ↓wZip_e, ↓wPut_e, ↓wfList_e, ↓wfDict_e, ↓wfDisp1_e, ↓wPop0_e, ↓wOFld_e, ↓wOFldS_e, ↓wOApp_e, ↓wOPut_e, ↓wFldNO_e, ↓wMethO_e, ↓wGet1_e, ↓wfCut_e, ↓wfDk_e, ↓wfDt_e, ↓wCopy_e, ↓wRowPk_e, ↓wPutRow_e, ↓wTru_e, ↓wLc_e, ↓wYes_e, ↓wAug_e, dLt, dLe, dGt, dGe, dSub, dMul, dMod, dFdiv, dPow, dI2, dI2C, dAdd, dEq, dNe, dLen, dInt, dIx_l, dIx_t, dIx_s, dList, dSum, dCut, atI_zero, atI_one, Option.some.injEq, dTru, dMax2, dMin2, dAddI, dEqS, dIs, dNotIs, dSortDI, obD, id_eq, List.getElem?_cons_zero, List.getElem?_cons_succ, List.set_cons_zero, List.set_cons_succ, List.length_cons, List.length_nil, D.bl.injEq, exists_eq_left', decide_eq_true_eq, decide_eq_false_iff_not, Bool.not_eq_true', Bool.not_eq_false', Nat.zero_add, Nat.reduceAdd, true_and, and_true, forall_const, reduceCtorEq, not_true_eq_false, not_false_eq_true, false_implies, true_implies, implies_true, sz_line, Nat.reduceLeDiff, Int.reduceLE, Int.reduceLT, Int.reduceNeg, Int.reducePow, Int.reduceAdd, Int.reduceSub, Int.reduceMul, wipeD, List.reverse_cons, List.reverse_nil, List.nil_append, noOwnB, List.all_cons, List.all_nil, Bool.and_true, Bool.true_and]
  refine for_pre (g := dueD m o) (l := [bs, movedL m c]) (fun dn ρ => ∃ s9 s10 s11 s12 s13 s14 s15, ρ = [s0, .bx, .sh (.lst (m.facts.map D.str)), .sh m.dd, .sh o.dd, .sh c.dd, .sh (.dk (ckC (comeL m)) (cwC (comeL m))), .sh (.lst (foundV m.leave.length (comeL m))), .sh (.lst (bs.map pD)), s9, s10, s11, s12, s13, s14, s15, .no]) ?_ ?_ _ ⟨_, _, _, _, _, _, _, rfl⟩
  · rintro dn due rest e ρ ⟨s9, s10, s11, s12, s13, s14, s15, rfl⟩ C hC
    have hdue : ∀ p ∈ due, inR m o p := by
      have hx : due ∈ [bs, movedL m c] := by rw [e]; simp
      simp only [List.mem_cons, List.not_mem_nil, or_false] at hx
      rcases hx with rfl | rfl
      · exact hb
      · exact moved_in okc
    have pin := metL_inv okm8 oko8 ho hdue
    have pl := pin.len okm8 oko8
    simp only [dueD, ↓wSeq_e, ↓wNext_e, ↓wBreak_e, ↓wCont_e, ↓wRet_e, ↓wRetN_e, ↓wDrop_e, ↓wIf_e, ↓wAnd_e, ↓wOr_e, ↓wNot_e, ↓wTst_e, ↓wAndV_e, ↓wOrV_e, ↓wNotV_e, ↓wIfE_e, ↓wChain_e, ↓wVar_e, ↓wPk_e, ↓wC_e, ↓wOp_e, ↓wUn_e, ↓wM1_e, ↓wTup_e, ↓wfLst_e, ↓wFz_e, ↓waNil_e, ↓waCons_e, ↓asNil_e, ↓asCons_e, ↓asBox_e, ↓wCall_e, ↓wAsg_e, ↓wSt_e, ↓wAsgO_e, ↓wTp_e, ↓wTpL_e, ↓wPar_e, ↓wStL_nil, ↓wStL_cons, ↓wFor_e, ↓wRg1_e, ↓wRg2_e, ↓wItL_e, ↓wItT_e, ↓wItS_e, ↓wApp_e, ↓woNone_e, ↓woSome_e, ↓wCut_e, ↓wBx1_e, ↓wBx0_e, ↓wBxPut_e, ↓wDraw_e, ↓wLSet_e, ↓wNever_e, ↓wFld_e, ↓wMeth_e, ↓wMake_e, ↓wFldN_e, ↓wZip_e, ↓wPut_e, ↓wfList_e, ↓wfDict_e, ↓wfDisp1_e, ↓wPop0_e, ↓wOFld_e, ↓wOFldS_e, ↓wOApp_e, ↓wOPut_e, ↓wFldNO_e, ↓wMethO_e, ↓wGet1_e, ↓wfCut_e, ↓wfDk_e, ↓wfDt_e, ↓wCopy_e, ↓wRowPk_e, ↓wPutRow_e, ↓wTru_e, ↓wLc_e, ↓wYes_e, ↓wAug_e, dLt, dLe, dGt, dGe, dSub, dMul, dMod, dFdiv, dPow, dI2, dI2C, dAdd, dEq, dNe, dLen, dInt, dIx_l, dIx_t, dIx_s, dList, dSum, dCut, atI_zero, atI_one, Option.some.injEq, dTru, dMax2, dMin2, dAddI, dEqS, dIs, dNotIs, dSortDI, obD, id_eq, List.getElem?_cons_zero, List.getElem?_cons_succ, List.set_cons_zero, List.set_cons_succ, List.length_cons, List.length_nil, D.bl.injEq, exists_eq_left', decide_eq_true_eq, decide_eq_false_iff_not, Bool.not_eq_true', Bool.not_eq_false', Nat.zero_add, Nat.reduceAdd, true_and, and_true, forall_const, reduceCtorEq, not_true_eq_false, not_false_eq_true, false_implies, true_implies, implies_true, sz_line, Nat.reduceLeDiff, Int.reduceLE, Int.reduceLT, Int.reduceNeg, Int.reducePow, Int.reduceAdd, Int.reduceSub, Int.reduceMul, wf__law_met]
    refine ⟨m, o, due, rfl, rfl, rfl, okm8, oko8, ho, hdue, ?_⟩
    generalize hP : metL m o due = P at pin pl ⊢
    simp only [w_law_t5, psD, lp_facts, lp_pairs, lp_places, lp_step, lp_gain, lp_end, ↓wSeq_e, ↓wNext_e, ↓wBreak_e, ↓wCont_e, ↓wRet_e, ↓wRetN_e, ↓wDrop_e, ↓wIf_e, ↓wAnd_e, ↓wOr_e, ↓wNot_e, ↓wTst_e, ↓wAndV_e, ↓wOrV_e, ↓wNotV_e, ↓wIfE_e, ↓wChain_e, ↓wVar_e, ↓wPk_e, ↓wC_e, ↓wOp_e, ↓wUn_e, ↓wM1_e, ↓wTup_e, ↓wfLst_e, ↓wFz_e, ↓waNil_e, ↓waCons_e, ↓asNil_e, ↓asCons_e, ↓asBox_e, ↓wCall_e, ↓wAsg_e, ↓wSt_e, ↓wAsgO_e, ↓wTp_e, ↓wTpL_e, ↓wPar_e, ↓wStL_nil, ↓wStL_cons, ↓wFor_e, ↓wRg1_e, ↓wRg2_e, ↓wItL_e, ↓wItT_e, ↓wItS_e, ↓wApp_e, ↓woNone_e, ↓woSome_e, ↓wCut_e, ↓wBx1_e, ↓wBx0_e, ↓wBxPut_e, ↓wDraw_e, ↓wLSet_e, ↓wNever_e, ↓wFld_e, ↓wMeth_e, ↓wMake_e, ↓wFldN_e, ↓wZip_e, ↓wPut_e, ↓wfList_e, ↓wfDict_e, ↓wfDisp1_e, ↓wPop0_e, ↓wOFld_e, ↓wOFldS_e, ↓wOApp_e, ↓wOPut_e, ↓wFldNO_e, ↓wMethO_e, ↓wGet1_e, ↓wfCut_e, ↓wfDk_e, ↓wfDt_e, ↓wCopy_e, ↓wRowPk_e, ↓wPutRow_e, ↓wTru_e, ↓wLc_e, ↓wYes_e, ↓wAug_e, dLt, dLe, dGt, dGe, dSub, dMul, dMod, dFdiv, dPow, dI2, dI2C, dAdd, dEq, dNe, dLen, dInt, dIx_l, dIx_t, dIx_s, dList, dSum, dCut, atI_zero, atI_one, Option.some.injEq, dTru, dMax2, dMin2, dAddI, dEqS, dIs, dNotIs, dSortDI, obD, id_eq, List.getElem?_cons_zero, List.getElem?_cons_succ, List.set_cons_zero, List.set_cons_succ, List.length_cons, List.length_nil, D.bl.injEq, exists_eq_left', decide_eq_true_eq, decide_eq_false_iff_not, Bool.not_eq_true', Bool.not_eq_false', Nat.zero_add, Nat.reduceAdd, true_and, and_true, forall_const, reduceCtorEq, not_true_eq_false, not_false_eq_true, false_implies, true_implies, implies_true, sz_line, Nat.reduceLeDiff, Int.reduceLE, Int.reduceLT, Int.reduceNeg, Int.reducePow, Int.reduceAdd, Int.reduceSub, Int.reduceMul, wf__law_same, wf_Pairs_many, List.length_map]
    refine ⟨shw_prs okm8 oko8 pin.rg (by omega), nin_manyP, m, o, P, P.length, rfl, rfl, shw_int (by omega), shw_facts h1 (by omega), ?_⟩
    simp only [w_law_t4, ↓wSeq_e, ↓wNext_e, ↓wBreak_e, ↓wCont_e, ↓wRet_e, ↓wRetN_e, ↓wDrop_e, ↓wIf_e, ↓wAnd_e, ↓wOr_e, ↓wNot_e, ↓wTst_e, ↓wAndV_e, ↓wOrV_e, ↓wNotV_e, ↓wIfE_e, ↓wChain_e, ↓wVar_e, ↓wPk_e, ↓wC_e, ↓wOp_e, ↓wUn_e, ↓wM1_e, ↓wTup_e, ↓wfLst_e, ↓wFz_e, ↓waNil_e, ↓waCons_e, ↓asNil_e, ↓asCons_e, ↓asBox_e, ↓wCall_e, ↓wAsg_e, ↓wSt_e, ↓wAsgO_e, ↓wTp_e, ↓wTpL_e, ↓wPar_e, ↓wStL_nil, ↓wStL_cons, ↓wFor_e, ↓wRg1_e, ↓wRg2_e, ↓wItL_e, ↓wItT_e, ↓wItS_e, ↓wApp_e, ↓woNone_e, ↓woSome_e, ↓wCut_e, ↓wBx1_e, ↓wBx0_e, ↓wBxPut_e, ↓wDraw_e, ↓wLSet_e, ↓wNever_e, ↓wFld_e, ↓wMeth_e, ↓wMake_e, ↓wFldN_e, ↓wZip_e, ↓wPut_e, ↓wfList_e, ↓wfDict_e, ↓wfDisp1_e, ↓wPop0_e, ↓wOFld_e, ↓wOFldS_e, ↓wOApp_e, ↓wOPut_e, ↓wFldNO_e, ↓wMethO_e, ↓wGet1_e, ↓wfCut_e, ↓wfDk_e, ↓wfDt_e, ↓wCopy_e, ↓wRowPk_e, ↓wPutRow_e, ↓wTru_e, ↓wLc_e, ↓wYes_e, ↓wAug_e, dLt, dLe, dGt, dGe, dSub, dMul, dMod, dFdiv, dPow, dI2, dI2C, dAdd, dEq, dNe, dLen, dInt, dIx_l, dIx_t, dIx_s, dList, dSum, dCut, atI_zero, atI_one, Option.some.injEq, dTru, dMax2, dMin2, dAddI, dEqS, dIs, dNotIs, dSortDI, obD, id_eq, List.getElem?_cons_zero, List.getElem?_cons_succ, List.set_cons_zero, List.set_cons_succ, List.length_cons, List.length_nil, D.bl.injEq, exists_eq_left', decide_eq_true_eq, decide_eq_false_iff_not, Bool.not_eq_true', Bool.not_eq_false', Nat.zero_add, Nat.reduceAdd, true_and, and_true, forall_const, reduceCtorEq, not_true_eq_false, not_false_eq_true, false_implies, true_implies, implies_true, sz_line, Nat.reduceLeDiff, Int.reduceLE, Int.reduceLT, Int.reduceNeg, Int.reducePow, Int.reduceAdd, Int.reduceSub, Int.reduceMul, List.length_map]
    refine ⟨by omega, ?_⟩
    refine for_nat (fun k ρ => ∃ s10 s11 s12, ρ = [s0, .bx, .sh (.lst (m.facts.map D.str)), .sh m.dd, .sh o.dd, .sh c.dd, .sh (.dk (ckC (comeL m)) (cwC (comeL m))), .sh (.lst (foundV m.leave.length (comeL m))), .sh (.lst (bs.map pD)), .sh (.lst (P.map pD)), s10, s11, s12, .sh (psD m o P P.length), .sh (.lst (due.map pD)), s15, .no]) ?_ ?_ _ ⟨_, _, _, rfl⟩
    · rintro k hk ρ ⟨s10, s11, s12, rfl⟩ C2 hC2
      have hk' : k < P.length := by omega
      have ek : P[k]? = some P[k] := List.getElem?_eq_getElem hk'
      have hpm : P[k] ∈ P := List.getElem_mem hk'
      have eix : P.idxOf P[k] = k := pin.nd.idxOf_getElem k hk'
      have hp : inR m o P[k] := pin.rg _ hpm
      have hcl : ∀ f ∈ m.facts, aft m o P[k] f ∈ P := fun f hf => pin.cl _ (by rw [List.take_length]; exact hpm) f hf
      simp only [↓wSeq_e, ↓wNext_e, ↓wBreak_e, ↓wCont_e, ↓wRet_e, ↓wRetN_e, ↓wDrop_e, ↓wIf_e, ↓wAnd_e, ↓wOr_e, ↓wNot_e, ↓wTst_e, ↓wAndV_e, ↓wOrV_e, ↓wNotV_e, ↓wIfE_e, ↓wChain_e, ↓wVar_e, ↓wPk_e, ↓wC_e, ↓wOp_e, ↓wUn_e, ↓wM1_e, ↓wTup_e, ↓wfLst_e, ↓wFz_e, ↓waNil_e, ↓waCons_e, ↓asNil_e, ↓asCons_e, ↓asBox_e, ↓wCall_e, ↓wAsg_e, ↓wSt_e, ↓wAsgO_e, ↓wTp_e, ↓wTpL_e, ↓wPar_e, ↓wStL_nil, ↓wStL_cons, ↓wFor_e, ↓wRg1_e, ↓wRg2_e, ↓wItL_e, ↓wItT_e, ↓wItS_e, ↓wApp_e, ↓woNone_e, ↓woSome_e, ↓wCut_e, ↓wBx1_e, ↓wBx0_e, ↓wBxPut_e, ↓wDraw_e, ↓wLSet_e, ↓wNever_e, ↓wFld_e, ↓wMeth_e, ↓wMake_e, ↓wFldN_e, ↓wZip_e, ↓wPut_e, ↓wfList_e, ↓wfDict_e, ↓wfDisp1_e, ↓wPop0_e, ↓wOFld_e, ↓wOFldS_e, ↓wOApp_e, ↓wOPut_e, ↓wFldNO_e, ↓wMethO_e, ↓wGet1_e, ↓wfCut_e, ↓wfDk_e, ↓wfDt_e, ↓wCopy_e, ↓wRowPk_e, ↓wPutRow_e, ↓wTru_e, ↓wLc_e, ↓wYes_e, ↓wAug_e, dLt, dLe, dGt, dGe, dSub, dMul, dMod, dFdiv, dPow, dI2, dI2C, dAdd, dEq, dNe, dLen, dInt, dIx_l, dIx_t, dIx_s, dList, dSum, dCut, atI_zero, atI_one, Option.some.injEq, dTru, dMax2, dMin2, dAddI, dEqS, dIs, dNotIs, dSortDI, obD, id_eq, List.getElem?_cons_zero, List.getElem?_cons_succ, List.set_cons_zero, List.set_cons_succ, List.length_cons, List.length_nil, D.bl.injEq, exists_eq_left', decide_eq_true_eq, decide_eq_false_iff_not, Bool.not_eq_true', Bool.not_eq_false', Nat.zero_add, Nat.reduceAdd, true_and, and_true, forall_const, reduceCtorEq, not_true_eq_false, not_false_eq_true, false_implies, true_implies, implies_true, sz_line, Nat.reduceLeDiff, Int.reduceLE, Int.reduceLT, Int.reduceNeg, Int.reducePow, Int.reduceAdd, Int.reduceSub, Int.reduceMul]
      refine ⟨_, atI_prs ek, ?_⟩
      generalize P[k] = p at eix hp hpm hcl ek
      simp only [w_law_t3, Mach.dd, Cary.dd, lk_facts, lk_step, lk_gain, lk_leave, lk_to, lk_cost, psD, lp_facts, lp_pairs, lp_places, lp_step, lp_gain, lp_end, ↓wSeq_e, ↓wNext_e, ↓wBreak_e, ↓wCont_e, ↓wRet_e, ↓wRetN_e, ↓wDrop_e, ↓wIf_e, ↓wAnd_e, ↓wOr_e, ↓wNot_e, ↓wTst_e, ↓wAndV_e, ↓wOrV_e, ↓wNotV_e, ↓wIfE_e, ↓wChain_e, ↓wVar_e, ↓wPk_e, ↓wC_e, ↓wOp_e, ↓wUn_e, ↓wM1_e, ↓wTup_e, ↓wfLst_e, ↓wFz_e, ↓waNil_e, ↓waCons_e, ↓asNil_e, ↓asCons_e, ↓asBox_e, ↓wCall_e, ↓wAsg_e, ↓wSt_e, ↓wAsgO_e, ↓wTp_e, ↓wTpL_e, ↓wPar_e, ↓wStL_nil, ↓wStL_cons, ↓wFor_e, ↓wRg1_e, ↓wRg2_e, ↓wItL_e, ↓wItT_e, ↓wItS_e, ↓wApp_e, ↓woNone_e, ↓woSome_e, ↓wCut_e, ↓wBx1_e, ↓wBx0_e, ↓wBxPut_e, ↓wDraw_e, ↓wLSet_e, ↓wNever_e, ↓wFld_e, ↓wMeth_e, ↓wMake_e, ↓wFldN_e, ↓wZip_e, ↓wPut_e, ↓wfList_e, ↓wfDict_e, ↓wfDisp1_e, ↓wPop0_e, ↓wOFld_e, ↓wOFldS_e, ↓wOApp_e, ↓wOPut_e, ↓wFldNO_e, ↓wMethO_e, ↓wGet1_e, ↓wfCut_e, ↓wfDk_e, ↓wfDt_e, ↓wCopy_e, ↓wRowPk_e, ↓wPutRow_e, ↓wTru_e, ↓wLc_e, ↓wYes_e, ↓wAug_e, dLt, dLe, dGt, dGe, dSub, dMul, dMod, dFdiv, dPow, dI2, dI2C, dAdd, dEq, dNe, dLen, dInt, dIx_l, dIx_t, dIx_s, dList, dSum, dCut, atI_zero, atI_one, Option.some.injEq, dTru, dMax2, dMin2, dAddI, dEqS, dIs, dNotIs, dSortDI, obD, id_eq, List.getElem?_cons_zero, List.getElem?_cons_succ, List.set_cons_zero, List.set_cons_succ, List.length_cons, List.length_nil, D.bl.injEq, exists_eq_left', decide_eq_true_eq, decide_eq_false_iff_not, Bool.not_eq_true', Bool.not_eq_false', Nat.zero_add, Nat.reduceAdd, true_and, and_true, forall_const, reduceCtorEq, not_true_eq_false, not_false_eq_true, false_implies, true_implies, implies_true, sz_line, Nat.reduceLeDiff, Int.reduceLE, Int.reduceLT, Int.reduceNeg, Int.reducePow, Int.reduceAdd, Int.reduceSub, Int.reduceMul]
      refine ⟨_, by rw [places_get, if_pos hpm], ?_⟩
      rw [eix]
      simp only [↓wSeq_e, ↓wNext_e, ↓wBreak_e, ↓wCont_e, ↓wRet_e, ↓wRetN_e, ↓wDrop_e, ↓wIf_e, ↓wAnd_e, ↓wOr_e, ↓wNot_e, ↓wTst_e, ↓wAndV_e, ↓wOrV_e, ↓wNotV_e, ↓wIfE_e, ↓wChain_e, ↓wVar_e, ↓wPk_e, ↓wC_e, ↓wOp_e, ↓wUn_e, ↓wM1_e, ↓wTup_e, ↓wfLst_e, ↓wFz_e, ↓waNil_e, ↓waCons_e, ↓asNil_e, ↓asCons_e, ↓asBox_e, ↓wCall_e, ↓wAsg_e, ↓wSt_e, ↓wAsgO_e, ↓wTp_e, ↓wTpL_e, ↓wPar_e, ↓wStL_nil, ↓wStL_cons, ↓wFor_e, ↓wRg1_e, ↓wRg2_e, ↓wItL_e, ↓wItT_e, ↓wItS_e, ↓wApp_e, ↓woNone_e, ↓woSome_e, ↓wCut_e, ↓wBx1_e, ↓wBx0_e, ↓wBxPut_e, ↓wDraw_e, ↓wLSet_e, ↓wNever_e, ↓wFld_e, ↓wMeth_e, ↓wMake_e, ↓wFldN_e, ↓wZip_e, ↓wPut_e, ↓wfList_e, ↓wfDict_e, ↓wfDisp1_e, ↓wPop0_e, ↓wOFld_e, ↓wOFldS_e, ↓wOApp_e, ↓wOPut_e, ↓wFldNO_e, ↓wMethO_e, ↓wGet1_e, ↓wfCut_e, ↓wfDk_e, ↓wfDt_e, ↓wCopy_e, ↓wRowPk_e, ↓wPutRow_e, ↓wTru_e, ↓wLc_e, ↓wYes_e, ↓wAug_e, dLt, dLe, dGt, dGe, dSub, dMul, dMod, dFdiv, dPow, dI2, dI2C, dAdd, dEq, dNe, dLen, dInt, dIx_l, dIx_t, dIx_s, dList, dSum, dCut, atI_zero, atI_one, Option.some.injEq, dTru, dMax2, dMin2, dAddI, dEqS, dIs, dNotIs, dSortDI, obD, id_eq, List.getElem?_cons_zero, List.getElem?_cons_succ, List.set_cons_zero, List.set_cons_succ, List.length_cons, List.length_nil, D.bl.injEq, exists_eq_left', decide_eq_true_eq, decide_eq_false_iff_not, Bool.not_eq_true', Bool.not_eq_false', Nat.zero_add, Nat.reduceAdd, true_and, and_true, forall_const, reduceCtorEq, not_true_eq_false, not_false_eq_true, false_implies, true_implies, implies_true, sz_line, Nat.reduceLeDiff, Int.reduceLE, Int.reduceLT, Int.reduceNeg, Int.reducePow, Int.reduceAdd, Int.reduceSub, Int.reduceMul, dEqB, decide_true, Bool.not_true]
      refine ⟨_, by rw [← eix]; exact enV_at hpm, ?_⟩
      simp only [pD, ↓wSeq_e, ↓wNext_e, ↓wBreak_e, ↓wCont_e, ↓wRet_e, ↓wRetN_e, ↓wDrop_e, ↓wIf_e, ↓wAnd_e, ↓wOr_e, ↓wNot_e, ↓wTst_e, ↓wAndV_e, ↓wOrV_e, ↓wNotV_e, ↓wIfE_e, ↓wChain_e, ↓wVar_e, ↓wPk_e, ↓wC_e, ↓wOp_e, ↓wUn_e, ↓wM1_e, ↓wTup_e, ↓wfLst_e, ↓wFz_e, ↓waNil_e, ↓waCons_e, ↓asNil_e, ↓asCons_e, ↓asBox_e, ↓wCall_e, ↓wAsg_e, ↓wSt_e, ↓wAsgO_e, ↓wTp_e, ↓wTpL_e, ↓wPar_e, ↓wStL_nil, ↓wStL_cons, ↓wFor_e, ↓wRg1_e, ↓wRg2_e, ↓wItL_e, ↓wItT_e, ↓wItS_e, ↓wApp_e, ↓woNone_e, ↓woSome_e, ↓wCut_e, ↓wBx1_e, ↓wBx0_e, ↓wBxPut_e, ↓wDraw_e, ↓wLSet_e, ↓wNever_e, ↓wFld_e, ↓wMeth_e, ↓wMake_e, ↓wFldN_e, ↓wZip_e, ↓wPut_e, ↓wfList_e, ↓wfDict_e, ↓wfDisp1_e, ↓wPop0_e, ↓wOFld_e, ↓wOFldS_e, ↓wOApp_e, ↓wOPut_e, ↓wFldNO_e, ↓wMethO_e, ↓wGet1_e, ↓wfCut_e, ↓wfDk_e, ↓wfDt_e, ↓wCopy_e, ↓wRowPk_e, ↓wPutRow_e, ↓wTru_e, ↓wLc_e, ↓wYes_e, ↓wAug_e, dLt, dLe, dGt, dGe, dSub, dMul, dMod, dFdiv, dPow, dI2, dI2C, dAdd, dEq, dNe, dLen, dInt, dIx_l, dIx_t, dIx_s, dList, dSum, dCut, atI_zero, atI_one, Option.some.injEq, dTru, dMax2, dMin2, dAddI, dEqS, dIs, dNotIs, dSortDI, obD, id_eq, List.getElem?_cons_zero, List.getElem?_cons_succ, List.set_cons_zero, List.set_cons_succ, List.length_cons, List.length_nil, D.bl.injEq, exists_eq_left', decide_eq_true_eq, decide_eq_false_iff_not, Bool.not_eq_true', Bool.not_eq_false', Nat.zero_add, Nat.reduceAdd, true_and, and_true, forall_const, reduceCtorEq, not_true_eq_false, not_false_eq_true, false_implies, true_implies, implies_true, sz_line, Nat.reduceLeDiff, Int.reduceLE, Int.reduceLT, Int.reduceNeg, Int.reducePow, Int.reduceAdd, Int.reduceSub, Int.reduceMul]
      refine ⟨_, Mach.at_leave okm8 hp.a0 hp.a1, ?_⟩
      refine ⟨_, Mach.at_leave oko8 hp.b0 hp.b1, ?_⟩
      have ee : m.lv p.1.toNat - o.lv p.2.toNat = endv m o p := rfl
      simp only [↓wSeq_e, ↓wNext_e, ↓wBreak_e, ↓wCont_e, ↓wRet_e, ↓wRetN_e, ↓wDrop_e, ↓wIf_e, ↓wAnd_e, ↓wOr_e, ↓wNot_e, ↓wTst_e, ↓wAndV_e, ↓wOrV_e, ↓wNotV_e, ↓wIfE_e, ↓wChain_e, ↓wVar_e, ↓wPk_e, ↓wC_e, ↓wOp_e, ↓wUn_e, ↓wM1_e, ↓wTup_e, ↓wfLst_e, ↓wFz_e, ↓waNil_e, ↓waCons_e, ↓asNil_e, ↓asCons_e, ↓asBox_e, ↓wCall_e, ↓wAsg_e, ↓wSt_e, ↓wAsgO_e, ↓wTp_e, ↓wTpL_e, ↓wPar_e, ↓wStL_nil, ↓wStL_cons, ↓wFor_e, ↓wRg1_e, ↓wRg2_e, ↓wItL_e, ↓wItT_e, ↓wItS_e, ↓wApp_e, ↓woNone_e, ↓woSome_e, ↓wCut_e, ↓wBx1_e, ↓wBx0_e, ↓wBxPut_e, ↓wDraw_e, ↓wLSet_e, ↓wNever_e, ↓wFld_e, ↓wMeth_e, ↓wMake_e, ↓wFldN_e, ↓wZip_e, ↓wPut_e, ↓wfList_e, ↓wfDict_e, ↓wfDisp1_e, ↓wPop0_e, ↓wOFld_e, ↓wOFldS_e, ↓wOApp_e, ↓wOPut_e, ↓wFldNO_e, ↓wMethO_e, ↓wGet1_e, ↓wfCut_e, ↓wfDk_e, ↓wfDt_e, ↓wCopy_e, ↓wRowPk_e, ↓wPutRow_e, ↓wTru_e, ↓wLc_e, ↓wYes_e, ↓wAug_e, dLt, dLe, dGt, dGe, dSub, dMul, dMod, dFdiv, dPow, dI2, dI2C, dAdd, dEq, dNe, dLen, dInt, dIx_l, dIx_t, dIx_s, dList, dSum, dCut, atI_zero, atI_one, Option.some.injEq, dTru, dMax2, dMin2, dAddI, dEqS, dIs, dNotIs, dSortDI, obD, id_eq, List.getElem?_cons_zero, List.getElem?_cons_succ, List.set_cons_zero, List.set_cons_succ, List.length_cons, List.length_nil, D.bl.injEq, exists_eq_left', decide_eq_true_eq, decide_eq_false_iff_not, Bool.not_eq_true', Bool.not_eq_false', Nat.zero_add, Nat.reduceAdd, true_and, and_true, forall_const, reduceCtorEq, not_true_eq_false, not_false_eq_true, false_implies, true_implies, implies_true, sz_line, Nat.reduceLeDiff, Int.reduceLE, Int.reduceLT, Int.reduceNeg, Int.reducePow, Int.reduceAdd, Int.reduceSub, Int.reduceMul, dEqB, ee, decide_true, Bool.not_true]
      simp only [w_law_t2, ↓wSeq_e, ↓wNext_e, ↓wBreak_e, ↓wCont_e, ↓wRet_e, ↓wRetN_e, ↓wDrop_e, ↓wIf_e, ↓wAnd_e, ↓wOr_e, ↓wNot_e, ↓wTst_e, ↓wAndV_e, ↓wOrV_e, ↓wNotV_e, ↓wIfE_e, ↓wChain_e, ↓wVar_e, ↓wPk_e, ↓wC_e, ↓wOp_e, ↓wUn_e, ↓wM1_e, ↓wTup_e, ↓wfLst_e, ↓wFz_e, ↓waNil_e, ↓waCons_e, ↓asNil_e, ↓asCons_e, ↓asBox_e, ↓wCall_e, ↓wAsg_e, ↓wSt_e, ↓wAsgO_e, ↓wTp_e, ↓wTpL_e, ↓wPar_e, ↓wStL_nil, ↓wStL_cons, ↓wFor_e, ↓wRg1_e, ↓wRg2_e, ↓wItL_e, ↓wItT_e, ↓wItS_e, ↓wApp_e, ↓woNone_e, ↓woSome_e, ↓wCut_e, ↓wBx1_e, ↓wBx0_e, ↓wBxPut_e, ↓wDraw_e, ↓wLSet_e, ↓wNever_e, ↓wFld_e, ↓wMeth_e, ↓wMake_e, ↓wFldN_e, ↓wZip_e, ↓wPut_e, ↓wfList_e, ↓wfDict_e, ↓wfDisp1_e, ↓wPop0_e, ↓wOFld_e, ↓wOFldS_e, ↓wOApp_e, ↓wOPut_e, ↓wFldNO_e, ↓wMethO_e, ↓wGet1_e, ↓wfCut_e, ↓wfDk_e, ↓wfDt_e, ↓wCopy_e, ↓wRowPk_e, ↓wPutRow_e, ↓wTru_e, ↓wLc_e, ↓wYes_e, ↓wAug_e, dLt, dLe, dGt, dGe, dSub, dMul, dMod, dFdiv, dPow, dI2, dI2C, dAdd, dEq, dNe, dLen, dInt, dIx_l, dIx_t, dIx_s, dList, dSum, dCut, atI_zero, atI_one, Option.some.injEq, dTru, dMax2, dMin2, dAddI, dEqS, dIs, dNotIs, dSortDI, obD, id_eq, List.getElem?_cons_zero, List.getElem?_cons_succ, List.set_cons_zero, List.set_cons_succ, List.length_cons, List.length_nil, D.bl.injEq, exists_eq_left', decide_eq_true_eq, decide_eq_false_iff_not, Bool.not_eq_true', Bool.not_eq_false', Nat.zero_add, Nat.reduceAdd, true_and, and_true, forall_const, reduceCtorEq, not_true_eq_false, not_false_eq_true, false_implies, true_implies, implies_true, sz_line, Nat.reduceLeDiff, Int.reduceLE, Int.reduceLT, Int.reduceNeg, Int.reducePow, Int.reduceAdd, Int.reduceSub, Int.reduceMul]
      refine for_pre (fun dn ρ => ∃ s11, ρ = [s0, .bx, .sh (.lst (m.facts.map D.str)), .sh m.dd, .sh o.dd, .sh c.dd, .sh (.dk (ckC (comeL m)) (cwC (comeL m))), .sh (.lst (foundV m.leave.length (comeL m))), .sh (.lst (bs.map pD)), .sh (.lst (P.map pD)), .sh (pD p), s11, .sh (.int (k : Nat)), .sh (psD m o P P.length), .sh (.lst (due.map pD)), s15, .no]) ?_ ?_ _ ⟨_, rfl⟩
      · rintro dn f rest e ρ ⟨s11, rfl⟩ C3 hC3
        have hf : f ∈ m.facts := by rw [e]; simp
        simp only [Mach.dd, Cary.dd, lk_facts, lk_step, lk_gain, lk_leave, lk_to, lk_cost, psD, lp_facts, lp_pairs, lp_places, lp_step, lp_gain, lp_end, ↓wSeq_e, ↓wNext_e, ↓wBreak_e, ↓wCont_e, ↓wRet_e, ↓wRetN_e, ↓wDrop_e, ↓wIf_e, ↓wAnd_e, ↓wOr_e, ↓wNot_e, ↓wTst_e, ↓wAndV_e, ↓wOrV_e, ↓wNotV_e, ↓wIfE_e, ↓wChain_e, ↓wVar_e, ↓wPk_e, ↓wC_e, ↓wOp_e, ↓wUn_e, ↓wM1_e, ↓wTup_e, ↓wfLst_e, ↓wFz_e, ↓waNil_e, ↓waCons_e, ↓asNil_e, ↓asCons_e, ↓asBox_e, ↓wCall_e, ↓wAsg_e, ↓wSt_e, ↓wAsgO_e, ↓wTp_e, ↓wTpL_e, ↓wPar_e, ↓wStL_nil, ↓wStL_cons, ↓wFor_e, ↓wRg1_e, ↓wRg2_e, ↓wItL_e, ↓wItT_e, ↓wItS_e, ↓wApp_e, ↓woNone_e, ↓woSome_e, ↓wCut_e, ↓wBx1_e, ↓wBx0_e, ↓wBxPut_e, ↓wDraw_e, ↓wLSet_e, ↓wNever_e, ↓wFld_e, ↓wMeth_e, ↓wMake_e, ↓wFldN_e, ↓wZip_e, ↓wPut_e, ↓wfList_e, ↓wfDict_e, ↓wfDisp1_e, ↓wPop0_e, ↓wOFld_e, ↓wOFldS_e, ↓wOApp_e, ↓wOPut_e, ↓wFldNO_e, ↓wMethO_e, ↓wGet1_e, ↓wfCut_e, ↓wfDk_e, ↓wfDt_e, ↓wCopy_e, ↓wRowPk_e, ↓wPutRow_e, ↓wTru_e, ↓wLc_e, ↓wYes_e, ↓wAug_e, dLt, dLe, dGt, dGe, dSub, dMul, dMod, dFdiv, dPow, dI2, dI2C, dAdd, dEq, dNe, dLen, dInt, dIx_l, dIx_t, dIx_s, dList, dSum, dCut, atI_zero, atI_one, Option.some.injEq, dTru, dMax2, dMin2, dAddI, dEqS, dIs, dNotIs, dSortDI, obD, id_eq, List.getElem?_cons_zero, List.getElem?_cons_succ, List.set_cons_zero, List.set_cons_succ, List.length_cons, List.length_nil, D.bl.injEq, exists_eq_left', decide_eq_true_eq, decide_eq_false_iff_not, Bool.not_eq_true', Bool.not_eq_false', Nat.zero_add, Nat.reduceAdd, true_and, and_true, forall_const, reduceCtorEq, not_true_eq_false, not_false_eq_true, false_implies, true_implies, implies_true, sz_line, Nat.reduceLeDiff, Int.reduceLE, Int.reduceLT, Int.reduceNeg, Int.reducePow, Int.reduceAdd, Int.reduceSub, Int.reduceMul]
        refine ⟨_, by rw [← eix]; exact gnR_at hpm, gnRow_ix hf ?_⟩
        simp only [wf__law_ahead]
        refine ⟨m, o, p, rfl, rfl, rfl, okm8, oko8, ho, hp, hf, ?_⟩
        simp only [↓wSeq_e, ↓wNext_e, ↓wBreak_e, ↓wCont_e, ↓wRet_e, ↓wRetN_e, ↓wDrop_e, ↓wIf_e, ↓wAnd_e, ↓wOr_e, ↓wNot_e, ↓wTst_e, ↓wAndV_e, ↓wOrV_e, ↓wNotV_e, ↓wIfE_e, ↓wChain_e, ↓wVar_e, ↓wPk_e, ↓wC_e, ↓wOp_e, ↓wUn_e, ↓wM1_e, ↓wTup_e, ↓wfLst_e, ↓wFz_e, ↓waNil_e, ↓waCons_e, ↓asNil_e, ↓asCons_e, ↓asBox_e, ↓wCall_e, ↓wAsg_e, ↓wSt_e, ↓wAsgO_e, ↓wTp_e, ↓wTpL_e, ↓wPar_e, ↓wStL_nil, ↓wStL_cons, ↓wFor_e, ↓wRg1_e, ↓wRg2_e, ↓wItL_e, ↓wItT_e, ↓wItS_e, ↓wApp_e, ↓woNone_e, ↓woSome_e, ↓wCut_e, ↓wBx1_e, ↓wBx0_e, ↓wBxPut_e, ↓wDraw_e, ↓wLSet_e, ↓wNever_e, ↓wFld_e, ↓wMeth_e, ↓wMake_e, ↓wFldN_e, ↓wZip_e, ↓wPut_e, ↓wfList_e, ↓wfDict_e, ↓wfDisp1_e, ↓wPop0_e, ↓wOFld_e, ↓wOFldS_e, ↓wOApp_e, ↓wOPut_e, ↓wFldNO_e, ↓wMethO_e, ↓wGet1_e, ↓wfCut_e, ↓wfDk_e, ↓wfDt_e, ↓wCopy_e, ↓wRowPk_e, ↓wPutRow_e, ↓wTru_e, ↓wLc_e, ↓wYes_e, ↓wAug_e, dLt, dLe, dGt, dGe, dSub, dMul, dMod, dFdiv, dPow, dI2, dI2C, dAdd, dEq, dNe, dLen, dInt, dIx_l, dIx_t, dIx_s, dList, dSum, dCut, atI_zero, atI_one, Option.some.injEq, dTru, dMax2, dMin2, dAddI, dEqS, dIs, dNotIs, dSortDI, obD, id_eq, List.getElem?_cons_zero, List.getElem?_cons_succ, List.set_cons_zero, List.set_cons_succ, List.length_cons, List.length_nil, D.bl.injEq, exists_eq_left', decide_eq_true_eq, decide_eq_false_iff_not, Bool.not_eq_true', Bool.not_eq_false', Nat.zero_add, Nat.reduceAdd, true_and, and_true, forall_const, reduceCtorEq, not_true_eq_false, not_false_eq_true, false_implies, true_implies, implies_true, sz_line, Nat.reduceLeDiff, Int.reduceLE, Int.reduceLT, Int.reduceNeg, Int.reducePow, Int.reduceAdd, Int.reduceSub, Int.reduceMul, dEqB, decide_true, Bool.not_true]
        simp only [w_law_t1, Mach.dd, Cary.dd, lk_facts, lk_step, lk_gain, lk_leave, lk_to, lk_cost, psD, lp_facts, lp_pairs, lp_places, lp_step, lp_gain, lp_end, ↓wSeq_e, ↓wNext_e, ↓wBreak_e, ↓wCont_e, ↓wRet_e, ↓wRetN_e, ↓wDrop_e, ↓wIf_e, ↓wAnd_e, ↓wOr_e, ↓wNot_e, ↓wTst_e, ↓wAndV_e, ↓wOrV_e, ↓wNotV_e, ↓wIfE_e, ↓wChain_e, ↓wVar_e, ↓wPk_e, ↓wC_e, ↓wOp_e, ↓wUn_e, ↓wM1_e, ↓wTup_e, ↓wfLst_e, ↓wFz_e, ↓waNil_e, ↓waCons_e, ↓asNil_e, ↓asCons_e, ↓asBox_e, ↓wCall_e, ↓wAsg_e, ↓wSt_e, ↓wAsgO_e, ↓wTp_e, ↓wTpL_e, ↓wPar_e, ↓wStL_nil, ↓wStL_cons, ↓wFor_e, ↓wRg1_e, ↓wRg2_e, ↓wItL_e, ↓wItT_e, ↓wItS_e, ↓wApp_e, ↓woNone_e, ↓woSome_e, ↓wCut_e, ↓wBx1_e, ↓wBx0_e, ↓wBxPut_e, ↓wDraw_e, ↓wLSet_e, ↓wNever_e, ↓wFld_e, ↓wMeth_e, ↓wMake_e, ↓wFldN_e, ↓wZip_e, ↓wPut_e, ↓wfList_e, ↓wfDict_e, ↓wfDisp1_e, ↓wPop0_e, ↓wOFld_e, ↓wOFldS_e, ↓wOApp_e, ↓wOPut_e, ↓wFldNO_e, ↓wMethO_e, ↓wGet1_e, ↓wfCut_e, ↓wfDk_e, ↓wfDt_e, ↓wCopy_e, ↓wRowPk_e, ↓wPutRow_e, ↓wTru_e, ↓wLc_e, ↓wYes_e, ↓wAug_e, dLt, dLe, dGt, dGe, dSub, dMul, dMod, dFdiv, dPow, dI2, dI2C, dAdd, dEq, dNe, dLen, dInt, dIx_l, dIx_t, dIx_s, dList, dSum, dCut, atI_zero, atI_one, Option.some.injEq, dTru, dMax2, dMin2, dAddI, dEqS, dIs, dNotIs, dSortDI, obD, id_eq, List.getElem?_cons_zero, List.getElem?_cons_succ, List.set_cons_zero, List.set_cons_succ, List.length_cons, List.length_nil, D.bl.injEq, exists_eq_left', decide_eq_true_eq, decide_eq_false_iff_not, Bool.not_eq_true', Bool.not_eq_false', Nat.zero_add, Nat.reduceAdd, true_and, and_true, forall_const, reduceCtorEq, not_true_eq_false, not_false_eq_true, false_implies, true_implies, implies_true, sz_line, Nat.reduceLeDiff, Int.reduceLE, Int.reduceLT, Int.reduceNeg, Int.reducePow, Int.reduceAdd, Int.reduceSub, Int.reduceMul]
        refine ⟨_, by rw [← eix]; exact stR_at hpm, stRow_ix hf ?_⟩
        refine ⟨_, atI_prs (idx_at (hcl f hf)), ?_⟩
        simp only [wf__law_after]
        refine ⟨m, o, p, rfl, rfl, rfl, okm8, oko8, ho, hp, hf, ?_⟩
        refine ⟨⟨shD_pD _, shD_pD _⟩, ?_⟩
        rw [eqD_pD]
        refine ⟨false, rfl, (fun z => nomatch z), fun _ => ?_⟩
        exact hC3 _ ⟨_, rfl⟩
      · rintro ρ ⟨s11, rfl⟩
        exact hC2 _ ⟨_, _, _, rfl⟩
    · rintro ρ ⟨s10, s11, s12, rfl⟩
      exact hC _ ⟨_, _, _, _, _, _, _, rfl⟩
  · rintro ρ ⟨s9, s10, s11, s12, s13, s14, s15, rfl⟩
    simp only [w_law_t6, ↓wSeq_e, ↓wNext_e, ↓wBreak_e, ↓wCont_e, ↓wRet_e, ↓wRetN_e, ↓wDrop_e, ↓wIf_e, ↓wAnd_e, ↓wOr_e, ↓wNot_e, ↓wTst_e, ↓wAndV_e, ↓wOrV_e, ↓wNotV_e, ↓wIfE_e, ↓wChain_e, ↓wVar_e, ↓wPk_e, ↓wC_e, ↓wOp_e, ↓wUn_e, ↓wM1_e, ↓wTup_e, ↓wfLst_e, ↓wFz_e, ↓waNil_e, ↓waCons_e, ↓asNil_e, ↓asCons_e, ↓asBox_e, ↓wCall_e, ↓wAsg_e, ↓wSt_e, ↓wAsgO_e, ↓wTp_e, ↓wTpL_e, ↓wPar_e, ↓wStL_nil, ↓wStL_cons, ↓wFor_e, ↓wRg1_e, ↓wRg2_e, ↓wItL_e, ↓wItT_e, ↓wItS_e, ↓wApp_e, ↓woNone_e, ↓woSome_e, ↓wCut_e, ↓wBx1_e, ↓wBx0_e, ↓wBxPut_e, ↓wDraw_e, ↓wLSet_e, ↓wNever_e, ↓wFld_e, ↓wMeth_e, ↓wMake_e, ↓wFldN_e, ↓wZip_e, ↓wPut_e, ↓wfList_e, ↓wfDict_e, ↓wfDisp1_e, ↓wPop0_e, ↓wOFld_e, ↓wOFldS_e, ↓wOApp_e, ↓wOPut_e, ↓wFldNO_e, ↓wMethO_e, ↓wGet1_e, ↓wfCut_e, ↓wfDk_e, ↓wfDt_e, ↓wCopy_e, ↓wRowPk_e, ↓wPutRow_e, ↓wTru_e, ↓wLc_e, ↓wYes_e, ↓wAug_e, dLt, dLe, dGt, dGe, dSub, dMul, dMod, dFdiv, dPow, dI2, dI2C, dAdd, dEq, dNe, dLen, dInt, dIx_l, dIx_t, dIx_s, dList, dSum, dCut, atI_zero, atI_one, Option.some.injEq, dTru, dMax2, dMin2, dAddI, dEqS, dIs, dNotIs, dSortDI, obD, id_eq, List.getElem?_cons_zero, List.getElem?_cons_succ, List.set_cons_zero, List.set_cons_succ, List.length_cons, List.length_nil, D.bl.injEq, exists_eq_left', decide_eq_true_eq, decide_eq_false_iff_not, Bool.not_eq_true', Bool.not_eq_false', Nat.zero_add, Nat.reduceAdd, true_and, and_true, forall_const, reduceCtorEq, not_true_eq_false, not_false_eq_true, false_implies, true_implies, implies_true, sz_line, Nat.reduceLeDiff, Int.reduceLE, Int.reduceLT, Int.reduceNeg, Int.reducePow, Int.reduceAdd, Int.reduceSub, Int.reduceMul, wf__law_machine]
    refine ⟨by rw [List.length_map]; omega, "z" :: m.facts, rfl, ⟨List.nodup_cons.mpr ⟨hz, nd⟩, by simp, by rw [List.length_cons]; omega, fun f hf => ?_⟩, fun x hx _ => ?_⟩
    · rcases List.mem_cons.mp hf with rfl | hf
      · decide +kernel
      · exact h1 f hf
    · refine .inr ⟨⟨m, x, rfl, rfl, ?_, hst, fun f hf => ?_⟩, true, rfl, fun _ => ?_, fun z => nomatch z⟩
      · rw [hx]
        intro z
        have := congrArg List.length z
        simp at this
      · rw [hx] at hf
        rcases List.mem_cons.mp hf with rfl | hf
        · decide +kernel
        · exact hst f hf
      · exact .inl ⟨m, o, rfl, rfl, okm8, oko8, ho, hst, false, rfl, rfl⟩

end DL

namespace DL
open PySem PySem.Spec PyProof.Rows L2
def top (i : Nat) : Stmt := PySem.Challenge.pw_movedyears_k40_pairs_that_are_met.main.body.getD i (.Pass ⟨0, 0, 0, 0⟩)
abbrev s_check_facts : Stmt := top 4
abbrev N_check_facts : List Str := ["machine", "other"]
theorem sc_check_facts : FnScope N_check_facts ["machine", "other"] (defScope s_check_facts) := ⟨rfl, rfl, rfl, by decide +kernel, rfl, by decide +kernel, by decide +kernel⟩
abbrev s_Pairs_meet : Stmt := inClass (top 5) 1
abbrev N_Pairs_meet : List Str := ["self", "machine", "other", "pair"]
theorem sc_Pairs_meet : FnScope N_Pairs_meet ["self", "machine", "other", "pair"] (defScope s_Pairs_meet) := ⟨rfl, rfl, rfl, by decide +kernel, rfl, by decide +kernel, by decide +kernel⟩
abbrev s_Pairs_go_on : Stmt := inClass (top 5) 2
abbrev N_Pairs_go_on : List Str := ["self", "machine", "other", "pair", "first", "second", "steps", "gains", "fact"]
theorem sc_Pairs_go_on : FnScope N_Pairs_go_on ["self", "machine", "other", "pair"] (defScope s_Pairs_go_on) := ⟨rfl, rfl, rfl, by decide +kernel, rfl, by decide +kernel, by decide +kernel⟩
abbrev s_Pairs_init : Stmt := inClass (top 5) 0
abbrev N_Pairs_init : List Str := ["self", "machine", "other", "begins", "pair"]
theorem sc_Pairs_init : FnScope N_Pairs_init ["self", "machine", "other", "begins"] (defScope s_Pairs_init) := ⟨rfl, rfl, rfl, by decide +kernel, rfl, by decide +kernel, by decide +kernel⟩
abbrev s_Pairs_many : Stmt := inClass (top 5) 3
abbrev N_Pairs_many : List Str := ["self"]
theorem sc_Pairs_many : FnScope N_Pairs_many ["self"] (defScope s_Pairs_many) := ⟨rfl, rfl, rfl, by decide +kernel, rfl, by decide +kernel, by decide +kernel⟩
abbrev s_Machine_many : Stmt := inClass (top 10) 1
abbrev N_Machine_many : List Str := ["self"]
theorem sc_Machine_many : FnScope N_Machine_many ["self"] (defScope s_Machine_many) := ⟨rfl, rfl, rfl, by decide +kernel, rfl, by decide +kernel, by decide +kernel⟩
abbrev s_first_careers : Stmt := top 6
abbrev N_first_careers : List Str := ["machine", "found", "waiting", "state", "after", "fact"]
theorem sc_first_careers : FnScope N_first_careers ["machine"] (defScope s_first_careers) := ⟨rfl, rfl, rfl, by decide +kernel, rfl, by decide +kernel, by decide +kernel⟩
abbrev s_left_from : Stmt := top 7
abbrev N_left_from : List Str := ["machine", "careers", "state"]
theorem sc_left_from : FnScope N_left_from ["machine"] (defScope s_left_from) := ⟨rfl, rfl, rfl, by decide +kernel, rfl, by decide +kernel, by decide +kernel⟩
abbrev s_moved_pairs : Stmt := top 8
abbrev N_moved_pairs : List Str := ["machine", "other", "carry", "state"]
theorem sc_moved_pairs : FnScope N_moved_pairs ["machine", "other", "carry"] (defScope s_moved_pairs) := ⟨rfl, rfl, rfl, by decide +kernel, rfl, by decide +kernel, by decide +kernel⟩
abbrev s_Machine_init : Stmt := inClass (top 10) 0
abbrev N_Machine_init : List Str := ["self", "facts", "step", "gain", "leave", "row"]
theorem sc_Machine_init : FnScope N_Machine_init ["self", "facts", "step", "gain", "leave"] (defScope s_Machine_init) := ⟨rfl, rfl, rfl, by decide +kernel, rfl, by decide +kernel, by decide +kernel⟩
abbrev s_Carry_init : Stmt := inClass (top 12) 0
abbrev N_Carry_init : List Str := ["self", "to", "cost"]
theorem sc_Carry_init : FnScope N_Carry_init ["self", "to", "cost"] (defScope s_Carry_init) := ⟨rfl, rfl, rfl, by decide +kernel, rfl, by decide +kernel, by decide +kernel⟩
abbrev s__law_cell : Stmt := top 14
abbrev N__law_cell : List Str := ["_law_script", "_law_k"]
theorem sc__law_cell : FnScope N__law_cell ["_law_script", "_law_k"] (defScope s__law_cell) := ⟨rfl, rfl, rfl, by decide +kernel, rfl, by decide +kernel, by decide +kernel⟩
abbrev s__law_row : Stmt := top 15
abbrev N__law_row : List Str := ["_law_cell_here", "_law_k", "_law_many", "_law_row_here", "_law_turn", "_law_seed"]
theorem sc__law_row : FnScope N__law_row ["_law_cell_here", "_law_k", "_law_many"] (defScope s__law_row) := ⟨rfl, rfl, rfl, by decide +kernel, rfl, by decide +kernel, by decide +kernel⟩
abbrev s__law_box : Stmt := top 16
abbrev N__law_box : List Str := ["_law_script", "_law_first", "_law_last", "_law_row_here", "_law_k"]
theorem sc__law_box : FnScope N__law_box ["_law_script", "_law_first", "_law_last"] (defScope s__law_box) := ⟨rfl, rfl, rfl, by decide +kernel, rfl, by decide +kernel, by decide +kernel⟩
abbrev s__law_draw : Stmt := top 17
abbrev N__law_draw : List Str := ["_law_box_here", "_law_many", "_law_at"]
theorem sc__law_draw : FnScope N__law_draw ["_law_box_here", "_law_many"] (defScope s__law_draw) := ⟨rfl, rfl, rfl, by decide +kernel, rfl, by decide +kernel, by decide +kernel⟩
abbrev s__law_same : Stmt := top 18
abbrev N__law_same : List Str := ["_law_one", "_law_other"]
theorem sc__law_same : FnScope N__law_same ["_law_one", "_law_other"] (defScope s__law_same) := ⟨rfl, rfl, rfl, by decide +kernel, rfl, by decide +kernel, by decide +kernel⟩
abbrev s__law_facts : Stmt := top 19
abbrev N__law_facts : List Str := ["_law_box_here"]
theorem sc__law_facts : FnScope N__law_facts ["_law_box_here"] (defScope s__law_facts) := ⟨rfl, rfl, rfl, by decide +kernel, rfl, by decide +kernel, by decide +kernel⟩
abbrev s__law_machine : Stmt := top 20
abbrev N__law_machine : List Str := ["_law_box_here", "_law_facts_here", "_law_most", "_law_many", "_law_step", "_law_gain", "_law_state", "_law_fact"]
theorem sc__law_machine : FnScope N__law_machine ["_law_box_here", "_law_facts_here", "_law_most"] (defScope s__law_machine) := ⟨rfl, rfl, rfl, by decide +kernel, rfl, by decide +kernel, by decide +kernel⟩
abbrev s__law_carry : Stmt := top 21
abbrev N__law_carry : List Str := ["_law_box_here", "_law_machine_here", "_law_other", "_law_many", "_law_to", "_law_state"]
theorem sc__law_carry : FnScope N__law_carry ["_law_box_here", "_law_machine_here", "_law_other"] (defScope s__law_carry) := ⟨rfl, rfl, rfl, by decide +kernel, rfl, by decide +kernel, by decide +kernel⟩
abbrev s__law_met : Stmt := top 22
abbrev N__law_met : List Str := ["_law_machine_here", "_law_other", "_law_begins", "_law_found", "_law_pair", "_law_place", "_law_after_here", "_law_fact"]
theorem sc__law_met : FnScope N__law_met ["_law_machine_here", "_law_other", "_law_begins"] (defScope s__law_met) := ⟨rfl, rfl, rfl, by decide +kernel, rfl, by decide +kernel, by decide +kernel⟩
abbrev s__law_come : Stmt := top 23
abbrev N__law_come : List Str := ["_law_machine_here", "_law_found", "_law_rows", "_law_state", "_law_after_here", "_law_fact"]
theorem sc__law_come : FnScope N__law_come ["_law_machine_here"] (defScope s__law_come) := ⟨rfl, rfl, rfl, by decide +kernel, rfl, by decide +kernel, by decide +kernel⟩
abbrev s__law_ahead : Stmt := top 24
abbrev N__law_ahead : List Str := ["_law_machine_here", "_law_other", "_law_pair", "_law_fact"]
theorem sc__law_ahead : FnScope N__law_ahead ["_law_machine_here", "_law_other", "_law_pair", "_law_fact"] (defScope s__law_ahead) := ⟨rfl, rfl, rfl, by decide +kernel, rfl, by decide +kernel, by decide +kernel⟩
abbrev s__law_after : Stmt := top 25
abbrev N__law_after : List Str := ["_law_machine_here", "_law_other", "_law_pair", "_law_fact"]
theorem sc__law_after : FnScope N__law_after ["_law_machine_here", "_law_other", "_law_pair", "_law_fact"] (defScope s__law_after) := ⟨rfl, rfl, rfl, by decide +kernel, rfl, by decide +kernel, by decide +kernel⟩
abbrev s__law_refused : Stmt := top 26
abbrev N__law_refused : List Str := ["_law_machine_here", "_law_other"]
theorem sc__law_refused : FnScope N__law_refused ["_law_machine_here", "_law_other"] (defScope s__law_refused) := ⟨rfl, rfl, rfl, by decide +kernel, rfl, by decide +kernel, by decide +kernel⟩
abbrev s_law : Stmt := top 27
abbrev N_law : List Str := ["_law_script", "_law_box_here", "_law_facts_here", "_law_machine_here", "_law_other", "_law_carry_here", "_law_come_here", "_law_careers", "_law_begins", "_law_met_here", "_law_pair", "_law_fact", "_law_place", "_law_pairs", "_law_due", "_law_state", "_law_turn"]
theorem sc_law : FnScope N_law ["_law_script"] (defScope s_law) := ⟨rfl, rfl, rfl, by decide +kernel, rfl, by decide +kernel, by decide +kernel⟩
structure Txt (K : PySem.W.Frag) (mg : Str → Option Value) where
  f_check_facts : Addr
  d_check_facts : FuncData
  F_check_facts : Fun K "check_facts" "check_facts" s_check_facts f_check_facts d_check_facts
  b_check_facts : L2.Binds K d_check_facts ["machine", "other"] []
  m_check_facts : mg "check_facts" = some (.ref f_check_facts)
  k_check_facts : PySem.W.keepIn K (.ref f_check_facts) = true
  f_Pairs_meet : Addr
  d_Pairs_meet : FuncData
  F_Pairs_meet : Fun K "meet" "Pairs.meet" s_Pairs_meet f_Pairs_meet d_Pairs_meet
  b_Pairs_meet : L2.Binds K d_Pairs_meet ["self", "machine", "other", "pair"] []
  f_Pairs_go_on : Addr
  d_Pairs_go_on : FuncData
  F_Pairs_go_on : Fun K "go_on" "Pairs.go_on" s_Pairs_go_on f_Pairs_go_on d_Pairs_go_on
  b_Pairs_go_on : L2.Binds K d_Pairs_go_on ["self", "machine", "other", "pair"] []
  f_Pairs_init : Addr
  d_Pairs_init : FuncData
  F_Pairs_init : Fun K "__init__" "Pairs.__init__" s_Pairs_init f_Pairs_init d_Pairs_init
  b_Pairs_init : L2.Binds K d_Pairs_init ["self", "machine", "other", "begins"] []
  f_Pairs_many : Addr
  d_Pairs_many : FuncData
  F_Pairs_many : Fun K "many" "Pairs.many" s_Pairs_many f_Pairs_many d_Pairs_many
  b_Pairs_many : L2.Binds K d_Pairs_many ["self"] []
  f_Machine_many : Addr
  d_Machine_many : FuncData
  F_Machine_many : Fun K "many" "Machine.many" s_Machine_many f_Machine_many d_Machine_many
  b_Machine_many : L2.Binds K d_Machine_many ["self"] []
  f_first_careers : Addr
  d_first_careers : FuncData
  F_first_careers : Fun K "first_careers" "first_careers" s_first_careers f_first_careers d_first_careers
  b_first_careers : L2.Binds K d_first_careers ["machine"] []
  m_first_careers : mg "first_careers" = some (.ref f_first_careers)
  k_first_careers : PySem.W.keepIn K (.ref f_first_careers) = true
  f_left_from : Addr
  d_left_from : FuncData
  F_left_from : Fun K "left_from" "left_from" s_left_from f_left_from d_left_from
  b_left_from : L2.Binds K d_left_from ["machine"] []
  m_left_from : mg "left_from" = some (.ref f_left_from)
  k_left_from : PySem.W.keepIn K (.ref f_left_from) = true
  f_moved_pairs : Addr
  d_moved_pairs : FuncData
  F_moved_pairs : Fun K "moved_pairs" "moved_pairs" s_moved_pairs f_moved_pairs d_moved_pairs
  b_moved_pairs : L2.Binds K d_moved_pairs ["machine", "other", "carry"] []
  m_moved_pairs : mg "moved_pairs" = some (.ref f_moved_pairs)
  k_moved_pairs : PySem.W.keepIn K (.ref f_moved_pairs) = true
  f_Machine_init : Addr
  d_Machine_init : FuncData
  F_Machine_init : Fun K "__init__" "Machine.__init__" s_Machine_init f_Machine_init d_Machine_init
  b_Machine_init : L2.Binds K d_Machine_init ["self", "facts", "step", "gain", "leave"] []
  f_Carry_init : Addr
  d_Carry_init : FuncData
  F_Carry_init : Fun K "__init__" "Carry.__init__" s_Carry_init f_Carry_init d_Carry_init
  b_Carry_init : L2.Binds K d_Carry_init ["self", "to", "cost"] []
  f__law_cell : Addr
  d__law_cell : FuncData
  F__law_cell : Fun K "_law_cell" "_law_cell" s__law_cell f__law_cell d__law_cell
  b__law_cell : L2.Binds K d__law_cell ["_law_script", "_law_k"] []
  m__law_cell : mg "_law_cell" = some (.ref f__law_cell)
  k__law_cell : PySem.W.keepIn K (.ref f__law_cell) = true
  f__law_row : Addr
  d__law_row : FuncData
  F__law_row : Fun K "_law_row" "_law_row" s__law_row f__law_row d__law_row
  b__law_row : L2.Binds K d__law_row ["_law_cell_here", "_law_k", "_law_many"] []
  m__law_row : mg "_law_row" = some (.ref f__law_row)
  k__law_row : PySem.W.keepIn K (.ref f__law_row) = true
  f__law_box : Addr
  d__law_box : FuncData
  F__law_box : Fun K "_law_box" "_law_box" s__law_box f__law_box d__law_box
  b__law_box : L2.Binds K d__law_box ["_law_script", "_law_first", "_law_last"] []
  m__law_box : mg "_law_box" = some (.ref f__law_box)
  k__law_box : PySem.W.keepIn K (.ref f__law_box) = true
  f__law_draw : Addr
  d__law_draw : FuncData
  F__law_draw : Fun K "_law_draw" "_law_draw" s__law_draw f__law_draw d__law_draw
  b__law_draw : L2.Binds K d__law_draw ["_law_box_here", "_law_many"] []
  m__law_draw : mg "_law_draw" = some (.ref f__law_draw)
  k__law_draw : PySem.W.keepIn K (.ref f__law_draw) = true
  f__law_same : Addr
  d__law_same : FuncData
  F__law_same : Fun K "_law_same" "_law_same" s__law_same f__law_same d__law_same
  b__law_same : L2.Binds K d__law_same ["_law_one", "_law_other"] []
  m__law_same : mg "_law_same" = some (.ref f__law_same)
  k__law_same : PySem.W.keepIn K (.ref f__law_same) = true
  f__law_facts : Addr
  d__law_facts : FuncData
  F__law_facts : Fun K "_law_facts" "_law_facts" s__law_facts f__law_facts d__law_facts
  b__law_facts : L2.Binds K d__law_facts ["_law_box_here"] []
  m__law_facts : mg "_law_facts" = some (.ref f__law_facts)
  k__law_facts : PySem.W.keepIn K (.ref f__law_facts) = true
  f__law_machine : Addr
  d__law_machine : FuncData
  F__law_machine : Fun K "_law_machine" "_law_machine" s__law_machine f__law_machine d__law_machine
  b__law_machine : L2.Binds K d__law_machine ["_law_box_here", "_law_facts_here", "_law_most"] []
  m__law_machine : mg "_law_machine" = some (.ref f__law_machine)
  k__law_machine : PySem.W.keepIn K (.ref f__law_machine) = true
  f__law_carry : Addr
  d__law_carry : FuncData
  F__law_carry : Fun K "_law_carry" "_law_carry" s__law_carry f__law_carry d__law_carry
  b__law_carry : L2.Binds K d__law_carry ["_law_box_here", "_law_machine_here", "_law_other"] []
  m__law_carry : mg "_law_carry" = some (.ref f__law_carry)
  k__law_carry : PySem.W.keepIn K (.ref f__law_carry) = true
  f__law_met : Addr
  d__law_met : FuncData
  F__law_met : Fun K "_law_met" "_law_met" s__law_met f__law_met d__law_met
  b__law_met : L2.Binds K d__law_met ["_law_machine_here", "_law_other", "_law_begins"] []
  m__law_met : mg "_law_met" = some (.ref f__law_met)
  k__law_met : PySem.W.keepIn K (.ref f__law_met) = true
  f__law_come : Addr
  d__law_come : FuncData
  F__law_come : Fun K "_law_come" "_law_come" s__law_come f__law_come d__law_come
  b__law_come : L2.Binds K d__law_come ["_law_machine_here"] []
  m__law_come : mg "_law_come" = some (.ref f__law_come)
  k__law_come : PySem.W.keepIn K (.ref f__law_come) = true
  f__law_ahead : Addr
  d__law_ahead : FuncData
  F__law_ahead : Fun K "_law_ahead" "_law_ahead" s__law_ahead f__law_ahead d__law_ahead
  b__law_ahead : L2.Binds K d__law_ahead ["_law_machine_here", "_law_other", "_law_pair", "_law_fact"] []
  m__law_ahead : mg "_law_ahead" = some (.ref f__law_ahead)
  k__law_ahead : PySem.W.keepIn K (.ref f__law_ahead) = true
  f__law_after : Addr
  d__law_after : FuncData
  F__law_after : Fun K "_law_after" "_law_after" s__law_after f__law_after d__law_after
  b__law_after : L2.Binds K d__law_after ["_law_machine_here", "_law_other", "_law_pair", "_law_fact"] []
  m__law_after : mg "_law_after" = some (.ref f__law_after)
  k__law_after : PySem.W.keepIn K (.ref f__law_after) = true
  f__law_refused : Addr
  d__law_refused : FuncData
  F__law_refused : Fun K "_law_refused" "_law_refused" s__law_refused f__law_refused d__law_refused
  b__law_refused : L2.Binds K d__law_refused ["_law_machine_here", "_law_other"] []
  m__law_refused : mg "_law_refused" = some (.ref f__law_refused)
  k__law_refused : PySem.W.keepIn K (.ref f__law_refused) = true
  f_law : Addr
  d_law : FuncData
  F_law : Fun K "law" "law" s_law f_law d_law
  b_law : L2.Binds K d_law ["_law_script"] []
  m_law : mg "law" = some (.ref f_law)
  k_law : PySem.W.keepIn K (.ref f_law) = true
  C_Carry : Addr
  M_Carry : mg "Carry" = some (.ref C_Carry)
  L_Carry : Cls K C_Carry
  mk_Carry : Mk K C_Carry f_Carry_init
  C_Machine : Addr
  M_Machine : mg "Machine" = some (.ref C_Machine)
  L_Machine : Cls K C_Machine
  mk_Machine : Mk K C_Machine f_Machine_init
  C_Pairs : Addr
  M_Pairs : mg "Pairs" = some (.ref C_Pairs)
  L_Pairs : Cls K C_Pairs
  mk_Pairs : Mk K C_Pairs f_Pairs_init
  C_UnlikeFacts : Addr
  M_UnlikeFacts : mg "UnlikeFacts" = some (.ref C_UnlikeFacts)
  ex_UnlikeFacts : PySem.W.excIn K C_UnlikeFacts [.type "ValueError", .type "Exception", .type "BaseException", .type "object"] "ValueError.__new__" = true
  kp_UnlikeFacts : PySem.W.keepIn K (.ref C_UnlikeFacts) = true
  sb_UnlikeFacts : PySem.W.subIn K (.ref C_UnlikeFacts) (.type "BaseException") = some true
  ty_UnlikeFacts : PySem.W.typeIn K (.ref C_UnlikeFacts) = some (.type "type")
  em_UnlikeFacts : PySem.W.exmOne K (.ref C_UnlikeFacts) (.ref C_UnlikeFacts) = some true
  na_Carry_cost : NoAttr K C_Carry "cost"
  na_Carry_to : NoAttr K C_Carry "to"
  na_Machine_facts : NoAttr K C_Machine "facts"
  na_Machine_gain : NoAttr K C_Machine "gain"
  na_Machine_leave : NoAttr K C_Machine "leave"
  na_Machine_step : NoAttr K C_Machine "step"
  na_Pairs_end : NoAttr K C_Pairs "end"
  na_Pairs_facts : NoAttr K C_Pairs "facts"
  na_Pairs_gain : NoAttr K C_Pairs "gain"
  na_Pairs_pairs : NoAttr K C_Pairs "pairs"
  na_Pairs_places : NoAttr K C_Pairs "places"
  na_Pairs_step : NoAttr K C_Pairs "step"
  me_Machine_many : Meth K C_Machine "many" f_Machine_many
  me_Pairs_go_on : Meth K C_Pairs "go_on" f_Pairs_go_on
  me_Pairs_many : Meth K C_Pairs "many" f_Pairs_many
  me_Pairs_meet : Meth K C_Pairs "meet" f_Pairs_meet
  z_dict : mg "dict" = none
  z_int : mg "int" = none
  z_len : mg "len" = none
  z_list : mg "list" = none
  z_range : mg "range" = none
  z_repr : mg "repr" = none
  z_sorted : mg "sorted" = none
section
variable {P : Program} {w : World} {K : PySem.W.Frag} {mg : Str → Option Value} {base : Heap}
theorem ok_check_facts (T : Txt K mg) : FnOk P w K mg base CX0 1 T.f_check_facts T.d_check_facts ["machine", "other"] (spF ⟨K, mg⟩ wf_check_facts) :=
  fun_okD T.F_check_facts sc_check_facts len_check_facts fun cdv A outer s H E hr => ⟨_, w_check_facts, (dss_one (ds_if (dt_cmp (op_neU hr.units) rop_ne (DE.dp (de_fld T.M_Machine T.L_Machine T.na_Machine_facts (dp_var 0))) (DE.dp (de_fld T.M_Machine T.L_Machine T.na_Machine_facts (dp_var 1))) (nomark _)) (dss_one ds_never) dss_nil)), p_check_facts⟩
theorem ok_Pairs_meet (T : Txt K mg) : FnOk P w K mg base CX0 1 T.f_Pairs_meet T.d_Pairs_meet ["self", "machine", "other", "pair"] (spO ⟨K, mg⟩ wf_Pairs_meet) :=
  fun_okO T.F_Pairs_meet sc_Pairs_meet len_Pairs_meet fun cdv A outer s H E hr => ⟨_, w_Pairs_meet, (dss_cons (ds_if (dt_cmp (op_notInU (hu65 hr)) rop_notIn (dp_var 3) (dp_ofld 0 T.M_Pairs T.L_Pairs T.na_Pairs_places) (by rfl)) (dss_cons (ds_oput 0 T.M_Pairs T.L_Pairs T.na_Pairs_places (hu_of hr) (de_var 3) (de_b1 call_lenU ro1_len (by rfl) T.z_len (by decide +kernel) (dp_ofld 0 T.M_Pairs T.L_Pairs T.na_Pairs_pairs)))
 (dss_cons (ds_oapp 0 T.M_Pairs T.L_Pairs T.na_Pairs_pairs (de_var 3))
 (dss_one (ds_oapp 0 T.M_Pairs T.L_Pairs T.na_Pairs_end (de_op op_sub rop_sub (DE.dp (de_ix (hu_of hr) (DE.dp (de_fld T.M_Machine T.L_Machine T.na_Machine_leave (dp_var 1))) (DE.dp (de_ix (hu_of hr) (dp_var 3) (DE.dp de_int) (fun _ _ => rfl))) (fun _ _ => rfl))) (DE.dp (de_ix (hu_of hr) (DE.dp (de_fld T.M_Machine T.L_Machine T.na_Machine_leave (dp_var 2))) (DE.dp (de_ix (hu_of hr) (dp_var 3) (DE.dp de_int) (fun _ _ => rfl))) (fun _ _ => rfl)))))))) dss_nil)
 (dss_one (ds_ret (de_ix (hu_of hr) (dp_ofld 0 T.M_Pairs T.L_Pairs T.na_Pairs_places) (dp_var 3) (fun _ _ => rfl))))), p_Pairs_meet⟩
theorem ok_Pairs_go_on (T : Txt K mg) : FnOk P w K mg base CX0 2 T.f_Pairs_go_on T.d_Pairs_go_on ["self", "machine", "other", "pair"] (spO ⟨K, mg⟩ wf_Pairs_go_on) :=
  fun_okO T.F_Pairs_go_on sc_Pairs_go_on len_Pairs_go_on fun cdv A outer s H E hr => ⟨_, w_Pairs_go_on, (dss_cons (ds_asg (de_var 3) (dg_tup [4, 5] rfl (gs_cons (i := 4) sc_Pairs_go_on.nd rfl (by first | exact Or.inl rfl | exact Or.inr rfl) (gs_cons (i := 5) sc_Pairs_go_on.nd rfl (by first | exact Or.inl rfl | exact Or.inr rfl) gs_nil))))
 (dss_cons (ds_setO (i := 6) sc_Pairs_go_on.nd rfl (by first | exact Or.inl rfl | exact Or.inr rfl) df_dk)
 (dss_cons (ds_setO (i := 7) sc_Pairs_go_on.nd rfl (by first | exact Or.inl rfl | exact Or.inr rfl) df_dk)
 (dss_cons (ds_for PassesOwn.never rfl (di_list (de_ofld 0 T.M_Pairs T.L_Pairs T.na_Pairs_facts)) (dg_name (i := 8) sc_Pairs_go_on.nd rfl (by first | exact Or.inl rfl | exact Or.inr rfl)) (dss_cons (dsx_put 6 (hu_of hr) (de_var 8) (dx_methO 0 (ok_Pairs_meet T) (hr.mono (by decide)) T.M_Pairs T.L_Pairs T.me_Pairs_meet T.b_Pairs_meet (das_cons (de_var 1) (das_cons (de_var 2) (das_cons (de_tup (da_cons (de_ix (hu_of hr) (DE.dp (de_ix (hu_of hr) (DE.dp (de_fld T.M_Machine T.L_Machine T.na_Machine_step (dp_var 1))) (dp_var 4) (fun _ _ => rfl))) (dp_var 8) (fun _ _ => rfl)) (da_cons (de_ix (hu_of hr) (DE.dp (de_ix (hu_of hr) (DE.dp (de_fld T.M_Machine T.L_Machine T.na_Machine_step (dp_var 2))) (dp_var 5) (fun _ _ => rfl))) (dp_var 8) (fun _ _ => rfl)) da_nil))) das_nil)))))
 (dss_one (ds_put 7 (hu_of hr) (de_var 8) (de_op op_sub rop_sub (DE.dp (de_ix (hu_of hr) (DE.dp (de_ix (hu_of hr) (DE.dp (de_fld T.M_Machine T.L_Machine T.na_Machine_gain (dp_var 1))) (dp_var 4) (fun _ _ => rfl))) (dp_var 8) (fun _ _ => rfl))) (DE.dp (de_ix (hu_of hr) (DE.dp (de_ix (hu_of hr) (DE.dp (de_fld T.M_Machine T.L_Machine T.na_Machine_gain (dp_var 2))) (dp_var 5) (fun _ _ => rfl))) (dp_var 8) (fun _ _ => rfl))))))))
 (dss_cons (ds_oapp 0 T.M_Pairs T.L_Pairs T.na_Pairs_step (de_var 6))
 (dss_one (ds_oapp 0 T.M_Pairs T.L_Pairs T.na_Pairs_gain (de_var 7)))))))), p_Pairs_go_on⟩
theorem ok_Pairs_init (T : Txt K mg) : FnOk P w K mg base CX0 3 T.f_Pairs_init T.d_Pairs_init ["self", "machine", "other", "begins"] (spO ⟨K, mg⟩ wf_Pairs_init) :=
  fun_okO T.F_Pairs_init sc_Pairs_init len_Pairs_init fun cdv A outer s H E hr => ⟨_, w_Pairs_init, (dss_cons (ds_expr (de_call (ok_check_facts T) (hr.mono (by decide)) (by rfl) T.m_check_facts T.k_check_facts T.b_check_facts (das_cons (de_var 1) (das_cons (de_var 2) das_nil))))
 (dss_cons (ds_fldN 0 T.M_Pairs T.L_Pairs T.na_Pairs_facts (de_t1 call_list_of ro1_list (by rfl) T.z_list (by decide +kernel) (DE.dp (de_fld T.M_Machine T.L_Machine T.na_Machine_facts (dp_var 1)))))
 (dss_cons (ds_fldNO 0 T.M_Pairs T.L_Pairs T.na_Pairs_pairs (df_lst da_nil))
 (dss_cons (ds_fldNO 0 T.M_Pairs T.L_Pairs T.na_Pairs_places df_dt)
 (dss_cons (ds_fldNO 0 T.M_Pairs T.L_Pairs T.na_Pairs_step (df_lst da_nil))
 (dss_cons (ds_fldNO 0 T.M_Pairs T.L_Pairs T.na_Pairs_gain (df_lst da_nil))
 (dss_cons (ds_fldNO 0 T.M_Pairs T.L_Pairs T.na_Pairs_end (df_lst da_nil))
 (dss_cons (ds_for PassesOwn.never rfl (di_list (de_var 3)) (dg_name (i := 4) sc_Pairs_init.nd rfl (by first | exact Or.inl rfl | exact Or.inr rfl)) (dss_one (dsx_expr (dx_methO 0 (ok_Pairs_meet T) (hr.mono (by decide)) T.M_Pairs T.L_Pairs T.me_Pairs_meet T.b_Pairs_meet (das_cons (de_var 1) (das_cons (de_var 2) (das_cons (de_var 4) das_nil)))))))
 (dss_one (ds_while PassesOwn.never (dt_cmp op_lt rop_lt (DE.dp (de_b1 call_lenU ro1_len (by rfl) T.z_len (by decide +kernel) (dp_ofld 0 T.M_Pairs T.L_Pairs T.na_Pairs_step))) (DE.dp (de_b1 call_lenU ro1_len (by rfl) T.z_len (by decide +kernel) (dp_ofld 0 T.M_Pairs T.L_Pairs T.na_Pairs_pairs))) (nomark _)) (dss_one (dsx_expr (dx_methO 0 (ok_Pairs_go_on T) (hr.mono (by decide)) T.M_Pairs T.L_Pairs T.me_Pairs_go_on T.b_Pairs_go_on (das_cons (de_var 1) (das_cons (de_var 2) (das_cons (de_ix (hu_of hr) (dp_ofld 0 T.M_Pairs T.L_Pairs T.na_Pairs_pairs) (DE.dp (de_b1 call_lenU ro1_len (by rfl) T.z_len (by decide +kernel) (dp_ofld 0 T.M_Pairs T.L_Pairs T.na_Pairs_step))) (fun _ _ => rfl)) das_nil)))))))))))))))), p_Pairs_init⟩
theorem ok_Pairs_many (T : Txt K mg) : FnOk P w K mg base CX0 1 T.f_Pairs_many T.d_Pairs_many ["self"] (spF ⟨K, mg⟩ wf_Pairs_many) :=
  fun_okD T.F_Pairs_many sc_Pairs_many len_Pairs_many fun cdv A outer s H E hr => ⟨_, w_Pairs_many, (dss_one (ds_ret (de_b1 call_lenU ro1_len (by rfl) T.z_len (by decide +kernel) (DE.dp (de_fld T.M_Pairs T.L_Pairs T.na_Pairs_pairs (dp_var 0)))))), p_Pairs_many⟩
theorem ok_Machine_many (T : Txt K mg) : FnOk P w K mg base CX0 1 T.f_Machine_many T.d_Machine_many ["self"] (spF ⟨K, mg⟩ wf_Machine_many) :=
  fun_okD T.F_Machine_many sc_Machine_many len_Machine_many fun cdv A outer s H E hr => ⟨_, w_Machine_many, (dss_one (ds_ret (de_b1 call_lenU ro1_len (by rfl) T.z_len (by decide +kernel) (DE.dp (de_fld T.M_Machine T.L_Machine T.na_Machine_leave (dp_var 0)))))), p_Machine_many⟩
theorem ok_first_careers (T : Txt K mg) : FnOk P w K mg base CX0 2 T.f_first_careers T.d_first_careers ["machine"] (spF ⟨K, mg⟩ wf_first_careers) :=
  fun_okD T.F_first_careers sc_first_careers len_first_careers fun cdv A outer s H E hr => ⟨_, w_first_careers, (dss_cons (ds_setLcO (i := 1) (own := [("state", 3)]) rfl sc_first_careers.nd rfl rfl (sw_true rfl rfl rfl (by decide +kernel)) (di_range1 (by rfl) T.z_range (da_cons (de_meth0 (ok_Machine_many T) (hr.mono (by decide)) T.M_Machine T.L_Machine T.me_Machine_many T.b_Machine_many (de_var 0)) da_nil)) (blkOk_by (own := [("state", 3)]) (N := N_first_careers) (sc := defScope s_first_careers) (by decide +kernel)) (dg_name (i := 3) sc_first_careers.nd rfl (by first | exact Or.inl rfl | exact Or.inr rfl)) dts_nil de_non (fun _ _ _ _ _ => (dg_name (i := 3) sc_first_careers.nd rfl (by first | exact Or.inl rfl | exact Or.inr rfl))) (fun _ _ _ _ _ => dts_nil) (fun _ _ _ _ _ => de_non))
 (dss_cons (ds_lset 1 de_int (DF.de (df_lst da_nil)))
 (dss_cons (ds_setO (i := 2) sc_first_careers.nd rfl (by first | exact Or.inl rfl | exact Or.inr rfl) (df_lst (da_cons de_int da_nil)))
 (dss_cons (ds_while PassesOwn.never (dt_truth (dp_var 2) (fun _ => rfl)) (dss_cons (dsx_set (i := 3) sc_first_careers.nd rfl (by first | exact Or.inl rfl | exact Or.inr rfl) (dx_pop0 2))
 (dss_one (ds_for PassesOwn.never rfl (di_list (de_fld T.M_Machine T.L_Machine T.na_Machine_facts (dp_var 0))) (dg_name (i := 5) sc_first_careers.nd rfl (by first | exact Or.inl rfl | exact Or.inr rfl)) (dss_cons (ds_set (i := 4) sc_first_careers.nd rfl (by first | exact Or.inl rfl | exact Or.inr rfl) (de_ix (hu_of hr) (DE.dp (de_ix (hu_of hr) (DE.dp (de_fld T.M_Machine T.L_Machine T.na_Machine_step (dp_var 0))) (dp_var 3) (fun _ _ => rfl))) (dp_var 5) (fun _ _ => rfl)))
 (dss_one (ds_if (dt_cmp op_isU rop_is (DE.dp (de_ix (hu_of hr) (dp_var 1) (dp_var 4) (fun _ _ => rfl))) (DE.dp de_non) (nomark _)) (dss_cons (ds_lset 1 (de_var 4) (de_op op_addU rop_add (DE.dp (de_ix (hu_of hr) (dp_var 1) (dp_var 3) (fun _ _ => rfl))) (DE.dp (DF.de (df_lst (da_cons (de_var 5) da_nil))))))
 (dss_one (ds_append (i := 2) (de_var 4)))) dss_nil)))))))
 (dss_one (ds_ret (de_var 1))))))), p_first_careers⟩
theorem ok_left_from (T : Txt K mg) : FnOk P w K mg base CX0 3 T.f_left_from T.d_left_from ["machine"] (spF ⟨K, mg⟩ wf_left_from) :=
  fun_okD T.F_left_from sc_left_from len_left_from fun cdv A outer s H E hr => ⟨_, w_left_from, (dss_cons (ds_set (i := 1) sc_left_from.nd rfl (by first | exact Or.inl rfl | exact Or.inr rfl) (de_call (ok_first_careers T) (hr.mono (by decide)) (by rfl) T.m_first_careers T.k_first_careers T.b_first_careers (das_cons (de_var 0) das_nil)))
 (dss_one (ds_ret (DF.de (df_lc (own := [("state", 2)]) rfl sc_left_from.nd (di_range1 (by rfl) T.z_range (da_cons (de_meth0 (ok_Machine_many T) (hr.mono (by decide)) T.M_Machine T.L_Machine T.me_Machine_many T.b_Machine_many (de_var 0)) da_nil)) (blkOk_by (own := [("state", 2)]) (N := N_left_from) (sc := defScope s_left_from) (by decide +kernel)) (dg_name (i := 2) sc_left_from.nd rfl (by first | exact Or.inl rfl | exact Or.inr rfl)) (dts_one (dt_cmp op_notU rop_notIs (DE.dp (de_ix (hu_of hr) (dp_var 1) (dp_var 2) (fun _ _ => rfl))) (DE.dp de_non) (nomark _))) (de_var 2) (fun _ _ _ _ _ => (dg_name (i := 2) sc_left_from.nd rfl (by first | exact Or.inl rfl | exact Or.inr rfl))) (fun _ _ _ _ _ => (dts_one (dt_cmp op_notU rop_notIs (DE.dp (de_ix (hu_of hr) (dp_var 1) (dp_var 2) (fun _ _ => rfl))) (DE.dp de_non) (nomark _)))) (fun _ _ _ _ _ => (de_var 2))))))), p_left_from⟩
theorem ok_moved_pairs (T : Txt K mg) : FnOk P w K mg base CX0 5 T.f_moved_pairs T.d_moved_pairs ["machine", "other", "carry"] (spF ⟨K, mg⟩ wf_moved_pairs) :=
  fun_okD T.F_moved_pairs sc_moved_pairs len_moved_pairs fun cdv A outer s H E hr => ⟨_, w_moved_pairs, (dss_one (ds_ret (de_make T.mk_Pairs (ok_Pairs_init T) (hr.mono (by decide)) (by rfl) T.M_Pairs T.b_Pairs_init (das_cons (de_var 0) (das_cons (de_var 1) (das_cons (DF.de (df_lc (own := [("state", 3)]) rfl sc_moved_pairs.nd (di_list (de_call (ok_left_from T) (hr.mono (by decide)) (by rfl) T.m_left_from T.k_left_from T.b_left_from (das_cons (de_var 0) das_nil))) (blkOk_by (own := [("state", 3)]) (N := N_moved_pairs) (sc := defScope s_moved_pairs) (by decide +kernel)) (dg_name (i := 3) sc_moved_pairs.nd rfl (by first | exact Or.inl rfl | exact Or.inr rfl)) dts_nil (de_tup (da_cons (de_var 3) (da_cons (de_ix (hu_of hr) (DE.dp (de_fld T.M_Carry T.L_Carry T.na_Carry_to (dp_var 2))) (dp_var 3) (fun _ _ => rfl)) da_nil))) (fun _ _ _ _ _ => (dg_name (i := 3) sc_moved_pairs.nd rfl (by first | exact Or.inl rfl | exact Or.inr rfl))) (fun _ _ _ _ _ => dts_nil) (fun _ _ _ _ _ => (de_tup (da_cons (de_var 3) (da_cons (de_ix (hu_of hr) (DE.dp (de_fld T.M_Carry T.L_Carry T.na_Carry_to (dp_var 2))) (dp_var 3) (fun _ _ => rfl)) da_nil)))))) das_nil)))))), p_moved_pairs⟩
theorem ok_Machine_init (T : Txt K mg) : FnOk P w K mg base CX0 1 T.f_Machine_init T.d_Machine_init ["self", "facts", "step", "gain", "leave"] (spO ⟨K, mg⟩ wf_Machine_init) :=
  fun_okO T.F_Machine_init sc_Machine_init len_Machine_init fun cdv A outer s H E hr => ⟨_, w_Machine_init, (dss_cons (ds_fldN 0 T.M_Machine T.L_Machine T.na_Machine_facts (de_t1 call_list_of ro1_list (by rfl) T.z_list (by decide +kernel) (dp_var 1)))
 (dss_cons (ds_fldN 0 T.M_Machine T.L_Machine T.na_Machine_step (DF.de (df_lc (own := [("row", 5)]) rfl sc_Machine_init.nd (di_list (de_var 2)) (blkOk_by (own := [("row", 5)]) (N := N_Machine_init) (sc := defScope s_Machine_init) (by decide +kernel)) (dg_name (i := 5) sc_Machine_init.nd rfl (by first | exact Or.inl rfl | exact Or.inr rfl)) dts_nil (de_t1 (call_dictU rfl) ro1_dict (by rfl) T.z_dict (by decide +kernel) (dp_var 5)) (fun _ _ _ _ _ => (dg_name (i := 5) sc_Machine_init.nd rfl (by first | exact Or.inl rfl | exact Or.inr rfl))) (fun _ _ _ _ _ => dts_nil) (fun _ _ _ _ _ => (de_t1 (call_dictU rfl) ro1_dict (by rfl) T.z_dict (by decide +kernel) (dp_var 5))))))
 (dss_cons (ds_fldN 0 T.M_Machine T.L_Machine T.na_Machine_gain (DF.de (df_lc (own := [("row", 5)]) rfl sc_Machine_init.nd (di_list (de_var 3)) (blkOk_by (own := [("row", 5)]) (N := N_Machine_init) (sc := defScope s_Machine_init) (by decide +kernel)) (dg_name (i := 5) sc_Machine_init.nd rfl (by first | exact Or.inl rfl | exact Or.inr rfl)) dts_nil (de_t1 (call_dictU rfl) ro1_dict (by rfl) T.z_dict (by decide +kernel) (dp_var 5)) (fun _ _ _ _ _ => (dg_name (i := 5) sc_Machine_init.nd rfl (by first | exact Or.inl rfl | exact Or.inr rfl))) (fun _ _ _ _ _ => dts_nil) (fun _ _ _ _ _ => (de_t1 (call_dictU rfl) ro1_dict (by rfl) T.z_dict (by decide +kernel) (dp_var 5))))))
 (dss_one (ds_fldN 0 T.M_Machine T.L_Machine T.na_Machine_leave (de_t1 call_list_of ro1_list (by rfl) T.z_list (by decide +kernel) (dp_var 4))))))), p_Machine_init⟩
theorem ok_Carry_init (T : Txt K mg) : FnOk P w K mg base CX0 1 T.f_Carry_init T.d_Carry_init ["self", "to", "cost"] (spO ⟨K, mg⟩ wf_Carry_init) :=
  fun_okO T.F_Carry_init sc_Carry_init len_Carry_init fun cdv A outer s H E hr => ⟨_, w_Carry_init, (dss_cons (ds_fldN 0 T.M_Carry T.L_Carry T.na_Carry_to (de_t1 call_list_of ro1_list (by rfl) T.z_list (by decide +kernel) (dp_var 1)))
 (dss_one (ds_fldN 0 T.M_Carry T.L_Carry T.na_Carry_cost (de_t1 call_list_of ro1_list (by rfl) T.z_list (by decide +kernel) (dp_var 2))))), p_Carry_init⟩
theorem ok__law_cell (T : Txt K mg) : FnOk P w K mg base CX0 1 T.f__law_cell T.d__law_cell ["_law_script", "_law_k"] (spF ⟨K, mg⟩ wf__law_cell) :=
  fun_okD T.F__law_cell sc__law_cell len__law_cell fun cdv A outer s H E hr => ⟨_, w__law_cell, (dss_cons (ds_if (dt_cmp op_lt rop_lt (dp_var 1) (DE.dp (de_b1 call_lenU ro1_len (by rfl) T.z_len (by decide +kernel) (dp_var 0))) (nomark _)) (dss_one (ds_ret (de_ix (hu_of hr) (dp_var 0) (dp_var 1) (fun _ _ => rfl)))) dss_nil)
 (dss_one (ds_ret de_int))), p__law_cell⟩
theorem ok__law_row (T : Txt K mg) : FnOk P w K mg base CX0 1 T.f__law_row T.d__law_row ["_law_cell_here", "_law_k", "_law_many"] (spF ⟨K, mg⟩ wf__law_row) :=
  fun_okD T.F__law_row sc__law_row len__law_row fun cdv A outer s H E hr => ⟨_, w__law_row, (dss_cons (ds_setO (i := 3) sc__law_row.nd rfl (by first | exact Or.inl rfl | exact Or.inr rfl) (df_lst da_nil))
 (dss_cons (ds_if (dt_cmp op_lt rop_lt (dp_var 0) (DE.dp de_int) (nomark _)) (dss_one (ds_set (i := 0) sc__law_row.nd rfl (by first | exact Or.inl rfl | exact Or.inr rfl) (de_op op_sub rop_sub (DE.dp de_int) (DE.dp (de_op op_mul rop_mul (DE.dp de_int) (dp_var 0)))))) dss_nil)
 (dss_cons (ds_if (dt_cmp op_ge rop_ge (dp_var 0) (DE.dp (de_op op_pow rop_pow (DE.dp de_int) (DE.dp de_int))) (nomark _)) (dss_cons (ds_for PassesOwn.never rfl (di_range1 (by rfl) T.z_range (da_cons de_int da_nil)) (dg_name (i := 4) sc__law_row.nd rfl (by first | exact Or.inl rfl | exact Or.inr rfl)) (dss_one (ds_if (DWt.dt (dw_and (dt_cmp op_gt rop_gt (dp_var 0) (DE.dp de_int) (nomark _)) (dw_and1 (dt_cmp op_lt rop_lt (DE.dp (de_b1 call_lenU ro1_len (by rfl) T.z_len (by decide +kernel) (dp_var 3))) (dp_var 2) (nomark _))))) (dss_cons (ds_append (i := 3) (de_op op_mod rop_mod (DE.dp (de_t1 call_int1 ro1_int (by rfl) T.z_int (by decide +kernel) (dp_var 0))) (DE.dp de_int)))
 (dss_one (ds_set (i := 0) sc__law_row.nd rfl (by first | exact Or.inl rfl | exact Or.inr rfl) (de_op op_fdiv rop_fdiv (dp_var 0) (DE.dp de_int))))) dss_nil)))
 (dss_one (ds_ret (de_var 3)))) dss_nil)
 (dss_cons (ds_set (i := 5) sc__law_row.nd rfl (by first | exact Or.inl rfl | exact Or.inr rfl) (de_op op_mod rop_mod (DE.dp (de_t1 call_int1 ro1_int (by rfl) T.z_int (by decide +kernel) (DE.dp (de_op op_addU rop_add (DE.dp (de_op op_addU rop_add (DE.dp (de_op op_mul rop_mul (dp_var 0) (DE.dp de_int))) (DE.dp (de_op op_mul rop_mul (dp_var 1) (DE.dp de_int))))) (DE.dp de_int))))) (DE.dp de_int)))
 (dss_cons (ds_for PassesOwn.never rfl (di_range1 (by rfl) T.z_range (da_cons (de_var 2) da_nil)) (dg_name (i := 4) sc__law_row.nd rfl (by first | exact Or.inl rfl | exact Or.inr rfl)) (dss_cons (ds_set (i := 5) sc__law_row.nd rfl (by first | exact Or.inl rfl | exact Or.inr rfl) (de_op op_mod rop_mod (DE.dp (de_t1 call_int1 ro1_int (by rfl) T.z_int (by decide +kernel) (DE.dp (de_op op_addU rop_add (DE.dp (de_op op_addU rop_add (DE.dp (de_op op_mul rop_mul (dp_var 5) (DE.dp de_int))) (DE.dp (de_op op_mul rop_mul (DE.dp de_int) (dp_var 4))))) (DE.dp de_int))))) (DE.dp de_int)))
 (dss_one (ds_append (i := 3) (de_op op_mod rop_mod (DE.dp (de_t1 call_int1 ro1_int (by rfl) T.z_int (by decide +kernel) (DE.dp (de_op op_fdiv rop_fdiv (dp_var 5) (DE.dp de_int))))) (DE.dp de_int))))))
 (dss_one (ds_ret (de_var 3)))))))), p__law_row⟩
theorem ok__law_box (T : Txt K mg) : FnOk P w K mg base CX0 2 T.f__law_box T.d__law_box ["_law_script", "_law_first", "_law_last"] (spF ⟨K, mg⟩ wf__law_box) :=
  fun_okD T.F__law_box sc__law_box len__law_box fun cdv A outer s H E hr => ⟨_, w__law_box, (dss_cons (ds_set (i := 3) sc__law_box.nd rfl (by first | exact Or.inl rfl | exact Or.inr rfl) (DF.de (df_lst da_nil)))
 (dss_cons (ds_for PassesOwn.never rfl (di_range2 (by rfl) T.z_range (da_cons (de_var 1) (da_cons (de_var 2) da_nil))) (dg_name (i := 4) sc__law_box.nd rfl (by first | exact Or.inl rfl | exact Or.inr rfl)) (dss_one (ds_set (i := 3) sc__law_box.nd rfl (by first | exact Or.inl rfl | exact Or.inr rfl) (de_op op_addU rop_add (dp_var 3) (DE.dp (de_call (ok__law_row T) (hr.mono (by decide)) (by rfl) T.m__law_row T.k__law_row T.b__law_row (das_cons (de_call (ok__law_cell T) (hr.mono (by decide)) (by rfl) T.m__law_cell T.k__law_cell T.b__law_cell (das_cons (de_var 0) (das_cons (de_var 4) das_nil))) (das_cons (de_var 4) (das_cons de_int das_nil)))))))))
 (dss_one (ds_ret (DF.de (df_lst (da_cons (de_var 3) (da_cons de_int da_nil)))))))), p__law_box⟩
theorem ok__law_draw (T : Txt K mg) : FnOk P w K mg base CX0 1 T.f__law_draw T.d__law_draw ["_law_box_here", "_law_many"] (spF ⟨K, mg⟩ wf__law_draw) :=
  fun_okD T.F__law_draw sc__law_draw len__law_draw fun cdv A outer s H E hr => ⟨_, w__law_draw, (dss_cons (ds_set (i := 2) sc__law_draw.nd rfl (by first | exact Or.inl rfl | exact Or.inr rfl) (de_bx1 0 (hu_of hr)))
 (dss_cons (ds_bxPut 0 (de_op op_addU rop_add (dp_var 2) (DE.dp de_int)))
 (dss_cons (ds_drawIf 0 2 1 (ds_if (dt_cmp op_lt rop_lt (dp_var 2) (DE.dp (de_b1 call_lenU ro1_len (by rfl) T.z_len (by decide +kernel) (DE.dp (de_bx0 0 (hu_of hr))))) (nomark _)) (dss_one (ds_ret (de_op op_mod rop_mod (DE.dp (de_t1 call_int1 ro1_int (by rfl) T.z_int (by decide +kernel) (DE.dp (de_ix (hu_of hr) (DE.dp (de_bx0 0 (hu_of hr))) (dp_var 2) (fun _ _ => rfl))))) (dp_var 1)))) dss_nil))
 (dss_one (ds_ret (de_op op_mod rop_mod (DE.dp (de_t1 call_int1 ro1_int (by rfl) T.z_int (by decide +kernel) (DE.dp (de_op op_addU rop_add (DE.dp (de_op op_mul rop_mul (dp_var 2) (DE.dp de_int))) (DE.dp de_int))))) (dp_var 1))))))), p__law_draw⟩
theorem ok__law_same (T : Txt K mg) : FnG P w K mg base 1 T.f__law_same T.d__law_same ["_law_one", "_law_other"] (spF ⟨K, mg⟩ wf__law_same) :=
  fun_okG T.F__law_same sc__law_same len__law_same fun cdv A outer s H hr hgd => ⟨_, w__law_same, (dss_one (ds_ret (de_cmp (op_eqU hr.units) rop_eq (DE.dp (de_b1 (call_repr hgd hr.units) ro1_repr (by rfl) T.z_repr (by decide +kernel) (dp_var 0))) (DE.dp (de_b1 (call_repr hgd hr.units) ro1_repr (by rfl) T.z_repr (by decide +kernel) (dp_var 1))) (nomark _)))), p__law_same⟩
theorem ok__law_facts (T : Txt K mg) : FnOk P w K mg base CX0 2 T.f__law_facts T.d__law_facts ["_law_box_here"] (spF ⟨K, mg⟩ wf__law_facts) :=
  fun_okD T.F__law_facts sc__law_facts len__law_facts fun cdv A outer s H E hr => ⟨_, w__law_facts, (dss_one (ds_ret (de_ix (hu_of hr) (DE.dp (DF.de (df_lst (da_cons (DF.de (df_lst (da_cons de_str da_nil))) (da_cons (DF.de (df_lst (da_cons de_str (da_cons de_str da_nil)))) (da_cons (DF.de (df_lst (da_cons de_str (da_cons de_str da_nil)))) (da_cons (DF.de (df_lst (da_cons de_str (da_cons de_str (da_cons de_str da_nil))))) da_nil))))))) (DE.dp (de_call (ok__law_draw T) (hr.mono (by decide)) (by rfl) T.m__law_draw T.k__law_draw T.b__law_draw (das_box 0 (das_cons de_int das_nil)))) (fun _ _ => rfl)))), p__law_facts⟩
theorem ok__law_machine (T : Txt K mg) : FnOk P w K mg base CX0 3 T.f__law_machine T.d__law_machine ["_law_box_here", "_law_facts_here", "_law_most"] (spF ⟨K, mg⟩ wf__law_machine) :=
  fun_okD T.F__law_machine sc__law_machine len__law_machine fun cdv A outer s H E hr => ⟨_, w__law_machine, (dss_cons (ds_set (i := 3) sc__law_machine.nd rfl (by first | exact Or.inl rfl | exact Or.inr rfl) (de_op op_addU rop_add (DE.dp de_int) (DE.dp (de_call (ok__law_draw T) (hr.mono (by decide)) (by rfl) T.m__law_draw T.k__law_draw T.b__law_draw (das_box 0 (das_cons (de_var 2) das_nil))))))
 (dss_cons (ds_setO (i := 4) sc__law_machine.nd rfl (by first | exact Or.inl rfl | exact Or.inr rfl) (df_lst da_nil))
 (dss_cons (ds_setO (i := 5) sc__law_machine.nd rfl (by first | exact Or.inl rfl | exact Or.inr rfl) (df_lst da_nil))
 (dss_cons (ds_for PassesOwn.never rfl (di_range1 (by rfl) T.z_range (da_cons (de_var 3) da_nil)) (dg_name (i := 6) sc__law_machine.nd rfl (by first | exact Or.inl rfl | exact Or.inr rfl)) (dss_cons (ds_append (i := 4) (de_t1 (call_dictU rfl) ro1_dict (by rfl) T.z_dict (by decide +kernel) (DE.dp (DF.de (df_lc (own := [("_law_fact", 7)]) rfl sc__law_machine.nd (di_list (de_var 1)) (blkOk_by (own := [("_law_fact", 7)]) (N := N__law_machine) (sc := defScope s__law_machine) (by decide +kernel)) (dg_name (i := 7) sc__law_machine.nd rfl (by first | exact Or.inl rfl | exact Or.inr rfl)) dts_nil (de_tup (da_cons (de_var 7) (da_cons (de_op op_mod rop_mod (DE.dp (de_t1 call_int1 ro1_int (by rfl) T.z_int (by decide +kernel) (DE.dp (de_call (ok__law_draw T) (hr.mono (by decide)) (by rfl) T.m__law_draw T.k__law_draw T.b__law_draw (das_box 0 (das_cons de_int das_nil)))))) (dp_var 3)) da_nil))) (fun _ _ _ _ _ => (dg_name (i := 7) sc__law_machine.nd rfl (by first | exact Or.inl rfl | exact Or.inr rfl))) (fun _ _ _ _ _ => dts_nil) (fun _ _ _ _ _ => (de_tup (da_cons (de_var 7) (da_cons (de_op op_mod rop_mod (DE.dp (de_t1 call_int1 ro1_int (by rfl) T.z_int (by decide +kernel) (DE.dp (de_call (ok__law_draw T) (hr.mono (by decide)) (by rfl) T.m__law_draw T.k__law_draw T.b__law_draw (das_box 0 (das_cons de_int das_nil)))))) (dp_var 3)) da_nil)))))))))
 (dss_one (ds_append (i := 5) (de_t1 (call_dictU rfl) ro1_dict (by rfl) T.z_dict (by decide +kernel) (DE.dp (DF.de (df_lc (own := [("_law_fact", 7)]) rfl sc__law_machine.nd (di_list (de_var 1)) (blkOk_by (own := [("_law_fact", 7)]) (N := N__law_machine) (sc := defScope s__law_machine) (by decide +kernel)) (dg_name (i := 7) sc__law_machine.nd rfl (by first | exact Or.inl rfl | exact Or.inr rfl)) dts_nil (de_tup (da_cons (de_var 7) (da_cons (de_ix (hu_of hr) (DE.dp (DF.de (df_lst (da_cons de_int (da_cons de_int (da_cons de_int (da_cons de_int (da_cons (de_un un_neg ro1_dNeg (DE.dp de_int)) (da_cons (de_un un_neg ro1_dNeg (DE.dp de_int)) (da_cons de_int da_nil)))))))))) (DE.dp (de_call (ok__law_draw T) (hr.mono (by decide)) (by rfl) T.m__law_draw T.k__law_draw T.b__law_draw (das_box 0 (das_cons de_int das_nil)))) (fun _ _ => rfl)) da_nil))) (fun _ _ _ _ _ => (dg_name (i := 7) sc__law_machine.nd rfl (by first | exact Or.inl rfl | exact Or.inr rfl))) (fun _ _ _ _ _ => dts_nil) (fun _ _ _ _ _ => (de_tup (da_cons (de_var 7) (da_cons (de_ix (hu_of hr) (DE.dp (DF.de (df_lst (da_cons de_int (da_cons de_int (da_cons de_int (da_cons de_int (da_cons (de_un un_neg ro1_dNeg (DE.dp de_int)) (da_cons (de_un un_neg ro1_dNeg (DE.dp de_int)) (da_cons de_int da_nil)))))))))) (DE.dp (de_call (ok__law_draw T) (hr.mono (by decide)) (by rfl) T.m__law_draw T.k__law_draw T.b__law_draw (das_box 0 (das_cons de_int das_nil)))) (fun _ _ => rfl)) da_nil))))))))))))
 (dss_one (ds_ret (de_make T.mk_Machine (ok_Machine_init T) (hr.mono (by decide)) (by rfl) T.M_Machine T.b_Machine_init (das_cons (de_var 1) (das_cons (de_var 4) (das_cons (de_var 5) (das_cons (DF.de (df_lc (own := [("_law_state", 6)]) rfl sc__law_machine.nd (di_range1 (by rfl) T.z_range (da_cons (de_var 3) da_nil)) (blkOk_by (own := [("_law_state", 6)]) (N := N__law_machine) (sc := defScope s__law_machine) (by decide +kernel)) (dg_name (i := 6) sc__law_machine.nd rfl (by first | exact Or.inl rfl | exact Or.inr rfl)) dts_nil (de_op op_sub rop_sub (DE.dp (de_call (ok__law_draw T) (hr.mono (by decide)) (by rfl) T.m__law_draw T.k__law_draw T.b__law_draw (das_box 0 (das_cons de_int das_nil)))) (DE.dp de_int)) (fun _ _ _ _ _ => (dg_name (i := 6) sc__law_machine.nd rfl (by first | exact Or.inl rfl | exact Or.inr rfl))) (fun _ _ _ _ _ => dts_nil) (fun _ _ _ _ _ => (de_op op_sub rop_sub (DE.dp (de_call (ok__law_draw T) (hr.mono (by decide)) (by rfl) T.m__law_draw T.k__law_draw T.b__law_draw (das_box 0 (das_cons de_int das_nil)))) (DE.dp de_int))))) das_nil))))))))))), p__law_machine⟩
theorem ok__law_carry (T : Txt K mg) : FnOk P w K mg base CX0 3 T.f__law_carry T.d__law_carry ["_law_box_here", "_law_machine_here", "_law_other"] (spF ⟨K, mg⟩ wf__law_carry) :=
  fun_okD T.F__law_carry sc__law_carry len__law_carry fun cdv A outer s H E hr => ⟨_, w__law_carry, (dss_cons (ds_set (i := 3) sc__law_carry.nd rfl (by first | exact Or.inl rfl | exact Or.inr rfl) (de_b1 call_lenU ro1_len (by rfl) T.z_len (by decide +kernel) (DE.dp (de_fld T.M_Machine T.L_Machine T.na_Machine_leave (dp_var 1)))))
 (dss_cons (ds_setLc (i := 4) (own := [("_law_state", 5)]) rfl sc__law_carry.nd rfl rfl (sw_true rfl rfl rfl (by decide +kernel)) (di_range1 (by rfl) T.z_range (da_cons (de_var 3) da_nil)) (blkOk_by (own := [("_law_state", 5)]) (N := N__law_carry) (sc := defScope s__law_carry) (by decide +kernel)) (dg_name (i := 5) sc__law_carry.nd rfl (by first | exact Or.inl rfl | exact Or.inr rfl)) dts_nil (de_op op_mod rop_mod (DE.dp (de_t1 call_int1 ro1_int (by rfl) T.z_int (by decide +kernel) (DE.dp (de_call (ok__law_draw T) (hr.mono (by decide)) (by rfl) T.m__law_draw T.k__law_draw T.b__law_draw (das_box 0 (das_cons de_int das_nil)))))) (DE.dp (de_b1 call_lenU ro1_len (by rfl) T.z_len (by decide +kernel) (DE.dp (de_fld T.M_Machine T.L_Machine T.na_Machine_leave (dp_var 2)))))) (fun _ _ _ _ _ => (dg_name (i := 5) sc__law_carry.nd rfl (by first | exact Or.inl rfl | exact Or.inr rfl))) (fun _ _ _ _ _ => dts_nil) (fun _ _ _ _ _ => (de_op op_mod rop_mod (DE.dp (de_t1 call_int1 ro1_int (by rfl) T.z_int (by decide +kernel) (DE.dp (de_call (ok__law_draw T) (hr.mono (by decide)) (by rfl) T.m__law_draw T.k__law_draw T.b__law_draw (das_box 0 (das_cons de_int das_nil)))))) (DE.dp (de_b1 call_lenU ro1_len (by rfl) T.z_len (by decide +kernel) (DE.dp (de_fld T.M_Machine T.L_Machine T.na_Machine_leave (dp_var 2))))))))
 (dss_one (ds_ret (de_make T.mk_Carry (ok_Carry_init T) (hr.mono (by decide)) (by rfl) T.M_Carry T.b_Carry_init (das_cons (de_var 4) (das_cons (DF.de (df_lc (own := [("_law_state", 5)]) rfl sc__law_carry.nd (di_range1 (by rfl) T.z_range (da_cons (de_var 3) da_nil)) (blkOk_by (own := [("_law_state", 5)]) (N := N__law_carry) (sc := defScope s__law_carry) (by decide +kernel)) (dg_name (i := 5) sc__law_carry.nd rfl (by first | exact Or.inl rfl | exact Or.inr rfl)) dts_nil (de_op op_sub rop_sub (DE.dp (de_call (ok__law_draw T) (hr.mono (by decide)) (by rfl) T.m__law_draw T.k__law_draw T.b__law_draw (das_box 0 (das_cons de_int das_nil)))) (DE.dp de_int)) (fun _ _ _ _ _ => (dg_name (i := 5) sc__law_carry.nd rfl (by first | exact Or.inl rfl | exact Or.inr rfl))) (fun _ _ _ _ _ => dts_nil) (fun _ _ _ _ _ => (de_op op_sub rop_sub (DE.dp (de_call (ok__law_draw T) (hr.mono (by decide)) (by rfl) T.m__law_draw T.k__law_draw T.b__law_draw (das_box 0 (das_cons de_int das_nil)))) (DE.dp de_int))))) das_nil))))))), p__law_carry⟩
theorem ok__law_met (T : Txt K mg) : FnOk P w K mg base CX0 1 T.f__law_met T.d__law_met ["_law_machine_here", "_law_other", "_law_begins"] (spF ⟨K, mg⟩ wf__law_met) :=
  fun_okD T.F__law_met sc__law_met len__law_met fun cdv A outer s H E hr => ⟨_, w__law_met, (dss_cons (ds_setO (i := 3) sc__law_met.nd rfl (by first | exact Or.inl rfl | exact Or.inr rfl) (df_lst da_nil))
 (dss_cons (ds_for PassesOwn.never rfl (di_list (de_var 2)) (dg_name (i := 4) sc__law_met.nd rfl (by first | exact Or.inl rfl | exact Or.inr rfl)) (dss_one (ds_if (dt_cmp (op_notInU (hu65 hr)) rop_notIn (dp_var 4) (dp_var 3) (by rfl)) (dss_one (ds_append (i := 3) (de_var 4))) dss_nil)))
 (dss_cons (ds_set (i := 5) sc__law_met.nd rfl (by first | exact Or.inl rfl | exact Or.inr rfl) de_int)
 (dss_cons (ds_while PassesOwn.never (dt_cmp op_lt rop_lt (dp_var 5) (DE.dp (de_b1 call_lenU ro1_len (by rfl) T.z_len (by decide +kernel) (dp_var 3))) (nomark _)) (dss_cons (ds_for PassesOwn.never rfl (di_list (de_fld T.M_Machine T.L_Machine T.na_Machine_facts (dp_var 0))) (dg_name (i := 7) sc__law_met.nd rfl (by first | exact Or.inl rfl | exact Or.inr rfl)) (dss_cons (ds_set (i := 6) sc__law_met.nd rfl (by first | exact Or.inl rfl | exact Or.inr rfl) (de_tup (da_cons (de_ix (hu_of hr) (DE.dp (de_ix (hu_of hr) (DE.dp (de_fld T.M_Machine T.L_Machine T.na_Machine_step (dp_var 0))) (DE.dp (de_ix (hu_of hr) (DE.dp (de_ix (hu_of hr) (dp_var 3) (dp_var 5) (fun _ _ => rfl))) (DE.dp de_int) (fun _ _ => rfl))) (fun _ _ => rfl))) (dp_var 7) (fun _ _ => rfl)) (da_cons (de_ix (hu_of hr) (DE.dp (de_ix (hu_of hr) (DE.dp (de_fld T.M_Machine T.L_Machine T.na_Machine_step (dp_var 1))) (DE.dp (de_ix (hu_of hr) (DE.dp (de_ix (hu_of hr) (dp_var 3) (dp_var 5) (fun _ _ => rfl))) (DE.dp de_int) (fun _ _ => rfl))) (fun _ _ => rfl))) (dp_var 7) (fun _ _ => rfl)) da_nil))))
 (dss_one (ds_if (dt_cmp (op_notInU (hu65 hr)) rop_notIn (dp_var 6) (dp_var 3) (by rfl)) (dss_one (ds_append (i := 3) (de_var 6))) dss_nil))))
 (dss_one (ds_set (i := 5) sc__law_met.nd rfl (by first | exact Or.inl rfl | exact Or.inr rfl) (de_op op_addU rop_add (dp_var 5) (DE.dp de_int))))))
 (dss_one (ds_ret (de_var 3))))))), p__law_met⟩
theorem ok__law_come (T : Txt K mg) : FnOk P w K mg base CX0 1 T.f__law_come T.d__law_come ["_law_machine_here"] (spF ⟨K, mg⟩ wf__law_come) :=
  fun_okD T.F__law_come sc__law_come len__law_come fun cdv A outer s H E hr => ⟨_, w__law_come, (dss_cons (ds_setO (i := 1) sc__law_come.nd rfl (by first | exact Or.inl rfl | exact Or.inr rfl) (df_disp1 de_int (DF.de (df_lst da_nil))))
 (dss_cons (ds_setO (i := 2) sc__law_come.nd rfl (by first | exact Or.inl rfl | exact Or.inr rfl) (df_lst (da_cons de_int da_nil)))
 (dss_cons (ds_while PassesOwn.never (dt_truth (dp_var 2) (fun _ => rfl)) (dss_cons (ds_set (i := 3) sc__law_come.nd rfl (by first | exact Or.inl rfl | exact Or.inr rfl) (de_ix (hu_of hr) (dp_var 2) (DE.dp de_int) (fun _ _ => rfl)))
 (dss_cons (ds_setO (i := 2) sc__law_come.nd rfl (by first | exact Or.inl rfl | exact Or.inr rfl) (df_cut (dp_var 2) (do_some de_int) do_none))
 (dss_one (ds_for PassesOwn.never rfl (di_list (de_fld T.M_Machine T.L_Machine T.na_Machine_facts (dp_var 0))) (dg_name (i := 5) sc__law_come.nd rfl (by first | exact Or.inl rfl | exact Or.inr rfl)) (dss_cons (ds_set (i := 4) sc__law_come.nd rfl (by first | exact Or.inl rfl | exact Or.inr rfl) (de_ix (hu_of hr) (DE.dp (de_ix (hu_of hr) (DE.dp (de_fld T.M_Machine T.L_Machine T.na_Machine_step (dp_var 0))) (dp_var 3) (fun _ _ => rfl))) (dp_var 5) (fun _ _ => rfl)))
 (dss_one (ds_if (dt_cmp (op_notInU (hu65 hr)) rop_notIn (dp_var 4) (dp_var 1) (by rfl)) (dss_cons (ds_put 1 (hu_of hr) (de_var 4) (de_op op_addU rop_add (DE.dp (de_ix (hu_of hr) (dp_var 1) (dp_var 3) (fun _ _ => rfl))) (DE.dp (DF.de (df_lst (da_cons (de_var 5) da_nil))))))
 (dss_one (ds_append (i := 2) (de_var 4)))) dss_nil))))))))
 (dss_one (ds_ret (de_var 1)))))), p__law_come⟩
theorem ok__law_ahead (T : Txt K mg) : FnOk P w K mg base CX0 1 T.f__law_ahead T.d__law_ahead ["_law_machine_here", "_law_other", "_law_pair", "_law_fact"] (spF ⟨K, mg⟩ wf__law_ahead) :=
  fun_okD T.F__law_ahead sc__law_ahead len__law_ahead fun cdv A outer s H E hr => ⟨_, w__law_ahead, (dss_one (ds_ret (de_op op_sub rop_sub (DE.dp (de_ix (hu_of hr) (DE.dp (de_ix (hu_of hr) (DE.dp (de_fld T.M_Machine T.L_Machine T.na_Machine_gain (dp_var 0))) (DE.dp (de_ix (hu_of hr) (dp_var 2) (DE.dp de_int) (fun _ _ => rfl))) (fun _ _ => rfl))) (dp_var 3) (fun _ _ => rfl))) (DE.dp (de_ix (hu_of hr) (DE.dp (de_ix (hu_of hr) (DE.dp (de_fld T.M_Machine T.L_Machine T.na_Machine_gain (dp_var 1))) (DE.dp (de_ix (hu_of hr) (dp_var 2) (DE.dp de_int) (fun _ _ => rfl))) (fun _ _ => rfl))) (dp_var 3) (fun _ _ => rfl)))))), p__law_ahead⟩
theorem ok__law_after (T : Txt K mg) : FnOk P w K mg base CX0 1 T.f__law_after T.d__law_after ["_law_machine_here", "_law_other", "_law_pair", "_law_fact"] (spF ⟨K, mg⟩ wf__law_after) :=
  fun_okD T.F__law_after sc__law_after len__law_after fun cdv A outer s H E hr => ⟨_, w__law_after, (dss_one (ds_ret (de_tup (da_cons (de_ix (hu_of hr) (DE.dp (de_ix (hu_of hr) (DE.dp (de_fld T.M_Machine T.L_Machine T.na_Machine_step (dp_var 0))) (DE.dp (de_ix (hu_of hr) (dp_var 2) (DE.dp de_int) (fun _ _ => rfl))) (fun _ _ => rfl))) (dp_var 3) (fun _ _ => rfl)) (da_cons (de_ix (hu_of hr) (DE.dp (de_ix (hu_of hr) (DE.dp (de_fld T.M_Machine T.L_Machine T.na_Machine_step (dp_var 1))) (DE.dp (de_ix (hu_of hr) (dp_var 2) (DE.dp de_int) (fun _ _ => rfl))) (fun _ _ => rfl))) (dp_var 3) (fun _ _ => rfl)) da_nil))))), p__law_after⟩

theorem ok_check_facts_rz (T : Txt K mg) : FnOk P w K mg base (L2.CX P w) 1 T.f_check_facts T.d_check_facts ["machine", "other"] (spRz ⟨K, mg⟩ T.C_UnlikeFacts wz_facts) :=
  fun_rz T.F_check_facts sc_check_facts lz_facts fun cdv A outer s H E hr => ⟨_, _, _, _, _, rfl, (dt_cmp (op_neU hr.units) rop_ne (DE.dp (de_fld T.M_Machine T.L_Machine T.na_Machine_facts (dp_var 0))) (DE.dp (de_fld T.M_Machine T.L_Machine T.na_Machine_facts (dp_var 1))) (nomark _)),
    ps_raise rfl (takes_of rfl rfl rfl rfl) (pmk_own0 PySem.F.excBase_ValueError T.ex_UnlikeFacts T.M_UnlikeFacts T.kp_UnlikeFacts (raises_own T.sb_UnlikeFacts T.ty_UnlikeFacts) (by rfl)), pz_facts⟩
theorem ok_Pairs_initRz (T : Txt K mg) : FnOk P w K mg base (L2.CX P w) 3 T.f_Pairs_init T.d_Pairs_init ["self", "machine", "other", "begins"] (spOz ⟨K, mg⟩ T.C_UnlikeFacts wz_init) :=
  fun_initRz (wf2 := wz_facts) T.F_Pairs_init sc_Pairs_init lz_init fun cdv A outer s H E hr => ⟨_, _, _, _, _, _, rfl, rfl, das_cons (de_var 1) (das_cons (de_var 2) das_nil), fun ha => pe_call (ok_check_facts_rz T) (hr.mono (by decide)) (by rfl) T.m_check_facts T.k_check_facts T.b_check_facts .nil (passes_call (takes_of rfl rfl rfl rfl) (fun cls d σ H h => h)) ha, pz_init⟩
theorem ok__law_refused1 (T : Txt K mg) : FnOk P w K mg base CX0 5 T.f__law_refused T.d__law_refused ["_law_machine_here", "_law_other"] (spF ⟨K, mg⟩ wf__law_refused1) :=
  fun_okD T.F__law_refused sc__law_refused len__law_refused1 fun cdv A outer s H E hr => ⟨_, w__law_refused1, (dss_cons (ds_try0 (dss_one (ds_expr (de_make T.mk_Pairs (ok_Pairs_init T) (hr.mono (by omega)) (by rfl) T.M_Pairs T.b_Pairs_init (das_cons (de_var 0) (das_cons (de_var 1) (das_cons (DF.de (df_lst (da_cons (de_tup (da_cons de_int (da_cons de_int da_nil))) da_nil))) das_nil)))))))
 (dss_one (ds_ret de_bl))), p__law_refused1⟩
theorem ok__law_refused2 (T : Txt K mg) : FnOk P w K mg base CX0 5 T.f__law_refused T.d__law_refused ["_law_machine_here", "_law_other"] (spF ⟨K, mg⟩ wf__law_refused2) :=
  fun_okD T.F__law_refused sc__law_refused len__law_refused2 fun cdv A outer s H E hr => ⟨_, w__law_refused2, (dss_cons (ds_tryTrue rfl rfl ⟨by rfl, by decide, .inl T.M_UnlikeFacts⟩ T.em_UnlikeFacts T.M_Pairs
    (das_cons (de_var 0) (das_cons (de_var 1) (das_cons (DF.de (df_lst (da_cons (de_tup (da_cons de_int (da_cons de_int da_nil))) da_nil))) das_nil)))
    (fun W pn xe tk => pe_make T.mk_Pairs (ok_Pairs_initRz T) (hr.mono (by decide)) (by rfl) T.M_Pairs T.b_Pairs_init .nil (passes_call tk (fun cls d σ H h => h σ))
      (das_cons (de_var 0) (das_cons (de_var 1) (das_cons (DF.de (df_lst (da_cons (de_tup (da_cons de_int (da_cons de_int da_nil))) da_nil))) das_nil))).pe)) (dss_one (ds_ret de_bl))), p__law_refused2⟩
theorem ok__law_refused (T : Txt K mg) : FnOk P w K mg base CX0 5 T.f__law_refused T.d__law_refused ["_law_machine_here", "_law_other"] (spF ⟨K, mg⟩ wf__law_refused) := FnOk.cases (ok__law_refused1 T) (ok__law_refused2 T) fun _ _ h => h
theorem ok_law (T : Txt K mg) : FnG P w K mg base 6 T.f_law T.d_law ["_law_script"] (spLaw K) :=
  law_boxE T.F_law sc_law (i := 1) (n := 16) rfl (by decide) rfl fun cdv A outer s H hr hgd => ⟨_, w_law0, _, w_law1, (de_call (ok__law_box T) (hr.mono (by decide)) (by rfl) T.m__law_box T.k__law_box T.b__law_box (das_cons (de_var 0) (das_cons de_int (das_cons de_int das_nil)))), (dss_cons (ds_set (i := 2) sc_law.nd rfl (by first | exact Or.inl rfl | exact Or.inr rfl) (de_call (ok__law_facts T) (hr.mono (by decide)) (by rfl) T.m__law_facts T.k__law_facts T.b__law_facts (das_box 1 das_nil)))
 (dss_cons (ds_set (i := 3) sc_law.nd rfl (by first | exact Or.inl rfl | exact Or.inr rfl) (de_call (ok__law_machine T) (hr.mono (by decide)) (by rfl) T.m__law_machine T.k__law_machine T.b__law_machine (das_box 1 (das_cons (de_var 2) (das_cons de_int das_nil)))))
 (dss_cons (ds_set (i := 4) sc_law.nd rfl (by first | exact Or.inl rfl | exact Or.inr rfl) (de_call (ok__law_machine T) (hr.mono (by decide)) (by rfl) T.m__law_machine T.k__law_machine T.b__law_machine (das_box 1 (das_cons (de_var 2) (das_cons de_int das_nil)))))
 (dss_cons (ds_set (i := 5) sc_law.nd rfl (by first | exact Or.inl rfl | exact Or.inr rfl) (de_call (ok__law_carry T) (hr.mono (by decide)) (by rfl) T.m__law_carry T.k__law_carry T.b__law_carry (das_box 1 (das_cons (de_var 3) (das_cons (de_var 4) das_nil)))))
 (dss_cons (ds_set (i := 6) sc_law.nd rfl (by first | exact Or.inl rfl | exact Or.inr rfl) (de_call (ok__law_come T) (hr.mono (by decide)) (by rfl) T.m__law_come T.k__law_come T.b__law_come (das_cons (de_var 3) das_nil)))
 (dss_cons (ds_setLc (i := 7) (own := [("_law_state", 15)]) rfl sc_law.nd rfl rfl (sw_true rfl rfl rfl (by decide +kernel)) (di_range1 (by rfl) T.z_range (da_cons (de_b1 call_lenU ro1_len (by rfl) T.z_len (by decide +kernel) (DE.dp (de_fld T.M_Machine T.L_Machine T.na_Machine_leave (dp_var 3)))) da_nil)) (blkOk_by (own := [("_law_state", 15)]) (N := N_law) (sc := defScope s_law) (by decide +kernel)) (dg_name (i := 15) sc_law.nd rfl (by first | exact Or.inl rfl | exact Or.inr rfl)) dts_nil (de_get1 (hu_of hr) (dp_var 6) (dp_var 15) ⟨rfl, rfl, rfl, rfl⟩) (fun _ _ _ _ _ => (dg_name (i := 15) sc_law.nd rfl (by first | exact Or.inl rfl | exact Or.inr rfl))) (fun _ _ _ _ _ => dts_nil) (fun _ _ _ _ _ => (de_get1 (hu_of hr) (dp_var 6) (dp_var 15) ⟨rfl, rfl, rfl, rfl⟩)))
 (dss_cons (ds_if (DWt.dt (dw_or (dt_not (dt_val (de_callG (ok__law_same T) (hr.mono (by decide)) hgd (by rfl) T.m__law_same T.k__law_same T.b__law_same (das_cons (de_call (ok_first_careers T) (hr.mono (by decide)) (by rfl) T.m_first_careers T.k_first_careers T.b_first_careers (das_cons (de_var 3) das_nil)) (das_cons (de_var 7) das_nil))) (fun _ => rfl))) (dw_or1 (dt_not (dt_val (de_callG (ok__law_same T) (hr.mono (by decide)) hgd (by rfl) T.m__law_same T.k__law_same T.b__law_same (das_cons (de_call (ok_left_from T) (hr.mono (by decide)) (by rfl) T.m_left_from T.k_left_from T.b_left_from (das_cons (de_var 3) das_nil)) (das_cons (de_b1 (call_sortedDI rfl) ro1_sortDI (by rfl) T.z_sorted (by decide +kernel) (dp_var 6)) das_nil))) (fun _ => rfl)))))) (dss_one (ds_ret de_bl)) dss_nil)
 (dss_cons (ds_setLc (i := 8) (own := [("_law_turn", 16)]) rfl sc_law.nd rfl rfl (sw_true rfl rfl rfl (by decide +kernel)) (di_range1 (by rfl) T.z_range (da_cons (de_op op_addU rop_add (DE.dp de_int) (DE.dp (de_call (ok__law_draw T) (hr.mono (by decide)) (by rfl) T.m__law_draw T.k__law_draw T.b__law_draw (das_box 1 (das_cons de_int das_nil))))) da_nil)) (blkOk_by (own := [("_law_turn", 16)]) (N := N_law) (sc := defScope s_law) (by decide +kernel)) (dg_name (i := 16) sc_law.nd rfl (by first | exact Or.inl rfl | exact Or.inr rfl)) dts_nil (de_tup (da_cons (de_op op_mod rop_mod (DE.dp (de_t1 call_int1 ro1_int (by rfl) T.z_int (by decide +kernel) (DE.dp (de_call (ok__law_draw T) (hr.mono (by decide)) (by rfl) T.m__law_draw T.k__law_draw T.b__law_draw (das_box 1 (das_cons de_int das_nil)))))) (DE.dp (de_b1 call_lenU ro1_len (by rfl) T.z_len (by decide +kernel) (DE.dp (de_fld T.M_Machine T.L_Machine T.na_Machine_leave (dp_var 3)))))) (da_cons (de_op op_mod rop_mod (DE.dp (de_t1 call_int1 ro1_int (by rfl) T.z_int (by decide +kernel) (DE.dp (de_call (ok__law_draw T) (hr.mono (by decide)) (by rfl) T.m__law_draw T.k__law_draw T.b__law_draw (das_box 1 (das_cons de_int das_nil)))))) (DE.dp (de_b1 call_lenU ro1_len (by rfl) T.z_len (by decide +kernel) (DE.dp (de_fld T.M_Machine T.L_Machine T.na_Machine_leave (dp_var 4)))))) da_nil))) (fun _ _ _ _ _ => (dg_name (i := 16) sc_law.nd rfl (by first | exact Or.inl rfl | exact Or.inr rfl))) (fun _ _ _ _ _ => dts_nil) (fun _ _ _ _ _ => (de_tup (da_cons (de_op op_mod rop_mod (DE.dp (de_t1 call_int1 ro1_int (by rfl) T.z_int (by decide +kernel) (DE.dp (de_call (ok__law_draw T) (hr.mono (by decide)) (by rfl) T.m__law_draw T.k__law_draw T.b__law_draw (das_box 1 (das_cons de_int das_nil)))))) (DE.dp (de_b1 call_lenU ro1_len (by rfl) T.z_len (by decide +kernel) (DE.dp (de_fld T.M_Machine T.L_Machine T.na_Machine_leave (dp_var 3)))))) (da_cons (de_op op_mod rop_mod (DE.dp (de_t1 call_int1 ro1_int (by rfl) T.z_int (by decide +kernel) (DE.dp (de_call (ok__law_draw T) (hr.mono (by decide)) (by rfl) T.m__law_draw T.k__law_draw T.b__law_draw (das_box 1 (das_cons de_int das_nil)))))) (DE.dp (de_b1 call_lenU ro1_len (by rfl) T.z_len (by decide +kernel) (DE.dp (de_fld T.M_Machine T.L_Machine T.na_Machine_leave (dp_var 4)))))) da_nil)))))
 (dss_cons (ds_for PassesOwn.never rfl (di_list (DF.de (df_lst (da_cons (de_tup (da_cons (de_make T.mk_Pairs (ok_Pairs_init T) (hr.mono (by decide)) (by rfl) T.M_Pairs T.b_Pairs_init (das_cons (de_var 3) (das_cons (de_var 4) (das_cons (de_op op_addU rop_add (dp_var 8) (DE.dp (de_cut (dp_var 8) do_none (do_some de_int)))) das_nil)))) (da_cons (de_var 8) da_nil))) (da_cons (de_tup (da_cons (de_call (ok_moved_pairs T) (hr.mono (by decide)) (by rfl) T.m_moved_pairs T.k_moved_pairs T.b_moved_pairs (das_cons (de_var 3) (das_cons (de_var 4) (das_cons (de_var 5) das_nil)))) (da_cons (DF.de (df_lc (own := [("_law_state", 15)]) rfl sc_law.nd (di_list (de_b1 (call_sortedDI rfl) ro1_sortDI (by rfl) T.z_sorted (by decide +kernel) (dp_var 6))) (blkOk_by (own := [("_law_state", 15)]) (N := N_law) (sc := defScope s_law) (by decide +kernel)) (dg_name (i := 15) sc_law.nd rfl (by first | exact Or.inl rfl | exact Or.inr rfl)) dts_nil (de_tup (da_cons (de_var 15) (da_cons (de_ix (hu_of hr) (DE.dp (de_fld T.M_Carry T.L_Carry T.na_Carry_to (dp_var 5))) (dp_var 15) (fun _ _ => rfl)) da_nil))) (fun _ _ _ _ _ => (dg_name (i := 15) sc_law.nd rfl (by first | exact Or.inl rfl | exact Or.inr rfl))) (fun _ _ _ _ _ => dts_nil) (fun _ _ _ _ _ => (de_tup (da_cons (de_var 15) (da_cons (de_ix (hu_of hr) (DE.dp (de_fld T.M_Carry T.L_Carry T.na_Carry_to (dp_var 5))) (dp_var 15) (fun _ _ => rfl)) da_nil)))))) da_nil))) da_nil))))) (dg_tup [13, 14] rfl (gs_cons (i := 13) sc_law.nd rfl (by first | exact Or.inl rfl | exact Or.inr rfl) (gs_cons (i := 14) sc_law.nd rfl (by first | exact Or.inl rfl | exact Or.inr rfl) gs_nil))) (dss_cons (ds_set (i := 9) sc_law.nd rfl (by first | exact Or.inl rfl | exact Or.inr rfl) (de_call (ok__law_met T) (hr.mono (by decide)) (by rfl) T.m__law_met T.k__law_met T.b__law_met (das_cons (de_var 3) (das_cons (de_var 4) (das_cons (de_var 14) das_nil)))))
 (dss_cons (ds_if (DWt.dt (dw_or (dt_not (dt_val (de_callG (ok__law_same T) (hr.mono (by decide)) hgd (by rfl) T.m__law_same T.k__law_same T.b__law_same (das_cons (de_fld T.M_Pairs T.L_Pairs T.na_Pairs_pairs (dp_var 13)) (das_cons (de_var 9) das_nil))) (fun _ => rfl))) (dw_or (dt_not (dt_val (de_callG (ok__law_same T) (hr.mono (by decide)) hgd (by rfl) T.m__law_same T.k__law_same T.b__law_same (das_cons (de_meth0 (ok_Pairs_many T) (hr.mono (by decide)) T.M_Pairs T.L_Pairs T.me_Pairs_many T.b_Pairs_many (de_var 13)) (das_cons (de_b1 call_lenU ro1_len (by rfl) T.z_len (by decide +kernel) (dp_var 9)) das_nil))) (fun _ => rfl))) (dw_or1 (dt_not (dt_val (de_callG (ok__law_same T) (hr.mono (by decide)) hgd (by rfl) T.m__law_same T.k__law_same T.b__law_same (das_cons (de_fld T.M_Pairs T.L_Pairs T.na_Pairs_facts (dp_var 13)) (das_cons (de_var 2) das_nil))) (fun _ => rfl))))))) (dss_one (ds_ret de_bl)) dss_nil)
 (dss_one (ds_for PassesOwn.never rfl (di_range1 (by rfl) T.z_range (da_cons (de_b1 call_lenU ro1_len (by rfl) T.z_len (by decide +kernel) (dp_var 9)) da_nil)) (dg_name (i := 12) sc_law.nd rfl (by first | exact Or.inl rfl | exact Or.inr rfl)) (dss_cons (ds_set (i := 10) sc_law.nd rfl (by first | exact Or.inl rfl | exact Or.inr rfl) (de_ix (hu_of hr) (dp_var 9) (dp_var 12) (fun _ _ => rfl)))
 (dss_cons (ds_if (DWt.dt (dw_or (dt_cmp (op_neU hr.units) rop_ne (DE.dp (de_ix (hu_of hr) (DE.dp (de_fld T.M_Pairs T.L_Pairs T.na_Pairs_places (dp_var 13))) (dp_var 10) (fun _ _ => rfl))) (dp_var 12) (nomark _)) (dw_or1 (dt_cmp (op_neU hr.units) rop_ne (DE.dp (de_ix (hu_of hr) (DE.dp (de_fld T.M_Pairs T.L_Pairs T.na_Pairs_end (dp_var 13))) (dp_var 12) (fun _ _ => rfl))) (DE.dp (de_op op_sub rop_sub (DE.dp (de_ix (hu_of hr) (DE.dp (de_fld T.M_Machine T.L_Machine T.na_Machine_leave (dp_var 3))) (DE.dp (de_ix (hu_of hr) (dp_var 10) (DE.dp de_int) (fun _ _ => rfl))) (fun _ _ => rfl))) (DE.dp (de_ix (hu_of hr) (DE.dp (de_fld T.M_Machine T.L_Machine T.na_Machine_leave (dp_var 4))) (DE.dp (de_ix (hu_of hr) (dp_var 10) (DE.dp de_int) (fun _ _ => rfl))) (fun _ _ => rfl))))) (nomark _))))) (dss_one (ds_ret de_bl)) dss_nil)
 (dss_one (ds_for PassesOwn.never rfl (di_list (de_var 2)) (dg_name (i := 11) sc_law.nd rfl (by first | exact Or.inl rfl | exact Or.inr rfl)) (dss_cons (ds_if (dt_cmp (op_neU hr.units) rop_ne (DE.dp (de_ix (hu_of hr) (DE.dp (de_ix (hu_of hr) (DE.dp (de_fld T.M_Pairs T.L_Pairs T.na_Pairs_gain (dp_var 13))) (dp_var 12) (fun _ _ => rfl))) (dp_var 11) (fun _ _ => rfl))) (DE.dp (de_call (ok__law_ahead T) (hr.mono (by decide)) (by rfl) T.m__law_ahead T.k__law_ahead T.b__law_ahead (das_cons (de_var 3) (das_cons (de_var 4) (das_cons (de_var 10) (das_cons (de_var 11) das_nil)))))) (nomark _)) (dss_one (ds_ret de_bl)) dss_nil)
 (dss_one (ds_if (dt_cmp (op_neU hr.units) rop_ne (DE.dp (de_ix (hu_of hr) (dp_var 9) (DE.dp (de_ix (hu_of hr) (DE.dp (de_ix (hu_of hr) (DE.dp (de_fld T.M_Pairs T.L_Pairs T.na_Pairs_step (dp_var 13))) (dp_var 12) (fun _ _ => rfl))) (dp_var 11) (fun _ _ => rfl))) (fun _ _ => rfl))) (DE.dp (de_call (ok__law_after T) (hr.mono (by decide)) (by rfl) T.m__law_after T.k__law_after T.b__law_after (das_cons (de_var 3) (das_cons (de_var 4) (das_cons (de_var 10) (das_cons (de_var 11) das_nil)))))) (nomark _)) (dss_one (ds_ret de_bl)) dss_nil))))))))))))
 (dss_one (ds_ret (de_and (de_call (ok__law_refused T) (hr.mono (by decide)) (by rfl) T.m__law_refused T.k__law_refused T.b__law_refused (das_cons (de_var 3) (das_cons (de_call (ok__law_machine T) (hr.mono (by decide)) (by rfl) T.m__law_machine T.k__law_machine T.b__law_machine (das_box 1 (das_cons (de_op op_addU rop_add (DE.dp (DF.de (df_lst (da_cons de_str da_nil)))) (dp_var 2)) (das_cons de_int das_nil)))) das_nil))) (de_one (de_not (de_call (ok__law_refused T) (hr.mono (by decide)) (by rfl) T.m__law_refused T.k__law_refused T.b__law_refused (das_cons (de_var 3) (das_cons (de_var 4) das_nil))))))))))))))))), fun p q => pss_cons (ps_set (i := 1) sc_law.nd rfl (by first | exact Or.inl rfl | exact Or.inr rfl) p) q, p_law0, p_law1⟩
end
theorem all_mk {l : PySem.W.OpenLaw} {w : World} {K : PySem.W.Frag} {h : Heap} {mg : Str → Option Value} {fa : Addr} (X : K.In h) (G : h.Ns mainGlobals mg) (hfa : mg "law" = some (.ref fa))
    {C_Carry : Addr}
    {C_Machine : Addr}
    {C_Pairs : Addr}
    {C_UnlikeFacts : Addr}
    {od0 an0 : Option Addr} {sl0 : Array (Option Value)} {oc0 kV0 dc0 pm0 cd0 ct0 : Value} {f0 : Addr}
    {od1 an1 : Option Addr} {sl1 : Array (Option Value)} {oc1 kV1 dc1 pm1 cd1 ct1 : Value} {f1 : Addr}
    {od2 an2 : Option Addr} {sl2 : Array (Option Value)} {oc2 kV2 dc2 pm2 cd2 ct2 : Value} {f2 : Addr}
    {od3 an3 : Option Addr} {sl3 : Array (Option Value)} {oc3 kV3 dc3 pm3 cd3 ct3 : Value} {f3 : Addr}
    {od4 an4 : Option Addr} {sl4 : Array (Option Value)} {oc4 kV4 dc4 pm4 cd4 ct4 : Value} {f4 : Addr}
    {od5 an5 : Option Addr} {sl5 : Array (Option Value)} {oc5 kV5 dc5 pm5 cd5 ct5 : Value} {f5 : Addr}
    {od6 an6 : Option Addr} {sl6 : Array (Option Value)} {oc6 kV6 dc6 pm6 cd6 ct6 : Value} {f6 : Addr}
    {od7 an7 : Option Addr} {sl7 : Array (Option Value)} {oc7 kV7 dc7 pm7 cd7 ct7 : Value} {f7 : Addr}
    {od8 an8 : Option Addr} {sl8 : Array (Option Value)} {oc8 kV8 dc8 pm8 cd8 ct8 : Value} {f8 : Addr}
    {od9 an9 : Option Addr} {sl9 : Array (Option Value)} {oc9 kV9 dc9 pm9 cd9 ct9 : Value} {f9 : Addr}
    {od10 an10 : Option Addr} {sl10 : Array (Option Value)} {oc10 kV10 dc10 pm10 cd10 ct10 : Value} {f10 : Addr}
    {od11 an11 : Option Addr} {sl11 : Array (Option Value)} {oc11 kV11 dc11 pm11 cd11 ct11 : Value} {f11 : Addr}
    {od12 an12 : Option Addr} {sl12 : Array (Option Value)} {oc12 kV12 dc12 pm12 cd12 ct12 : Value} {f12 : Addr}
    {od13 an13 : Option Addr} {sl13 : Array (Option Value)} {oc13 kV13 dc13 pm13 cd13 ct13 : Value} {f13 : Addr}
    {od14 an14 : Option Addr} {sl14 : Array (Option Value)} {oc14 kV14 dc14 pm14 cd14 ct14 : Value} {f14 : Addr}
    {od15 an15 : Option Addr} {sl15 : Array (Option Value)} {oc15 kV15 dc15 pm15 cd15 ct15 : Value} {f15 : Addr}
    {od16 an16 : Option Addr} {sl16 : Array (Option Value)} {oc16 kV16 dc16 pm16 cd16 ct16 : Value} {f16 : Addr}
    {od17 an17 : Option Addr} {sl17 : Array (Option Value)} {oc17 kV17 dc17 pm17 cd17 ct17 : Value} {f17 : Addr}
    {od18 an18 : Option Addr} {sl18 : Array (Option Value)} {oc18 kV18 dc18 pm18 cd18 ct18 : Value} {f18 : Addr}
    {od19 an19 : Option Addr} {sl19 : Array (Option Value)} {oc19 kV19 dc19 pm19 cd19 ct19 : Value} {f19 : Addr}
    {od20 an20 : Option Addr} {sl20 : Array (Option Value)} {oc20 kV20 dc20 pm20 cd20 ct20 : Value} {f20 : Addr}
    {od21 an21 : Option Addr} {sl21 : Array (Option Value)} {oc21 kV21 dc21 pm21 cd21 ct21 : Value} {f21 : Addr}
    {od22 an22 : Option Addr} {sl22 : Array (Option Value)} {oc22 kV22 dc22 pm22 cd22 ct22 : Value} {f22 : Addr}
    {od23 an23 : Option Addr} {sl23 : Array (Option Value)} {oc23 kV23 dc23 pm23 cd23 ct23 : Value} {f23 : Addr}
    {od24 an24 : Option Addr} {sl24 : Array (Option Value)} {oc24 kV24 dc24 pm24 cd24 ct24 : Value} {f24 : Addr}
    (aC_Carry : PySem.W.nsIn K mainGlobals "Carry" = some (some (.ref C_Carry))) (pg_Carry : PySem.W.plainGet K C_Carry Str.empty = true) (hd_Carry : PySem.W.hasDictIn K C_Carry = true) (po_Carry : PySem.W.plainOver K C_Carry = true) (sa_Carry : PySem.W.findIn K (.ref C_Carry) "__setattr__" = some (some (.builtin "object.__setattr__"))) (mk_Carry : PySem.W.makesIn K C_Carry = true) (kc_Carry : PySem.W.keepIn K (.ref C_Carry) = true)
    (aC_Machine : PySem.W.nsIn K mainGlobals "Machine" = some (some (.ref C_Machine))) (pg_Machine : PySem.W.plainGet K C_Machine Str.empty = true) (hd_Machine : PySem.W.hasDictIn K C_Machine = true) (po_Machine : PySem.W.plainOver K C_Machine = true) (sa_Machine : PySem.W.findIn K (.ref C_Machine) "__setattr__" = some (some (.builtin "object.__setattr__"))) (mk_Machine : PySem.W.makesIn K C_Machine = true) (kc_Machine : PySem.W.keepIn K (.ref C_Machine) = true)
    (aC_Pairs : PySem.W.nsIn K mainGlobals "Pairs" = some (some (.ref C_Pairs))) (pg_Pairs : PySem.W.plainGet K C_Pairs Str.empty = true) (hd_Pairs : PySem.W.hasDictIn K C_Pairs = true) (po_Pairs : PySem.W.plainOver K C_Pairs = true) (sa_Pairs : PySem.W.findIn K (.ref C_Pairs) "__setattr__" = some (some (.builtin "object.__setattr__"))) (mk_Pairs : PySem.W.makesIn K C_Pairs = true) (kc_Pairs : PySem.W.keepIn K (.ref C_Pairs) = true)
    (aC_UnlikeFacts : PySem.W.nsIn K mainGlobals "UnlikeFacts" = some (some (.ref C_UnlikeFacts))) (ex_UnlikeFacts : PySem.W.excIn K C_UnlikeFacts [.type "ValueError", .type "Exception", .type "BaseException", .type "object"] "ValueError.__new__" = true) (kp_UnlikeFacts : PySem.W.keepIn K (.ref C_UnlikeFacts) = true) (sb_UnlikeFacts : PySem.W.subIn K (.ref C_UnlikeFacts) (.type "BaseException") = some true) (ty_UnlikeFacts : PySem.W.typeIn K (.ref C_UnlikeFacts) = some (.type "type")) (hd_UnlikeFacts : PySem.W.hasDictIn K C_UnlikeFacts = true) (ss_UnlikeFacts : PySem.W.subIn K (.ref C_UnlikeFacts) (.ref C_UnlikeFacts) = some true)
    (na_Carry_cost : PySem.W.findIn K (.ref C_Carry) "cost" = some none)
    (na_Carry_to : PySem.W.findIn K (.ref C_Carry) "to" = some none)
    (na_Machine_facts : PySem.W.findIn K (.ref C_Machine) "facts" = some none)
    (na_Machine_gain : PySem.W.findIn K (.ref C_Machine) "gain" = some none)
    (na_Machine_leave : PySem.W.findIn K (.ref C_Machine) "leave" = some none)
    (na_Machine_step : PySem.W.findIn K (.ref C_Machine) "step" = some none)
    (na_Pairs_end : PySem.W.findIn K (.ref C_Pairs) "end" = some none)
    (na_Pairs_facts : PySem.W.findIn K (.ref C_Pairs) "facts" = some none)
    (na_Pairs_gain : PySem.W.findIn K (.ref C_Pairs) "gain" = some none)
    (na_Pairs_pairs : PySem.W.findIn K (.ref C_Pairs) "pairs" = some none)
    (na_Pairs_places : PySem.W.findIn K (.ref C_Pairs) "places" = some none)
    (na_Pairs_step : PySem.W.findIn K (.ref C_Pairs) "step" = some none)
    (a0 : PySem.W.nsIn K mainGlobals "check_facts" = some (some (.ref f0)))
    (l0 : K.lookup f0 = some ⟨oc0, od0, .func (PySem.W.fnOf "check_facts" "check_facts" (defArgs s_check_facts) (defBody s_check_facts) (defScope s_check_facts) .none kV0 dc0 pm0 an0 cd0 ct0), sl0⟩) (c0 : PySem.W.codeIn K cd0 "check_facts" = true) (k0 : PySem.W.keepIn K (.ref f0) = true)
    (a1 : PySem.W.findIn K (.ref C_Pairs) "meet" = some (some (.ref f1))) (i1 : PySem.W.isFn K (.ref f1) = true)
    (l1 : K.lookup f1 = some ⟨oc1, od1, .func (PySem.W.fnOf "meet" "Pairs.meet" (defArgs s_Pairs_meet) (defBody s_Pairs_meet) (defScope s_Pairs_meet) .none kV1 dc1 pm1 an1 cd1 ct1), sl1⟩) (c1 : PySem.W.codeIn K cd1 "Pairs.meet" = true) (k1 : PySem.W.keepIn K (.ref f1) = true)
    (a2 : PySem.W.findIn K (.ref C_Pairs) "go_on" = some (some (.ref f2))) (i2 : PySem.W.isFn K (.ref f2) = true)
    (l2 : K.lookup f2 = some ⟨oc2, od2, .func (PySem.W.fnOf "go_on" "Pairs.go_on" (defArgs s_Pairs_go_on) (defBody s_Pairs_go_on) (defScope s_Pairs_go_on) .none kV2 dc2 pm2 an2 cd2 ct2), sl2⟩) (c2 : PySem.W.codeIn K cd2 "Pairs.go_on" = true) (k2 : PySem.W.keepIn K (.ref f2) = true)
    (a3 : PySem.W.findIn K (.ref C_Pairs) "__init__" = some (some (.ref f3))) (i3 : PySem.W.isFn K (.ref f3) = true)
    (l3 : K.lookup f3 = some ⟨oc3, od3, .func (PySem.W.fnOf "__init__" "Pairs.__init__" (defArgs s_Pairs_init) (defBody s_Pairs_init) (defScope s_Pairs_init) .none kV3 dc3 pm3 an3 cd3 ct3), sl3⟩) (c3 : PySem.W.codeIn K cd3 "Pairs.__init__" = true) (k3 : PySem.W.keepIn K (.ref f3) = true)
    (a4 : PySem.W.findIn K (.ref C_Pairs) "many" = some (some (.ref f4))) (i4 : PySem.W.isFn K (.ref f4) = true)
    (l4 : K.lookup f4 = some ⟨oc4, od4, .func (PySem.W.fnOf "many" "Pairs.many" (defArgs s_Pairs_many) (defBody s_Pairs_many) (defScope s_Pairs_many) .none kV4 dc4 pm4 an4 cd4 ct4), sl4⟩) (c4 : PySem.W.codeIn K cd4 "Pairs.many" = true) (k4 : PySem.W.keepIn K (.ref f4) = true)
    (a5 : PySem.W.findIn K (.ref C_Machine) "many" = some (some (.ref f5))) (i5 : PySem.W.isFn K (.ref f5) = true)
    (l5 : K.lookup f5 = some ⟨oc5, od5, .func (PySem.W.fnOf "many" "Machine.many" (defArgs s_Machine_many) (defBody s_Machine_many) (defScope s_Machine_many) .none kV5 dc5 pm5 an5 cd5 ct5), sl5⟩) (c5 : PySem.W.codeIn K cd5 "Machine.many" = true) (k5 : PySem.W.keepIn K (.ref f5) = true)
    (a6 : PySem.W.nsIn K mainGlobals "first_careers" = some (some (.ref f6)))
    (l6 : K.lookup f6 = some ⟨oc6, od6, .func (PySem.W.fnOf "first_careers" "first_careers" (defArgs s_first_careers) (defBody s_first_careers) (defScope s_first_careers) .none kV6 dc6 pm6 an6 cd6 ct6), sl6⟩) (c6 : PySem.W.codeIn K cd6 "first_careers" = true) (k6 : PySem.W.keepIn K (.ref f6) = true)
    (a7 : PySem.W.nsIn K mainGlobals "left_from" = some (some (.ref f7)))
    (l7 : K.lookup f7 = some ⟨oc7, od7, .func (PySem.W.fnOf "left_from" "left_from" (defArgs s_left_from) (defBody s_left_from) (defScope s_left_from) .none kV7 dc7 pm7 an7 cd7 ct7), sl7⟩) (c7 : PySem.W.codeIn K cd7 "left_from" = true) (k7 : PySem.W.keepIn K (.ref f7) = true)
    (a8 : PySem.W.nsIn K mainGlobals "moved_pairs" = some (some (.ref f8)))
    (l8 : K.lookup f8 = some ⟨oc8, od8, .func (PySem.W.fnOf "moved_pairs" "moved_pairs" (defArgs s_moved_pairs) (defBody s_moved_pairs) (defScope s_moved_pairs) .none kV8 dc8 pm8 an8 cd8 ct8), sl8⟩) (c8 : PySem.W.codeIn K cd8 "moved_pairs" = true) (k8 : PySem.W.keepIn K (.ref f8) = true)
    (a9 : PySem.W.findIn K (.ref C_Machine) "__init__" = some (some (.ref f9))) (i9 : PySem.W.isFn K (.ref f9) = true)
    (l9 : K.lookup f9 = some ⟨oc9, od9, .func (PySem.W.fnOf "__init__" "Machine.__init__" (defArgs s_Machine_init) (defBody s_Machine_init) (defScope s_Machine_init) .none kV9 dc9 pm9 an9 cd9 ct9), sl9⟩) (c9 : PySem.W.codeIn K cd9 "Machine.__init__" = true) (k9 : PySem.W.keepIn K (.ref f9) = true)
    (a10 : PySem.W.findIn K (.ref C_Carry) "__init__" = some (some (.ref f10))) (i10 : PySem.W.isFn K (.ref f10) = true)
    (l10 : K.lookup f10 = some ⟨oc10, od10, .func (PySem.W.fnOf "__init__" "Carry.__init__" (defArgs s_Carry_init) (defBody s_Carry_init) (defScope s_Carry_init) .none kV10 dc10 pm10 an10 cd10 ct10), sl10⟩) (c10 : PySem.W.codeIn K cd10 "Carry.__init__" = true) (k10 : PySem.W.keepIn K (.ref f10) = true)
    (a11 : PySem.W.nsIn K mainGlobals "_law_cell" = some (some (.ref f11)))
    (l11 : K.lookup f11 = some ⟨oc11, od11, .func (PySem.W.fnOf "_law_cell" "_law_cell" (defArgs s__law_cell) (defBody s__law_cell) (defScope s__law_cell) .none kV11 dc11 pm11 an11 cd11 ct11), sl11⟩) (c11 : PySem.W.codeIn K cd11 "_law_cell" = true) (k11 : PySem.W.keepIn K (.ref f11) = true)
    (a12 : PySem.W.nsIn K mainGlobals "_law_row" = some (some (.ref f12)))
    (l12 : K.lookup f12 = some ⟨oc12, od12, .func (PySem.W.fnOf "_law_row" "_law_row" (defArgs s__law_row) (defBody s__law_row) (defScope s__law_row) .none kV12 dc12 pm12 an12 cd12 ct12), sl12⟩) (c12 : PySem.W.codeIn K cd12 "_law_row" = true) (k12 : PySem.W.keepIn K (.ref f12) = true)
    (a13 : PySem.W.nsIn K mainGlobals "_law_box" = some (some (.ref f13)))
    (l13 : K.lookup f13 = some ⟨oc13, od13, .func (PySem.W.fnOf "_law_box" "_law_box" (defArgs s__law_box) (defBody s__law_box) (defScope s__law_box) .none kV13 dc13 pm13 an13 cd13 ct13), sl13⟩) (c13 : PySem.W.codeIn K cd13 "_law_box" = true) (k13 : PySem.W.keepIn K (.ref f13) = true)
    (a14 : PySem.W.nsIn K mainGlobals "_law_draw" = some (some (.ref f14)))
    (l14 : K.lookup f14 = some ⟨oc14, od14, .func (PySem.W.fnOf "_law_draw" "_law_draw" (defArgs s__law_draw) (defBody s__law_draw) (defScope s__law_draw) .none kV14 dc14 pm14 an14 cd14 ct14), sl14⟩) (c14 : PySem.W.codeIn K cd14 "_law_draw" = true) (k14 : PySem.W.keepIn K (.ref f14) = true)
    (a15 : PySem.W.nsIn K mainGlobals "_law_same" = some (some (.ref f15)))
    (l15 : K.lookup f15 = some ⟨oc15, od15, .func (PySem.W.fnOf "_law_same" "_law_same" (defArgs s__law_same) (defBody s__law_same) (defScope s__law_same) .none kV15 dc15 pm15 an15 cd15 ct15), sl15⟩) (c15 : PySem.W.codeIn K cd15 "_law_same" = true) (k15 : PySem.W.keepIn K (.ref f15) = true)
    (a16 : PySem.W.nsIn K mainGlobals "_law_facts" = some (some (.ref f16)))
    (l16 : K.lookup f16 = some ⟨oc16, od16, .func (PySem.W.fnOf "_law_facts" "_law_facts" (defArgs s__law_facts) (defBody s__law_facts) (defScope s__law_facts) .none kV16 dc16 pm16 an16 cd16 ct16), sl16⟩) (c16 : PySem.W.codeIn K cd16 "_law_facts" = true) (k16 : PySem.W.keepIn K (.ref f16) = true)
    (a17 : PySem.W.nsIn K mainGlobals "_law_machine" = some (some (.ref f17)))
    (l17 : K.lookup f17 = some ⟨oc17, od17, .func (PySem.W.fnOf "_law_machine" "_law_machine" (defArgs s__law_machine) (defBody s__law_machine) (defScope s__law_machine) .none kV17 dc17 pm17 an17 cd17 ct17), sl17⟩) (c17 : PySem.W.codeIn K cd17 "_law_machine" = true) (k17 : PySem.W.keepIn K (.ref f17) = true)
    (a18 : PySem.W.nsIn K mainGlobals "_law_carry" = some (some (.ref f18)))
    (l18 : K.lookup f18 = some ⟨oc18, od18, .func (PySem.W.fnOf "_law_carry" "_law_carry" (defArgs s__law_carry) (defBody s__law_carry) (defScope s__law_carry) .none kV18 dc18 pm18 an18 cd18 ct18), sl18⟩) (c18 : PySem.W.codeIn K cd18 "_law_carry" = true) (k18 : PySem.W.keepIn K (.ref f18) = true)
    (a19 : PySem.W.nsIn K mainGlobals "_law_met" = some (some (.ref f19)))
    (l19 : K.lookup f19 = some ⟨oc19, od19, .func (PySem.W.fnOf "_law_met" "_law_met" (defArgs s__law_met) (defBody s__law_met) (defScope s__law_met) .none kV19 dc19 pm19 an19 cd19 ct19), sl19⟩) (c19 : PySem.W.codeIn K cd19 "_law_met" = true) (k19 : PySem.W.keepIn K (.ref f19) = true)
    (a20 : PySem.W.nsIn K mainGlobals "_law_come" = some (some (.ref f20)))
    (l20 : K.lookup f20 = some ⟨oc20, od20, .func (PySem.W.fnOf "_law_come" "_law_come" (defArgs s__law_come) (defBody s__law_come) (defScope s__law_come) .none kV20 dc20 pm20 an20 cd20 ct20), sl20⟩) (c20 : PySem.W.codeIn K cd20 "_law_come" = true) (k20 : PySem.W.keepIn K (.ref f20) = true)
    (a21 : PySem.W.nsIn K mainGlobals "_law_ahead" = some (some (.ref f21)))
    (l21 : K.lookup f21 = some ⟨oc21, od21, .func (PySem.W.fnOf "_law_ahead" "_law_ahead" (defArgs s__law_ahead) (defBody s__law_ahead) (defScope s__law_ahead) .none kV21 dc21 pm21 an21 cd21 ct21), sl21⟩) (c21 : PySem.W.codeIn K cd21 "_law_ahead" = true) (k21 : PySem.W.keepIn K (.ref f21) = true)
    (a22 : PySem.W.nsIn K mainGlobals "_law_after" = some (some (.ref f22)))
    (l22 : K.lookup f22 = some ⟨oc22, od22, .func (PySem.W.fnOf "_law_after" "_law_after" (defArgs s__law_after) (defBody s__law_after) (defScope s__law_after) .none kV22 dc22 pm22 an22 cd22 ct22), sl22⟩) (c22 : PySem.W.codeIn K cd22 "_law_after" = true) (k22 : PySem.W.keepIn K (.ref f22) = true)
    (a23 : PySem.W.nsIn K mainGlobals "_law_refused" = some (some (.ref f23)))
    (l23 : K.lookup f23 = some ⟨oc23, od23, .func (PySem.W.fnOf "_law_refused" "_law_refused" (defArgs s__law_refused) (defBody s__law_refused) (defScope s__law_refused) .none kV23 dc23 pm23 an23 cd23 ct23), sl23⟩) (c23 : PySem.W.codeIn K cd23 "_law_refused" = true) (k23 : PySem.W.keepIn K (.ref f23) = true)
    (a24 : PySem.W.nsIn K mainGlobals "law" = some (some (.ref f24)))
    (l24 : K.lookup f24 = some ⟨oc24, od24, .func (PySem.W.fnOf "law" "law" (defArgs s_law) (defBody s_law) (defScope s_law) .none kV24 dc24 pm24 an24 cd24 ct24), sl24⟩) (c24 : PySem.W.codeIn K cd24 "law" = true) (k24 : PySem.W.keepIn K (.ref f24) = true)
    (z_dict : PySem.W.nsIn K mainGlobals "dict" = some none)
    (z_int : PySem.W.nsIn K mainGlobals "int" = some none)
    (z_len : PySem.W.nsIn K mainGlobals "len" = some none)
    (z_list : PySem.W.nsIn K mainGlobals "list" = some none)
    (z_range : PySem.W.nsIn K mainGlobals "range" = some none)
    (z_repr : PySem.W.nsIn K mainGlobals "repr" = some none)
    (z_sorted : PySem.W.nsIn K mainGlobals "sorted" = some none) :
    ∃ fd : FuncData, (∀ (s : Shared) (v : Value), BindsTo s fd ⟨[v], []⟩ [("_law_script", v)]) ∧ ∀ base : Heap, K.In base → base.Ns mainGlobals mg → FnG l.prog w K mg base 6 fa fd ["_law_script"] (spLaw K) := by
  have e := hfa.symm.trans (PySem.W.mg_of X G a24)
  cases e
  let T : Txt K mg := {
    C_Carry := C_Carry,
    M_Carry := PySem.W.mg_of X G aC_Carry,
    L_Carry := ⟨pg_Carry, hd_Carry, po_Carry, sa_Carry⟩,
    C_Machine := C_Machine,
    M_Machine := PySem.W.mg_of X G aC_Machine,
    L_Machine := ⟨pg_Machine, hd_Machine, po_Machine, sa_Machine⟩,
    C_Pairs := C_Pairs,
    M_Pairs := PySem.W.mg_of X G aC_Pairs,
    L_Pairs := ⟨pg_Pairs, hd_Pairs, po_Pairs, sa_Pairs⟩,
    C_UnlikeFacts := C_UnlikeFacts,
    M_UnlikeFacts := PySem.W.mg_of X G aC_UnlikeFacts, ex_UnlikeFacts := ex_UnlikeFacts, kp_UnlikeFacts := kp_UnlikeFacts, sb_UnlikeFacts := sb_UnlikeFacts, ty_UnlikeFacts := ty_UnlikeFacts, em_UnlikeFacts := PySem.W.exm_ref sb_UnlikeFacts hd_UnlikeFacts ty_UnlikeFacts ss_UnlikeFacts,
    na_Carry_cost := na_Carry_cost,
    na_Carry_to := na_Carry_to,
    na_Machine_facts := na_Machine_facts,
    na_Machine_gain := na_Machine_gain,
    na_Machine_leave := na_Machine_leave,
    na_Machine_step := na_Machine_step,
    na_Pairs_end := na_Pairs_end,
    na_Pairs_facts := na_Pairs_facts,
    na_Pairs_gain := na_Pairs_gain,
    na_Pairs_pairs := na_Pairs_pairs,
    na_Pairs_places := na_Pairs_places,
    na_Pairs_step := na_Pairs_step,
    f_check_facts := f0,
    d_check_facts := PySem.W.fnOf "check_facts" "check_facts" (defArgs s_check_facts) (defBody s_check_facts) (defScope s_check_facts) .none kV0 dc0 pm0 an0 cd0 ct0,
    F_check_facts := fun_mk (st := s_check_facts) l0 c0 k0,
    b_check_facts := (fun_mk (st := s_check_facts) l0 c0 k0).binds (ps := ["machine", "other"]) (fun _ _ _ _ _ _ us hl => match us, hl with | [_, _], _ => rfl),
    m_check_facts := PySem.W.mg_of X G a0,
    k_check_facts := k0,
    f_Pairs_meet := f1,
    d_Pairs_meet := PySem.W.fnOf "meet" "Pairs.meet" (defArgs s_Pairs_meet) (defBody s_Pairs_meet) (defScope s_Pairs_meet) .none kV1 dc1 pm1 an1 cd1 ct1,
    F_Pairs_meet := fun_mk (st := s_Pairs_meet) l1 c1 k1,
    b_Pairs_meet := (fun_mk (st := s_Pairs_meet) l1 c1 k1).binds (ps := ["self", "machine", "other", "pair"]) (fun _ _ _ _ _ _ us hl => match us, hl with | [_, _, _, _], _ => rfl),
    me_Pairs_meet := ⟨a1, i1, k1⟩,
    f_Pairs_go_on := f2,
    d_Pairs_go_on := PySem.W.fnOf "go_on" "Pairs.go_on" (defArgs s_Pairs_go_on) (defBody s_Pairs_go_on) (defScope s_Pairs_go_on) .none kV2 dc2 pm2 an2 cd2 ct2,
    F_Pairs_go_on := fun_mk (st := s_Pairs_go_on) l2 c2 k2,
    b_Pairs_go_on := (fun_mk (st := s_Pairs_go_on) l2 c2 k2).binds (ps := ["self", "machine", "other", "pair"]) (fun _ _ _ _ _ _ us hl => match us, hl with | [_, _, _, _], _ => rfl),
    me_Pairs_go_on := ⟨a2, i2, k2⟩,
    f_Pairs_init := f3,
    d_Pairs_init := PySem.W.fnOf "__init__" "Pairs.__init__" (defArgs s_Pairs_init) (defBody s_Pairs_init) (defScope s_Pairs_init) .none kV3 dc3 pm3 an3 cd3 ct3,
    F_Pairs_init := fun_mk (st := s_Pairs_init) l3 c3 k3,
    b_Pairs_init := (fun_mk (st := s_Pairs_init) l3 c3 k3).binds (ps := ["self", "machine", "other", "begins"]) (fun _ _ _ _ _ _ us hl => match us, hl with | [_, _, _, _], _ => rfl),
    mk_Pairs := ⟨mk_Pairs, a3, i3, kc_Pairs⟩,
    f_Pairs_many := f4,
    d_Pairs_many := PySem.W.fnOf "many" "Pairs.many" (defArgs s_Pairs_many) (defBody s_Pairs_many) (defScope s_Pairs_many) .none kV4 dc4 pm4 an4 cd4 ct4,
    F_Pairs_many := fun_mk (st := s_Pairs_many) l4 c4 k4,
    b_Pairs_many := (fun_mk (st := s_Pairs_many) l4 c4 k4).binds (ps := ["self"]) (fun _ _ _ _ _ _ us hl => match us, hl with | [_], _ => rfl),
    me_Pairs_many := ⟨a4, i4, k4⟩,
    f_Machine_many := f5,
    d_Machine_many := PySem.W.fnOf "many" "Machine.many" (defArgs s_Machine_many) (defBody s_Machine_many) (defScope s_Machine_many) .none kV5 dc5 pm5 an5 cd5 ct5,
    F_Machine_many := fun_mk (st := s_Machine_many) l5 c5 k5,
    b_Machine_many := (fun_mk (st := s_Machine_many) l5 c5 k5).binds (ps := ["self"]) (fun _ _ _ _ _ _ us hl => match us, hl with | [_], _ => rfl),
    me_Machine_many := ⟨a5, i5, k5⟩,
    f_first_careers := f6,
    d_first_careers := PySem.W.fnOf "first_careers" "first_careers" (defArgs s_first_careers) (defBody s_first_careers) (defScope s_first_careers) .none kV6 dc6 pm6 an6 cd6 ct6,
    F_first_careers := fun_mk (st := s_first_careers) l6 c6 k6,
    b_first_careers := (fun_mk (st := s_first_careers) l6 c6 k6).binds (ps := ["machine"]) (fun _ _ _ _ _ _ us hl => match us, hl with | [_], _ => rfl),
    m_first_careers := PySem.W.mg_of X G a6,
    k_first_careers := k6,
    f_left_from := f7,
    d_left_from := PySem.W.fnOf "left_from" "left_from" (defArgs s_left_from) (defBody s_left_from) (defScope s_left_from) .none kV7 dc7 pm7 an7 cd7 ct7,
    F_left_from := fun_mk (st := s_left_from) l7 c7 k7,
    b_left_from := (fun_mk (st := s_left_from) l7 c7 k7).binds (ps := ["machine"]) (fun _ _ _ _ _ _ us hl => match us, hl with | [_], _ => rfl),
    m_left_from := PySem.W.mg_of X G a7,
    k_left_from := k7,
    f_moved_pairs := f8,
    d_moved_pairs := PySem.W.fnOf "moved_pairs" "moved_pairs" (defArgs s_moved_pairs) (defBody s_moved_pairs) (defScope s_moved_pairs) .none kV8 dc8 pm8 an8 cd8 ct8,
    F_moved_pairs := fun_mk (st := s_moved_pairs) l8 c8 k8,
    b_moved_pairs := (fun_mk (st := s_moved_pairs) l8 c8 k8).binds (ps := ["machine", "other", "carry"]) (fun _ _ _ _ _ _ us hl => match us, hl with | [_, _, _], _ => rfl),
    m_moved_pairs := PySem.W.mg_of X G a8,
    k_moved_pairs := k8,
    f_Machine_init := f9,
    d_Machine_init := PySem.W.fnOf "__init__" "Machine.__init__" (defArgs s_Machine_init) (defBody s_Machine_init) (defScope s_Machine_init) .none kV9 dc9 pm9 an9 cd9 ct9,
    F_Machine_init := fun_mk (st := s_Machine_init) l9 c9 k9,
    b_Machine_init := (fun_mk (st := s_Machine_init) l9 c9 k9).binds (ps := ["self", "facts", "step", "gain", "leave"]) (fun _ _ _ _ _ _ us hl => match us, hl with | [_, _, _, _, _], _ => rfl),
    mk_Machine := ⟨mk_Machine, a9, i9, kc_Machine⟩,
    f_Carry_init := f10,
    d_Carry_init := PySem.W.fnOf "__init__" "Carry.__init__" (defArgs s_Carry_init) (defBody s_Carry_init) (defScope s_Carry_init) .none kV10 dc10 pm10 an10 cd10 ct10,
    F_Carry_init := fun_mk (st := s_Carry_init) l10 c10 k10,
    b_Carry_init := (fun_mk (st := s_Carry_init) l10 c10 k10).binds (ps := ["self", "to", "cost"]) (fun _ _ _ _ _ _ us hl => match us, hl with | [_, _, _], _ => rfl),
    mk_Carry := ⟨mk_Carry, a10, i10, kc_Carry⟩,
    f__law_cell := f11,
    d__law_cell := PySem.W.fnOf "_law_cell" "_law_cell" (defArgs s__law_cell) (defBody s__law_cell) (defScope s__law_cell) .none kV11 dc11 pm11 an11 cd11 ct11,
    F__law_cell := fun_mk (st := s__law_cell) l11 c11 k11,
    b__law_cell := (fun_mk (st := s__law_cell) l11 c11 k11).binds (ps := ["_law_script", "_law_k"]) (fun _ _ _ _ _ _ us hl => match us, hl with | [_, _], _ => rfl),
    m__law_cell := PySem.W.mg_of X G a11,
    k__law_cell := k11,
    f__law_row := f12,
    d__law_row := PySem.W.fnOf "_law_row" "_law_row" (defArgs s__law_row) (defBody s__law_row) (defScope s__law_row) .none kV12 dc12 pm12 an12 cd12 ct12,
    F__law_row := fun_mk (st := s__law_row) l12 c12 k12,
    b__law_row := (fun_mk (st := s__law_row) l12 c12 k12).binds (ps := ["_law_cell_here", "_law_k", "_law_many"]) (fun _ _ _ _ _ _ us hl => match us, hl with | [_, _, _], _ => rfl),
    m__law_row := PySem.W.mg_of X G a12,
    k__law_row := k12,
    f__law_box := f13,
    d__law_box := PySem.W.fnOf "_law_box" "_law_box" (defArgs s__law_box) (defBody s__law_box) (defScope s__law_box) .none kV13 dc13 pm13 an13 cd13 ct13,
    F__law_box := fun_mk (st := s__law_box) l13 c13 k13,
    b__law_box := (fun_mk (st := s__law_box) l13 c13 k13).binds (ps := ["_law_script", "_law_first", "_law_last"]) (fun _ _ _ _ _ _ us hl => match us, hl with | [_, _, _], _ => rfl),
    m__law_box := PySem.W.mg_of X G a13,
    k__law_box := k13,
    f__law_draw := f14,
    d__law_draw := PySem.W.fnOf "_law_draw" "_law_draw" (defArgs s__law_draw) (defBody s__law_draw) (defScope s__law_draw) .none kV14 dc14 pm14 an14 cd14 ct14,
    F__law_draw := fun_mk (st := s__law_draw) l14 c14 k14,
    b__law_draw := (fun_mk (st := s__law_draw) l14 c14 k14).binds (ps := ["_law_box_here", "_law_many"]) (fun _ _ _ _ _ _ us hl => match us, hl with | [_, _], _ => rfl),
    m__law_draw := PySem.W.mg_of X G a14,
    k__law_draw := k14,
    f__law_same := f15,
    d__law_same := PySem.W.fnOf "_law_same" "_law_same" (defArgs s__law_same) (defBody s__law_same) (defScope s__law_same) .none kV15 dc15 pm15 an15 cd15 ct15,
    F__law_same := fun_mk (st := s__law_same) l15 c15 k15,
    b__law_same := (fun_mk (st := s__law_same) l15 c15 k15).binds (ps := ["_law_one", "_law_other"]) (fun _ _ _ _ _ _ us hl => match us, hl with | [_, _], _ => rfl),
    m__law_same := PySem.W.mg_of X G a15,
    k__law_same := k15,
    f__law_facts := f16,
    d__law_facts := PySem.W.fnOf "_law_facts" "_law_facts" (defArgs s__law_facts) (defBody s__law_facts) (defScope s__law_facts) .none kV16 dc16 pm16 an16 cd16 ct16,
    F__law_facts := fun_mk (st := s__law_facts) l16 c16 k16,
    b__law_facts := (fun_mk (st := s__law_facts) l16 c16 k16).binds (ps := ["_law_box_here"]) (fun _ _ _ _ _ _ us hl => match us, hl with | [_], _ => rfl),
    m__law_facts := PySem.W.mg_of X G a16,
    k__law_facts := k16,
    f__law_machine := f17,
    d__law_machine := PySem.W.fnOf "_law_machine" "_law_machine" (defArgs s__law_machine) (defBody s__law_machine) (defScope s__law_machine) .none kV17 dc17 pm17 an17 cd17 ct17,
    F__law_machine := fun_mk (st := s__law_machine) l17 c17 k17,
    b__law_machine := (fun_mk (st := s__law_machine) l17 c17 k17).binds (ps := ["_law_box_here", "_law_facts_here", "_law_most"]) (fun _ _ _ _ _ _ us hl => match us, hl with | [_, _, _], _ => rfl),
    m__law_machine := PySem.W.mg_of X G a17,
    k__law_machine := k17,
    f__law_carry := f18,
    d__law_carry := PySem.W.fnOf "_law_carry" "_law_carry" (defArgs s__law_carry) (defBody s__law_carry) (defScope s__law_carry) .none kV18 dc18 pm18 an18 cd18 ct18,
    F__law_carry := fun_mk (st := s__law_carry) l18 c18 k18,
    b__law_carry := (fun_mk (st := s__law_carry) l18 c18 k18).binds (ps := ["_law_box_here", "_law_machine_here", "_law_other"]) (fun _ _ _ _ _ _ us hl => match us, hl with | [_, _, _], _ => rfl),
    m__law_carry := PySem.W.mg_of X G a18,
    k__law_carry := k18,
    f__law_met := f19,
    d__law_met := PySem.W.fnOf "_law_met" "_law_met" (defArgs s__law_met) (defBody s__law_met) (defScope s__law_met) .none kV19 dc19 pm19 an19 cd19 ct19,
    F__law_met := fun_mk (st := s__law_met) l19 c19 k19,
    b__law_met := (fun_mk (st := s__law_met) l19 c19 k19).binds (ps := ["_law_machine_here", "_law_other", "_law_begins"]) (fun _ _ _ _ _ _ us hl => match us, hl with | [_, _, _], _ => rfl),
    m__law_met := PySem.W.mg_of X G a19,
    k__law_met := k19,
    f__law_come := f20,
    d__law_come := PySem.W.fnOf "_law_come" "_law_come" (defArgs s__law_come) (defBody s__law_come) (defScope s__law_come) .none kV20 dc20 pm20 an20 cd20 ct20,
    F__law_come := fun_mk (st := s__law_come) l20 c20 k20,
    b__law_come := (fun_mk (st := s__law_come) l20 c20 k20).binds (ps := ["_law_machine_here"]) (fun _ _ _ _ _ _ us hl => match us, hl with | [_], _ => rfl),
    m__law_come := PySem.W.mg_of X G a20,
    k__law_come := k20,
    f__law_ahead := f21,
    d__law_ahead := PySem.W.fnOf "_law_ahead" "_law_ahead" (defArgs s__law_ahead) (defBody s__law_ahead) (defScope s__law_ahead) .none kV21 dc21 pm21 an21 cd21 ct21,
    F__law_ahead := fun_mk (st := s__law_ahead) l21 c21 k21,
    b__law_ahead := (fun_mk (st := s__law_ahead) l21 c21 k21).binds (ps := ["_law_machine_here", "_law_other", "_law_pair", "_law_fact"]) (fun _ _ _ _ _ _ us hl => match us, hl with | [_, _, _, _], _ => rfl),
    m__law_ahead := PySem.W.mg_of X G a21,
    k__law_ahead := k21,
    f__law_after := f22,
    d__law_after := PySem.W.fnOf "_law_after" "_law_after" (defArgs s__law_after) (defBody s__law_after) (defScope s__law_after) .none kV22 dc22 pm22 an22 cd22 ct22,
    F__law_after := fun_mk (st := s__law_after) l22 c22 k22,
    b__law_after := (fun_mk (st := s__law_after) l22 c22 k22).binds (ps := ["_law_machine_here", "_law_other", "_law_pair", "_law_fact"]) (fun _ _ _ _ _ _ us hl => match us, hl with | [_, _, _, _], _ => rfl),
    m__law_after := PySem.W.mg_of X G a22,
    k__law_after := k22,
    f__law_refused := f23,
    d__law_refused := PySem.W.fnOf "_law_refused" "_law_refused" (defArgs s__law_refused) (defBody s__law_refused) (defScope s__law_refused) .none kV23 dc23 pm23 an23 cd23 ct23,
    F__law_refused := fun_mk (st := s__law_refused) l23 c23 k23,
    b__law_refused := (fun_mk (st := s__law_refused) l23 c23 k23).binds (ps := ["_law_machine_here", "_law_other"]) (fun _ _ _ _ _ _ us hl => match us, hl with | [_, _], _ => rfl),
    m__law_refused := PySem.W.mg_of X G a23,
    k__law_refused := k23,
    f_law := fa,
    d_law := PySem.W.fnOf "law" "law" (defArgs s_law) (defBody s_law) (defScope s_law) .none kV24 dc24 pm24 an24 cd24 ct24,
    F_law := fun_mk (st := s_law) l24 c24 k24,
    b_law := (fun_mk (st := s_law) l24 c24 k24).binds (ps := ["_law_script"]) (fun _ _ _ _ _ _ us hl => match us, hl with | [_], _ => rfl),
    m_law := PySem.W.mg_of X G a24,
    k_law := k24,
    z_dict := PySem.W.mg_none_of X G z_dict,
    z_int := PySem.W.mg_none_of X G z_int,
    z_len := PySem.W.mg_none_of X G z_len,
    z_list := PySem.W.mg_none_of X G z_list,
    z_range := PySem.W.mg_none_of X G z_range,
    z_repr := PySem.W.mg_none_of X G z_repr,
    z_sorted := PySem.W.mg_none_of X G z_sorted }
  exact ⟨T.d_law, fun s v => .of_eq rfl, fun base _ _ => ok_law T⟩
end DL
open PySem PySem.W PyProof.Rows in
set_option maxRecDepth 100000 in
set_option maxHeartbeats 0 in
theorem PySem.Challenge.cw_movedyears_k40_pairs_that_are_met_holds : PySem.Challenge.rw_movedyears_k40_pairs_that_are_met.Holds := by
  w_on; o_law; k_head; (case hw => w_witness2)
  k_fill
  refine DL.walkG (l := PySem.Challenge.rw_movedyears_k40_pairs_that_are_met) (k := 6) (x := "_law_script") rfl rfl ⟨rfl, by decide, by decide⟩ (fun w h Y => PySem.W.kIn_of Y) ?F
  case F =>
    intro w mg fa h KX G hmg
    refine' DL.all_mk KX G hmg ?aC_Carry ?pg_Carry ?hd_Carry ?po_Carry ?sa_Carry ?mk_Carry ?kc_Carry ?aC_Machine ?pg_Machine ?hd_Machine ?po_Machine ?sa_Machine ?mk_Machine ?kc_Machine ?aC_Pairs ?pg_Pairs ?hd_Pairs ?po_Pairs ?sa_Pairs ?mk_Pairs ?kc_Pairs ?aC_UnlikeFacts ?ex_UnlikeFacts ?kp_UnlikeFacts ?sb_UnlikeFacts ?ty_UnlikeFacts ?hd_UnlikeFacts ?ss_UnlikeFacts ?na_Carry_cost ?na_Carry_to ?na_Machine_facts ?na_Machine_gain ?na_Machine_leave ?na_Machine_step ?na_Pairs_end ?na_Pairs_facts ?na_Pairs_gain ?na_Pairs_pairs ?na_Pairs_places ?na_Pairs_step ?a0 ?l0 ?c0 ?k0 ?a1 ?i1 ?l1 ?c1 ?k1 ?a2 ?i2 ?l2 ?c2 ?k2 ?a3 ?i3 ?l3 ?c3 ?k3 ?a4 ?i4 ?l4 ?c4 ?k4 ?a5 ?i5 ?l5 ?c5 ?k5 ?a6 ?l6 ?c6 ?k6 ?a7 ?l7 ?c7 ?k7 ?a8 ?l8 ?c8 ?k8 ?a9 ?i9 ?l9 ?c9 ?k9 ?a10 ?i10 ?l10 ?c10 ?k10 ?a11 ?l11 ?c11 ?k11 ?a12 ?l12 ?c12 ?k12 ?a13 ?l13 ?c13 ?k13 ?a14 ?l14 ?c14 ?k14 ?a15 ?l15 ?c15 ?k15 ?a16 ?l16 ?c16 ?k16 ?a17 ?l17 ?c17 ?k17 ?a18 ?l18 ?c18 ?k18 ?a19 ?l19 ?c19 ?k19 ?a20 ?l20 ?c20 ?k20 ?a21 ?l21 ?c21 ?k21 ?a22 ?l22 ?c22 ?k22 ?a23 ?l23 ?c23 ?k23 ?a24 ?l24 ?c24 ?k24 ?z_dict ?z_int ?z_len ?z_list ?z_range ?z_repr ?z_sorted
    (case aC_Carry => k_is)
    (case pg_Carry => k_is)
    (case hd_Carry => k_is)
    (case po_Carry => k_is)
    (case sa_Carry => k_is)
    (case mk_Carry => k_is)
    (case kc_Carry => k_is)
    (case aC_Machine => k_is)
    (case pg_Machine => k_is)
    (case hd_Machine => k_is)
    (case po_Machine => k_is)
    (case sa_Machine => k_is)
    (case mk_Machine => k_is)
    (case kc_Machine => k_is)
    (case aC_Pairs => k_is)
    (case pg_Pairs => k_is)
    (case hd_Pairs => k_is)
    (case po_Pairs => k_is)
    (case sa_Pairs => k_is)
    (case mk_Pairs => k_is)
    (case kc_Pairs => k_is)
    (case aC_UnlikeFacts => k_is)
    (case ex_UnlikeFacts => k_exc)
    (case kp_UnlikeFacts => k_is)
    (case sb_UnlikeFacts => k_is)
    (case ty_UnlikeFacts => k_is)
    (case hd_UnlikeFacts => k_is)
    (case ss_UnlikeFacts => k_is)
    (case na_Carry_cost => k_is)
    (case na_Carry_to => k_is)
    (case na_Machine_facts => k_is)
    (case na_Machine_gain => k_is)
    (case na_Machine_leave => k_is)
    (case na_Machine_step => k_is)
    (case na_Pairs_end => k_is)
    (case na_Pairs_facts => k_is)
    (case na_Pairs_gain => k_is)
    (case na_Pairs_pairs => k_is)
    (case na_Pairs_places => k_is)
    (case na_Pairs_step => k_is)
    (case a0 => k_is)
    (case l0 => k_is)
    (case c0 => k_is)
    (case k0 => k_is)
    (case a1 => k_is)
    (case i1 => k_is)
    (case l1 => k_is)
    (case c1 => k_is)
    (case k1 => k_is)
    (case a2 => k_is)
    (case i2 => k_is)
    (case l2 => k_is)
    (case c2 => k_is)
    (case k2 => k_is)
    (case a3 => k_is)
    (case i3 => k_is)
    (case l3 => k_is)
    (case c3 => k_is)
    (case k3 => k_is)
    (case a4 => k_is)
    (case i4 => k_is)
    (case l4 => k_is)
    (case c4 => k_is)
    (case k4 => k_is)
    (case a5 => k_is)
    (case i5 => k_is)
    (case l5 => k_is)
    (case c5 => k_is)
    (case k5 => k_is)
    (case a6 => k_is)
    (case l6 => k_is)
    (case c6 => k_is)
    (case k6 => k_is)
    (case a7 => k_is)
    (case l7 => k_is)
    (case c7 => k_is)
    (case k7 => k_is)
    (case a8 => k_is)
    (case l8 => k_is)
    (case c8 => k_is)
    (case k8 => k_is)
    (case a9 => k_is)
    (case i9 => k_is)
    (case l9 => k_is)
    (case c9 => k_is)
    (case k9 => k_is)
    (case a10 => k_is)
    (case i10 => k_is)
    (case l10 => k_is)
    (case c10 => k_is)
    (case k10 => k_is)
    (case a11 => k_is)
    (case l11 => k_is)
    (case c11 => k_is)
    (case k11 => k_is)
    (case a12 => k_is)
    (case l12 => k_is)
    (case c12 => k_is)
    (case k12 => k_is)
    (case a13 => k_is)
    (case l13 => k_is)
    (case c13 => k_is)
    (case k13 => k_is)
    (case a14 => k_is)
    (case l14 => k_is)
    (case c14 => k_is)
    (case k14 => k_is)
    (case a15 => k_is)
    (case l15 => k_is)
    (case c15 => k_is)
    (case k15 => k_is)
    (case a16 => k_is)
    (case l16 => k_is)
    (case c16 => k_is)
    (case k16 => k_is)
    (case a17 => k_is)
    (case l17 => k_is)
    (case c17 => k_is)
    (case k17 => k_is)
    (case a18 => k_is)
    (case l18 => k_is)
    (case c18 => k_is)
    (case k18 => k_is)
    (case a19 => k_is)
    (case l19 => k_is)
    (case c19 => k_is)
    (case k19 => k_is)
    (case a20 => k_is)
    (case l20 => k_is)
    (case c20 => k_is)
    (case k20 => k_is)
    (case a21 => k_is)
    (case l21 => k_is)
    (case c21 => k_is)
    (case k21 => k_is)
    (case a22 => k_is)
    (case l22 => k_is)
    (case c22 => k_is)
    (case k22 => k_is)
    (case a23 => k_is)
    (case l23 => k_is)
    (case c23 => k_is)
    (case k23 => k_is)
    (case a24 => k_is)
    (case l24 => k_is)
    (case c24 => k_is)
    (case k24 => k_is)
    (case z_dict => k_is)
    (case z_int => k_is)
    (case z_len => k_is)
    (case z_list => k_is)
    (case z_range => k_is)
    (case z_repr => k_is)
    (case z_sorted => k_is)
