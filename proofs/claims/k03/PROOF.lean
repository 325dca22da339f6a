import PyProof.Rows.All
import Wide.All
import OpenK.AllK
import Wide.FinOn
import HandS.ForMost
import HandS.Deep
import HandS.DictComp
import HandS.Conv
import HandS.Flow
import HandS.Style
import HandS.Codes
import HandS.Steps
import HandS.StrMore
import HandS.Replace
import HandS.RaiseMore
import HandS.SortInts
import PyProof.Rows.ReprShort
import HandS.More
import HandS.IsInst
import HandS.TryOnly
import HandS.DeepEq
import HandS.Gcd
import HandS.WordsExc
import HandS.ExcOwn
import HandS.ExcIs
import HandS.Iter
import KE.KDictDisplayH
import KE.KDictPairs
import HandS.SortRule
import HandS.List
import HandS.TupSets
import PyProof.ReprRoads
import HandS.ExcInit
import HandS.ExcField
import HandS.FStr
import HandS.ExcSuper
import KE.KExcSuper
import KE.KExcIs
import KE.KLam
import HandS.GenList
import HandS.AnyAll
import PySem.Challenge.RW_movedyears_k03_counters_go_on
set_option Elab.async false
set_option linter.all false
set_option maxRecDepth 100000
set_option maxHeartbeats 4000000
/-! A layer over HandS: data, frozen and changing heaps, slots; judgements whose readings know no heap. -/
namespace DL
open PySem L2

/-! ### data -/
inductive D where
  | non | bl (b : Bool) | int (i : Int) | str (s : Str)
  | lst (xs : List D) | tup (xs : List D) | scr (xs : List D)
  | dk (ks : List Key) (xs : List D) | dt (ks : List (List Key)) (xs : List D)
  | ins (c : Str) (fs : List Str) (xs : List D)
  deriving Inhabited

/-- what the module's text has written -/
structure Cy where
  K : PySem.W.Frag
  mg : Str → Option Value

mutual
/-- the value v stands for the data d in the heap F -/
def Dr (c : Cy) (F : Hp) (v : V) : D → Prop
  | .non => v = .non
  | .bl b => v = .bl b
  | .int i => v = .int i
  | .str s => v = .str s
  | .lst ds => ∃ a vs, v = .ref a ∧ F a = some (.lst vs) ∧ DrL c F vs ds
  | .tup ds => ∃ a vs, v = .ref a ∧ F a = some (.tup vs) ∧ DrL c F vs ds
  | .scr ds => ∃ a vs, v = .ref a ∧ SqL c.K F a vs ∧ DrL c F vs ds
  | .dk ks ds => ∃ a ps, v = .ref a ∧ Rd F a (.dK ps) ∧ ps.map (·.1) = ks ∧ DrL c F (ps.map (·.2)) ds
  | .dt ks ds => ∃ a ps, v = .ref a ∧ Rd F a (.dT ps) ∧ ps.map (·.1) = ks ∧ DrL c F (ps.map (·.2)) ds
  | .ins n fs ds => ∃ a C dx ps, v = .ref a ∧ F a = some (.ins C dx ps) ∧ c.mg n = some (.ref C) ∧ ps.map (·.1) = fs ∧ DrL c F (ps.map (·.2)) ds
def DrL (c : Cy) (F : Hp) (vs : List V) : List D → Prop
  | [] => vs = []
  | d :: ds => ∃ v vr, vs = v :: vr ∧ Dr c F v d ∧ DrL c F vr ds
end

/-! ### heaps that grow -/
/-- an object that no lock changes -/
def Pl : HO → Prop
  | .lst _ => True
  | .tup _ => True
  | .ins _ _ _ => True
  | .own _ => True
  | _ => False
/-- not a lock -/
def NF : HO → Prop
  | .frz _ _ => False
  | _ => True
/-- readable things stay readable -/
structure LeD (F G : Hp) : Prop where
  pl : ∀ a o, F a = some o → Pl o → G a = some o
  rd : ∀ a u, NF u → Rd F a u → Rd G a u
theorem LeD.refl (F : Hp) : LeD F F := ⟨fun _ _ h _ => h, fun _ _ _ h => h⟩
theorem LeD.trans {F G J : Hp} (a : LeD F G) (b : LeD G J) : LeD F J := ⟨fun x o h p => b.pl x o (a.pl x o h p) p, fun x u n h => b.rd x u n (a.rd x u n h)⟩
theorem same_rd {F G : Hp} (s : Same F G) {a : Addr} {u : HO} (h : Rd F a u) : Rd G a u := by
  rcases h with h | ⟨o, h⟩
  · exact .inl (s _ _ h)
  · exact .inr ⟨o, s _ _ h⟩
theorem LeD.seq {F G : Hp} (s : LeD F G) {K : PySem.W.Frag} {a : Addr} {xs : List V} (h : SqL K F a xs) : SqL K G a xs := by
  rcases h with h | h
  · exact .inl (s.rd _ _ trivial h)
  · exact .inr h
theorem LeD.of {F G : Hp} (s : Same F G) : LeD F G := ⟨fun a o h _ => s a o h, fun a u _ h => same_rd s h⟩

mutual
theorem Dr.leD {c : Cy} {F G : Hp} (s : LeD F G) : ∀ (d : D) {v : V}, Dr c F v d → Dr c G v d
  | .non, v, h => by simpa only [Dr] using h
  | .bl b, v, h => by simpa only [Dr] using h
  | .int i, v, h => by simpa only [Dr] using h
  | .str x, v, h => by simpa only [Dr] using h
  | .lst ds, v, h => by
    simp only [Dr] at h ⊢
    obtain ⟨a, vs, e, q, r⟩ := h
    exact ⟨a, vs, e, s.pl _ _ q trivial, DrL.leD s ds r⟩
  | .tup ds, v, h => by
    simp only [Dr] at h ⊢
    obtain ⟨a, vs, e, q, r⟩ := h
    exact ⟨a, vs, e, s.pl _ _ q trivial, DrL.leD s ds r⟩
  | .scr ds, v, h => by
    simp only [Dr] at h ⊢
    obtain ⟨a, vs, e, q, r⟩ := h
    exact ⟨a, vs, e, s.seq q, DrL.leD s ds r⟩
  | .dk ks ds, v, h => by
    simp only [Dr] at h ⊢
    obtain ⟨a, vs, e, q, k, r⟩ := h
    exact ⟨a, vs, e, s.rd _ _ trivial q, k, DrL.leD s ds r⟩
  | .dt ks ds, v, h => by
    simp only [Dr] at h ⊢
    obtain ⟨a, vs, e, q, k, r⟩ := h
    exact ⟨a, vs, e, s.rd _ _ trivial q, k, DrL.leD s ds r⟩
  | .ins n fs ds, v, h => by
    simp only [Dr] at h ⊢
    obtain ⟨a, C, dx, ps, e, q, m, k, r⟩ := h
    exact ⟨a, C, dx, ps, e, s.pl _ _ q trivial, m, k, DrL.leD s ds r⟩
theorem DrL.leD {c : Cy} {F G : Hp} (s : LeD F G) : ∀ (ds : List D) {vs : List V}, DrL c F vs ds → DrL c G vs ds
  | [], vs, h => by simpa only [DrL] using h
  | d :: ds, vs, h => by
    simp only [DrL] at h ⊢
    obtain ⟨v, vr, e, q, r⟩ := h
    exact ⟨v, vr, e, Dr.leD s d q, DrL.leD s ds r⟩
end
theorem Dr.up {c : Cy} {F G : Hp} {d : D} {v : V} (s : Same F G) (h : Dr c F v d) : Dr c G v d := Dr.leD (.of s) d h
theorem DrL.up {c : Cy} {F G : Hp} {ds : List D} {vs : List V} (s : Same F G) (h : DrL c F vs ds) : DrL c G vs ds := DrL.leD (.of s) ds h

theorem DrL.nil {c : Cy} {F : Hp} : DrL c F [] [] := by simp only [DrL]
theorem DrL.cons {c : Cy} {F : Hp} {v : V} {vs : List V} {d : D} {ds : List D} (h : Dr c F v d) (r : DrL c F vs ds) : DrL c F (v :: vs) (d :: ds) := by
  simp only [DrL]
  exact ⟨v, vs, rfl, h, r⟩
theorem DrL.nil_iff {c : Cy} {F : Hp} {vs : List V} (h : DrL c F vs []) : vs = [] := by simpa only [DrL] using h
theorem DrL.cons_iff {c : Cy} {F : Hp} {vs : List V} {d : D} {ds : List D} (h : DrL c F vs (d :: ds)) : ∃ v vr, vs = v :: vr ∧ Dr c F v d ∧ DrL c F vr ds := by simpa only [DrL] using h
theorem DrL.length {c : Cy} {F : Hp} : ∀ {ds : List D} {vs : List V}, DrL c F vs ds → vs.length = ds.length
  | [], vs, h => by rw [h.nil_iff]; rfl
  | d :: ds, vs, h => by
    obtain ⟨v, vr, rfl, _, r⟩ := h.cons_iff
    rw [List.length_cons, List.length_cons, DrL.length r]
theorem DrL.append {c : Cy} {F : Hp} : ∀ {ds es : List D} {vs us : List V}, DrL c F vs ds → DrL c F us es → DrL c F (vs ++ us) (ds ++ es)
  | [], es, vs, us, h, r => by rw [h.nil_iff]; exact r
  | d :: ds, es, vs, us, h, r => by
    obtain ⟨v, vr, rfl, q, t⟩ := h.cons_iff
    exact .cons q (DrL.append t r)
theorem DrL.get {c : Cy} {F : Hp} : ∀ {ds : List D} {vs : List V} {i : Nat} {d : D}, DrL c F vs ds → ds[i]? = some d → ∃ v, vs[i]? = some v ∧ Dr c F v d
  | [], _, _, _, _, e => by simp at e
  | d :: ds, vs, 0, x, h, e => by
    obtain ⟨v, vr, rfl, q, t⟩ := h.cons_iff
    simp at e; subst e
    exact ⟨v, rfl, q⟩
  | d :: ds, vs, i + 1, x, h, e => by
    obtain ⟨v, vr, rfl, q, t⟩ := h.cons_iff
    obtain ⟨u, h1, h2⟩ := DrL.get (i := i) t (by simpa using e)
    exact ⟨u, by simpa using h1, h2⟩
theorem DrL.get' {c : Cy} {F : Hp} : ∀ {ds : List D} {vs : List V} {i : Nat} {v : V}, DrL c F vs ds → vs[i]? = some v → ∃ d, ds[i]? = some d ∧ Dr c F v d
  | [], vs, i, v, h, e => by rw [h.nil_iff] at e; simp at e
  | d :: ds, vs, 0, x, h, e => by
    obtain ⟨v, vr, rfl, q, t⟩ := h.cons_iff
    simp at e; subst e
    exact ⟨d, rfl, q⟩
  | d :: ds, vs, i + 1, x, h, e => by
    obtain ⟨v, vr, rfl, q, t⟩ := h.cons_iff
    obtain ⟨u, h1, h2⟩ := DrL.get' (i := i) t (by simpa using e)
    exact ⟨u, by simpa using h1, h2⟩
theorem DrL.set {c : Cy} {F : Hp} : ∀ {ds : List D} {vs : List V} {i : Nat} {d : D} {v : V}, DrL c F vs ds → Dr c F v d → DrL c F (vs.set i v) (ds.set i d)
  | [], vs, i, d, v, h, _ => by rw [h.nil_iff]; exact .nil
  | e :: ds, vs, 0, d, v, h, q => by
    obtain ⟨u, vr, rfl, _, t⟩ := h.cons_iff
    exact .cons q t
  | e :: ds, vs, i + 1, d, v, h, q => by
    obtain ⟨u, vr, rfl, r, t⟩ := h.cons_iff
    exact .cons r (DrL.set t q)
theorem DrL.take {c : Cy} {F : Hp} : ∀ {ds : List D} {vs : List V} (n : Nat), DrL c F vs ds → DrL c F (vs.take n) (ds.take n)
  | _, _, 0, _ => .nil
  | [], vs, n + 1, h => by rw [h.nil_iff]; exact .nil
  | e :: ds, vs, n + 1, h => by
    obtain ⟨u, vr, rfl, r, t⟩ := h.cons_iff
    exact .cons r (DrL.take n t)
theorem DrL.drop {c : Cy} {F : Hp} : ∀ {ds : List D} {vs : List V} (n : Nat), DrL c F vs ds → DrL c F (vs.drop n) (ds.drop n)
  | _, _, 0, h => h
  | [], vs, n + 1, h => by rw [h.nil_iff]; exact .nil
  | e :: ds, vs, n + 1, h => by
    obtain ⟨u, vr, rfl, r, t⟩ := h.cons_iff
    exact DrL.drop n t
theorem DrL.ints {c : Cy} {F : Hp} : ∀ {ns : List Int} {vs : List V}, DrL c F vs (ns.map D.int) → vs = ns.map V.int
  | [], vs, h => h.nil_iff
  | n :: ns, vs, h => by
    obtain ⟨u, vr, rfl, r, t⟩ := h.cons_iff
    simp only [Dr] at r
    rw [r, DrL.ints t]; rfl
theorem DrL.of_ints {c : Cy} {F : Hp} : ∀ (ns : List Int), DrL c F (ns.map V.int) (ns.map D.int)
  | [] => .nil
  | n :: ns => .cons (by simp only [Dr]) (DrL.of_ints ns)

/-! ### the frozen part and the changing part -/
def HH (F M : Hp) : Hp := fun a => match M a with
  | some o => some o
  | none => F a
def Dj (F M : Hp) : Prop := ∀ a o, M a = some o → F a = none
theorem hh_m {F M : Hp} {a : Addr} {o : HO} (h : M a = some o) : HH F M a = some o := by unfold HH; rw [h]
theorem hh_n {F M : Hp} {a : Addr} (h : M a = none) : HH F M a = F a := by unfold HH; rw [h]
theorem Dj.mn {F M : Hp} (d : Dj F M) {a : Addr} {o : HO} (h : F a = some o) : M a = none := by
  cases q : M a with
  | none => rfl
  | some u => rw [d a u q] at h; cases h
theorem Dj.f {F M : Hp} (d : Dj F M) {a : Addr} {o : HO} (h : F a = some o) : HH F M a = some o := by rw [hh_n (d.mn h)]; exact h
theorem Dj.same {F M : Hp} (d : Dj F M) : Same F (HH F M) := fun _ _ h => d.f h
theorem hh_none {F M : Hp} {a : Addr} (h : HH F M a = none) : F a = none ∧ M a = none := by
  unfold HH at h
  cases q : M a with
  | none => rw [q] at h; exact ⟨h, rfl⟩
  | some o => rw [q] at h; cases h
theorem hh_some {F M : Hp} {a : Addr} {o : HO} (h : HH F M a = some o) : M a = some o ∨ (M a = none ∧ F a = some o) := by
  unfold HH at h
  cases q : M a with
  | none => rw [q] at h; exact .inr ⟨rfl, h⟩
  | some u => rw [q] at h; exact .inl h
/-- a new thing, frozen at once -/
theorem hh_updF {F M : Hp} {a : Addr} {o : HO} (h : M a = none) : upd (HH F M) a o = HH (upd F a o) M := by
  funext b
  by_cases e : b = a
  · subst e; rw [upd_same, hh_n h, upd_same]
  · rw [upd_ne e]
    unfold HH
    cases M b with
    | none => exact (upd_ne e).symm
    | some u => rfl
/-- a new thing that may change; a changed thing -/
theorem hh_updM {F M : Hp} {a : Addr} {o : HO} : upd (HH F M) a o = HH F (upd M a o) := by
  funext b
  by_cases e : b = a
  · subst e; rw [upd_same, hh_m upd_same]
  · rw [upd_ne e]
    unfold HH
    rw [upd_ne e]
theorem Dj.updF {F M : Hp} (d : Dj F M) {a : Addr} {o : HO} (h : M a = none) : Dj (upd F a o) M := fun b u q => by
  have e : b ≠ a := fun z => by rw [z, h] at q; cases q
  rw [upd_ne e]; exact d b u q
theorem Dj.updM {F M : Hp} (d : Dj F M) {a : Addr} {o : HO} (h : F a = none) : Dj F (upd M a o) := fun b u q => by
  by_cases e : b = a
  · rw [e]; exact h
  · rw [upd_ne e] at q; exact d b u q
theorem Same.updF {F : Hp} {a : Addr} {o : HO} (h : F a = none) : Same F (upd F a o) := fun b u q => by
  rw [upd_ne (ne_of_none q h)]; exact q
/-- a thing of the changing part is frozen -/
theorem hh_freeze {F M : Hp} {a : Addr} {o : HO} (h : M a = none) : HH F (upd M a o) = HH (upd F a o) M := by
  rw [← hh_updM, hh_updF h]
end DL

/-! Slots, the relation of a def's state, judgements. -/
namespace DL
open PySem L2

/-- what stands in a slot: nothing that is known; shared data; an own list, dict, instance (its items are shared); the box of digits -/
inductive OT where
  | sh (d : D) | lst (ts : List OT) | dk (ks : List Key) (ts : List OT) | dt (ks : List (List Key)) (ts : List OT) | ins (n : Str) (fs : List Str) (ts : List OT)
  deriving Inhabited
def emp : Hp := fun _ => none
mutual
/-- the value v stands for the tree t; its own objects are Mo -/
def OTR (c : Cy) (F : Hp) : OT → V → Hp → Prop
  | .sh d, v, Mo => Dr c F v d ∧ Mo = emp
  | .lst ts, v, Mo => ∃ a vs M1, v = .ref a ∧ OTRL c F ts vs M1 ∧ F a = none ∧ M1 a = none ∧ Mo = upd M1 a (.lst vs)
  | .dk ks ts, v, Mo => ∃ a ps M1, v = .ref a ∧ ps.map (·.1) = ks ∧ OTRL c F ts (ps.map (·.2)) M1 ∧ F a = none ∧ M1 a = none ∧ Mo = upd M1 a (.dK ps)
  | .dt ks ts, v, Mo => ∃ a ps M1, v = .ref a ∧ ps.map (·.1) = ks ∧ OTRL c F ts (ps.map (·.2)) M1 ∧ F a = none ∧ M1 a = none ∧ Mo = upd M1 a (.dT ps)
  | .ins n fs ts, v, Mo => ∃ a C dx ps M1, v = .ref a ∧ c.mg n = some (.ref C) ∧ ps.map (·.1) = fs ∧ OTRL c F ts (ps.map (·.2)) M1 ∧ F a = none ∧ M1 a = none ∧ Mo = upd M1 a (.ins C dx ps)
def OTRL (c : Cy) (F : Hp) : List OT → List V → Hp → Prop
  | [], vs, M => vs = [] ∧ M = emp
  | t :: ts, vs, M => ∃ v vr M1 M2, vs = v :: vr ∧ OTR c F t v M1 ∧ OTRL c F ts vr M2 ∧ Dj M2 M1 ∧ M = HH M2 M1
end
mutual
/-- a tree as data -/
def otD : OT → D
  | .sh d => d
  | .lst ts => .lst (otDL ts)
  | .dk ks ts => .dk ks (otDL ts)
  | .dt ks ts => .dt ks (otDL ts)
  | .ins n fs ts => .ins n fs (otDL ts)
def otDL : List OT → List D
  | [] => []
  | t :: ts => otD t :: otDL ts
end
theorem hh_emp (M : Hp) : HH M emp = M := funext fun a => hh_n rfl
theorem emp_hh (M : Hp) : HH emp M = M := funext fun a => by
  cases h : M a with
  | none => rw [hh_n h]; rfl
  | some o => rw [hh_m h]
theorem hh_assoc {A B C : Hp} : HH A (HH B C) = HH (HH A B) C := funext fun a => by
  cases h : C a with
  | some o => rw [hh_m (show HH B C a = some o from hh_m h), hh_m h]
  | none =>
    rw [hh_n h]
    cases h2 : B a with
    | some o => rw [hh_m (show HH B C a = some o by rw [hh_n h]; exact h2), hh_m h2]
    | none => rw [hh_n (show HH B C a = none by rw [hh_n h]; exact h2), hh_n h2]
theorem hh_comm {A B : Hp} (d : Dj A B) : HH A B = HH B A := funext fun a => by
  cases h : B a with
  | some o => rw [hh_m h, hh_n (d a o h)]; exact h.symm
  | none =>
    rw [hh_n h]
    cases h2 : A a with
    | some o => rw [hh_m h2]
    | none => rw [hh_n h2]; exact h.symm
/-- no tuples lie there -/
def NT (M : Hp) : Prop := ∀ a xs, M a ≠ some (.tup xs)
theorem NT.upd {M : Hp} {x : Addr} {u : HO} (h : NT M) (hu : ∀ xs, u ≠ .tup xs) : NT (upd M x u) := fun a xs e => by
  by_cases z : a = x
  · rw [z, upd_same] at e
    exact hu xs (Option.some.inj e)
  · rw [upd_ne z] at e
    exact h a xs e
theorem NT.hh {M N : Hp} (h : NT M) (h' : NT N) : NT (HH M N) := fun a xs e => by
  unfold HH at e
  cases z : N a with
  | some o => rw [z] at e; exact h' a xs (by rw [z]; exact e)
  | none => rw [z] at e; exact h a xs e
theorem NT.emp : NT emp := fun a xs e => nomatch e
mutual
theorem OTR.nt {c : Cy} {F : Hp} : ∀ (t : OT) {v : V} {Mo : Hp}, OTR c F t v Mo → NT Mo
  | .sh d, v, Mo, h => by
    simp only [OTR] at h
    rw [h.2]; exact NT.emp
  | .lst ts, v, Mo, h => by
    simp only [OTR] at h
    obtain ⟨a, vs, M1, _, r, _, _, rfl⟩ := h
    exact (OTRL.nt ts r).upd fun xs z => nomatch z
  | .dk ks ts, v, Mo, h => by
    simp only [OTR] at h
    obtain ⟨a, vs, M1, _, _, r, _, _, rfl⟩ := h
    exact (OTRL.nt ts r).upd fun xs z => nomatch z
  | .dt ks ts, v, Mo, h => by
    simp only [OTR] at h
    obtain ⟨a, vs, M1, _, _, r, _, _, rfl⟩ := h
    exact (OTRL.nt ts r).upd fun xs z => nomatch z
  | .ins n fs ts, v, Mo, h => by
    simp only [OTR] at h
    obtain ⟨a, C, dx, ps, M1, _, _, _, r, _, _, rfl⟩ := h
    exact (OTRL.nt ts r).upd fun xs z => nomatch z
theorem OTRL.nt {c : Cy} {F : Hp} : ∀ (ts : List OT) {vs : List V} {Mo : Hp}, OTRL c F ts vs Mo → NT Mo
  | [], vs, Mo, h => by
    simp only [OTRL] at h
    rw [h.2]; exact NT.emp
  | t :: ts, vs, Mo, h => by
    simp only [OTRL] at h
    obtain ⟨v, vr, M1, M2, _, r1, r2, _, rfl⟩ := h
    exact (OTRL.nt ts r2).hh (OTR.nt t r1)
end
theorem dj_sym {A B : Hp} (d : Dj A B) : Dj B A := fun a o q => d.mn q
/-- all three apart -/
theorem dj_hh {A B C : Hp} (d1 : Dj A C) (d2 : Dj B C) : Dj (HH A B) C := fun a o q => by rw [hh_n (d2 a o q)]; exact d1 a o q
theorem dj_l {A B C : Hp} (d : Dj (HH A B) C) : Dj A C := fun a o q => (hh_none (d a o q)).1
theorem dj_r {A B C : Hp} (d : Dj (HH A B) C) : Dj B C := fun a o q => (hh_none (d a o q)).2
theorem hh_swap {A B C : Hp} (d : Dj B C) : HH (HH A B) C = HH (HH A C) B := by rw [← hh_assoc, hh_comm d, hh_assoc]
mutual
theorem OTR.leD {c : Cy} {F G : Hp} (s : LeD F G) : ∀ (t : OT) {v : V} {Mo : Hp}, (∀ a o, Mo a = some o → F a = none → G a = none) → OTR c F t v Mo → OTR c G t v Mo
  | .sh d, v, Mo, n, h => by simp only [OTR] at h ⊢; exact ⟨h.1.leD s, h.2⟩
  | .lst ts, v, Mo, n, h => by
    simp only [OTR] at h ⊢
    obtain ⟨a, vs, M1, e, r, f, m, rfl⟩ := h
    exact ⟨a, vs, M1, e, OTRL.leD s ts (fun x o q => n x o (by rw [upd_ne (ne_of_none q m)]; exact q)) r, n a _ upd_same f, m, rfl⟩
  | .dk ks ts, v, Mo, n, h => by
    simp only [OTR] at h ⊢
    obtain ⟨a, vs, M1, e, k, r, f, m, rfl⟩ := h
    exact ⟨a, vs, M1, e, k, OTRL.leD s ts (fun x o q => n x o (by rw [upd_ne (ne_of_none q m)]; exact q)) r, n a _ upd_same f, m, rfl⟩
  | .dt ks ts, v, Mo, n, h => by
    simp only [OTR] at h ⊢
    obtain ⟨a, vs, M1, e, k, r, f, m, rfl⟩ := h
    exact ⟨a, vs, M1, e, k, OTRL.leD s ts (fun x o q => n x o (by rw [upd_ne (ne_of_none q m)]; exact q)) r, n a _ upd_same f, m, rfl⟩
  | .ins nm fs ts, v, Mo, n, h => by
    simp only [OTR] at h ⊢
    obtain ⟨a, C, dx, vs, M1, e, g, k, r, f, m, rfl⟩ := h
    exact ⟨a, C, dx, vs, M1, e, g, k, OTRL.leD s ts (fun x o q => n x o (by rw [upd_ne (ne_of_none q m)]; exact q)) r, n a _ upd_same f, m, rfl⟩
theorem OTRL.leD {c : Cy} {F G : Hp} (s : LeD F G) : ∀ (ts : List OT) {vs : List V} {M : Hp}, (∀ a o, M a = some o → F a = none → G a = none) → OTRL c F ts vs M → OTRL c G ts vs M
  | [], vs, M, n, h => by simpa only [OTRL] using h
  | t :: ts, vs, M, n, h => by
    simp only [OTRL] at h ⊢
    obtain ⟨v, vr, M1, M2, e, r1, r2, d, rfl⟩ := h
    exact ⟨v, vr, M1, M2, e, OTR.leD s t (fun x o q => n x o (hh_m q)) r1, OTRL.leD s ts (fun x o q => n x o (d.f q)) r2, d, rfl⟩
end
mutual
theorem OTR.dj {c : Cy} {F : Hp} : ∀ (t : OT) {v : V} {Mo : Hp}, OTR c F t v Mo → Dj F Mo
  | .sh d, v, Mo, h => by simp only [OTR] at h; rw [h.2]; exact fun a o q => nomatch q
  | .lst ts, v, Mo, h => by
    simp only [OTR] at h
    obtain ⟨a, vs, M1, e, r, f, m, rfl⟩ := h
    exact (OTRL.dj ts r).updM f
  | .dk ks ts, v, Mo, h => by
    simp only [OTR] at h
    obtain ⟨a, vs, M1, e, k, r, f, m, rfl⟩ := h
    exact (OTRL.dj ts r).updM f
  | .dt ks ts, v, Mo, h => by
    simp only [OTR] at h
    obtain ⟨a, vs, M1, e, k, r, f, m, rfl⟩ := h
    exact (OTRL.dj ts r).updM f
  | .ins nm fs ts, v, Mo, h => by
    simp only [OTR] at h
    obtain ⟨a, C, dx, vs, M1, e, g, k, r, f, m, rfl⟩ := h
    exact (OTRL.dj ts r).updM f
theorem OTRL.dj {c : Cy} {F : Hp} : ∀ (ts : List OT) {vs : List V} {M : Hp}, OTRL c F ts vs M → Dj F M
  | [], vs, M, h => by simp only [OTRL] at h; rw [h.2]; exact fun a o q => nomatch q
  | t :: ts, vs, M, h => by
    simp only [OTRL] at h
    obtain ⟨v, vr, M1, M2, e, r1, r2, d, rfl⟩ := h
    intro a o q
    rcases hh_some q with z | ⟨_, z⟩
    · exact OTR.dj t r1 a o z
    · exact OTRL.dj ts r2 a o z
end
mutual
/-- a tree is frozen -/
theorem OTR.frz {c : Cy} {F G : Hp} (s : Same F G) : ∀ (t : OT) {v : V} {Mo : Hp}, Same Mo G → OTR c F t v Mo → Dr c G v (otD t)
  | .sh d, v, Mo, g, h => by simp only [OTR] at h; simp only [otD]; exact h.1.up s
  | .lst ts, v, Mo, g, h => by
    simp only [OTR] at h
    obtain ⟨a, vs, M1, e, r, f, m, rfl⟩ := h
    simp only [otD, Dr]
    exact ⟨a, vs, e, g _ _ upd_same, OTRL.frz s ts (fun x o q => g x o (by rw [upd_ne (ne_of_none q m)]; exact q)) r⟩
  | .dk ks ts, v, Mo, g, h => by
    simp only [OTR] at h
    obtain ⟨a, vs, M1, e, k, r, f, m, rfl⟩ := h
    simp only [otD, Dr]
    exact ⟨a, vs, e, .inl (g _ _ upd_same), k, OTRL.frz s ts (fun x o q => g x o (by rw [upd_ne (ne_of_none q m)]; exact q)) r⟩
  | .dt ks ts, v, Mo, g, h => by
    simp only [OTR] at h
    obtain ⟨a, vs, M1, e, k, r, f, m, rfl⟩ := h
    simp only [otD, Dr]
    exact ⟨a, vs, e, .inl (g _ _ upd_same), k, OTRL.frz s ts (fun x o q => g x o (by rw [upd_ne (ne_of_none q m)]; exact q)) r⟩
  | .ins nm fs ts, v, Mo, g, h => by
    simp only [OTR] at h
    obtain ⟨a, C, dx, vs, M1, e, g1, k, r, f, m, rfl⟩ := h
    simp only [otD, Dr]
    exact ⟨a, C, dx, vs, e, g _ _ upd_same, g1, k, OTRL.frz s ts (fun x o q => g x o (by rw [upd_ne (ne_of_none q m)]; exact q)) r⟩
theorem OTRL.frz {c : Cy} {F G : Hp} (s : Same F G) : ∀ (ts : List OT) {vs : List V} {M : Hp}, Same M G → OTRL c F ts vs M → DrL c G vs (otDL ts)
  | [], vs, M, g, h => by simp only [OTRL] at h; simp only [otDL]; rw [h.1]; exact .nil
  | t :: ts, vs, M, g, h => by
    simp only [OTRL] at h
    obtain ⟨v, vr, M1, M2, rfl, r1, r2, d, rfl⟩ := h
    simp only [otDL]
    exact .cons (OTR.frz s t (fun x o q => g x o (hh_m q)) r1) (OTRL.frz s ts (fun x o q => g x o (d.f q)) r2)
end
inductive Sl where
  | no | sh (d : D) | ol (ds : List D) | ok (ks : List Key) (ds : List D) | ot (ks : List (List Key)) (ds : List D) | oi (n : Str) (fs : List Str) (ds : List D) | bx | od (x : V) (t : OT)
  deriving Inhabited

/-- an own object: what it holds -/
def ObR (c : Cy) (F : Hp) : Sl → HO → Prop
  | .ol ds, o => ∃ vs, o = .lst vs ∧ DrL c F vs ds
  | .ok ks ds, o => ∃ ps, o = .dK ps ∧ ps.map (·.1) = ks ∧ DrL c F (ps.map (·.2)) ds
  | .ot ks ds, o => ∃ ps, o = .dT ps ∧ ps.map (·.1) = ks ∧ DrL c F (ps.map (·.2)) ds
  | .oi n fs ds, o => ∃ C dx ps, o = .ins C dx ps ∧ c.mg n = some (.ref C) ∧ ps.map (·.1) = fs ∧ DrL c F (ps.map (·.2)) ds
  | _, _ => False
theorem ObR.leD {c : Cy} {F G : Hp} (s : LeD F G) : ∀ {sl : Sl} {o : HO}, ObR c F sl o → ObR c G sl o
  | .ol ds, o, ⟨vs, e, h⟩ => ⟨vs, e, h.leD s⟩
  | .ok ks ds, o, ⟨ps, e, k, h⟩ => ⟨ps, e, k, h.leD s⟩
  | .ot ks ds, o, ⟨ps, e, k, h⟩ => ⟨ps, e, k, h.leD s⟩
  | .oi n fs ds, o, ⟨C, dx, ps, e, m, k, h⟩ => ⟨C, dx, ps, e, m, k, h.leD s⟩
  | .no, _, h => h.elim
  | .sh _, _, h => h.elim
  | .bx, _, h => h.elim
  | .od _ _, _, h => h.elim
/-- the data of an own object -/
def obD : Sl → D
  | .ol ds => .lst ds
  | .ok ks ds => .dk ks ds
  | .ot ks ds => .dt ks ds
  | .oi n fs ds => .ins n fs ds
  | .sh d => d
  | .od _ t => otD t
  | _ => .non
theorem ObR.dr {c : Cy} {F : Hp} {a : Addr} : ∀ {sl : Sl} {o : HO}, ObR c F sl o → F a = some o → Dr c F (.ref a) (obD sl)
  | .ol ds, o, ⟨vs, e, h⟩, q => by subst e; simp only [obD, Dr]; exact ⟨a, vs, rfl, q, h⟩
  | .ok ks ds, o, ⟨ps, e, k, h⟩, q => by subst e; simp only [obD, Dr]; exact ⟨a, ps, rfl, .inl q, k, h⟩
  | .ot ks ds, o, ⟨ps, e, k, h⟩, q => by subst e; simp only [obD, Dr]; exact ⟨a, ps, rfl, .inl q, k, h⟩
  | .oi n fs ds, o, ⟨C, dx, ps, e, m, k, h⟩, q => by subst e; simp only [obD, Dr]; exact ⟨a, C, dx, ps, rfl, q, m, k, h⟩
  | .no, _, h, _ => h.elim
  | .sh _, _, h, _ => h.elim
  | .bx, _, h, _ => h.elim
  | .od _ _, _, h, _ => h.elim

/-- the slots' values; M: the frame's changing part M0 and the own objects -/
def RelE (c : Cy) (b : Option Addr) (F M0 : Hp) : List Sl → St → Hp → Prop
  | [], σ, M => σ = [] ∧ M = M0 ∧ NT M0
  | s :: ρ, σ, M => ∃ v σr, σ = v :: σr ∧ match s with
    | .no => RelE c b F M0 ρ σr M
    | .sh d => (∃ x, v = some x ∧ Dr c F x d) ∧ RelE c b F M0 ρ σr M
    | .bx => (∃ a, b = some a ∧ v = some (.ref a)) ∧ RelE c b F M0 ρ σr M
    | .od x t => ∃ Mo M', v = some x ∧ OTR c F t x Mo ∧ Dj M' Mo ∧ M = HH M' Mo ∧ RelE c b F M0 ρ σr M'
    | sl => ∃ a o M', v = some (.ref a) ∧ ObR c F sl o ∧ F a = none ∧ M' a = none ∧ M = upd M' a o ∧ RelE c b F M0 ρ σr M'

/-- the box of digits at a -/
def Box (F M : Hp) (a : Addr) : Prop := ∃ (da : Addr) (ns : List Int) (n : Int), M a = some (.lst [.ref da, .int n]) ∧ F da = some (.lst (ns.map V.int)) ∧ 0 ≤ n
/-- the frame's changing part but for the box -/
def MR (b : Option Addr) (M M' : Hp) : Prop := ∀ a, b ≠ some a → M' a = M a
theorem MR.refl (b : Option Addr) (M : Hp) : MR b M M := fun _ _ => rfl
theorem MR.trans {b : Option Addr} {M M1 M2 : Hp} (h : MR b M M1) (h' : MR b M1 M2) : MR b M M2 := fun a e => (h' a e).trans (h a e)
/-- what is known of the heap since the def began -/
class Lk where
  lk : Option Addr → Hp → Hp → Prop
  mono : ∀ {b : Option Addr} {F F' M M' : Hp}, lk b F M → Same F F' → MR b M M' → lk b F' M'
  lay : ∀ {b : Option Addr} {F M : Hp} {p : Addr} {o : HO}, lk b F M → M p = none → lk b F (upd M p o)
abbrev Lk.top : Lk := ⟨fun _ _ _ => True, fun _ _ _ => trivial, fun _ _ => trivial⟩
/-- .. also while a dict is locked -/
class LkS extends Lk where
  swap : ∀ {b : Option Addr} {F M : Hp} {a : Addr} {u u' : HO}, lk b F M → F a = some u → lk b (upd F a u') M
instance LkS.top : LkS := { Lk.top with swap := fun _ _ => trivial }
variable [Lk]
structure Rel (c : Cy) (b : Option Addr) (ρ : List Sl) (σ : St) (F M M0 : Hp) : Prop where
  dj : Dj F M
  env : RelE c b F M0 ρ σ M
  box : ∀ a, b = some a → Box F M0 a
  lk : Lk.lk b F M0
structure Rel0 (c : Cy) (b : Option Addr) (ρ : List Sl) (σ : St) (F M M0 : Hp) : Prop where
  dj : Dj F M
  env : RelE c b F M0 ρ σ M
  box : ∀ a, b = some a → Box F M0 a
omit [Lk] in
theorem Rel0.dj' {c : Cy} {b : Option Addr} {ρ : List Sl} {σ : St} {F M M0 : Hp} (R : Rel0 c b ρ σ F M M0) : Dj F M := R.dj
theorem Rel.r0 {c : Cy} {b : Option Addr} {ρ : List Sl} {σ : St} {F M M0 : Hp} (R : Rel c b ρ σ F M M0) : Rel0 c b ρ σ F M M0 := ⟨R.dj, R.env, R.box⟩
theorem Rel0.rel {c : Cy} {b : Option Addr} {ρ : List Sl} {σ : St} {F M M0 : Hp} (R : Rel0 c b ρ σ F M M0) (h : Lk.lk b F M0) : Rel c b ρ σ F M M0 := ⟨R.dj, R.env, R.box, h⟩
theorem Rel.lkM {c : Cy} {b : Option Addr} {ρ : List Sl} {σ : St} {F M M0 F' M0' : Hp} (R : Rel c b ρ σ F M M0) (s : Same F F') (m : MR b M0 M0') : Lk.lk b F' M0' := Lk.mono R.lk s m
theorem Rel.lkS {c : Cy} {b : Option Addr} {ρ : List Sl} {σ : St} {F M M0 F' : Hp} (R : Rel c b ρ σ F M M0) (s : Same F F') : Lk.lk b F' M0 := Lk.mono R.lk s (MR.refl _ _)
/-- all that is tracked stays, but for the box -/
def Ext (b : Option Addr) (H H' : Hp) : Prop := ∀ a o, b ≠ some a → H a = some o → H' a = some o
theorem Ext.refl (b : Option Addr) (H : Hp) : Ext b H H := fun _ _ _ h => h
theorem Ext.trans {b : Option Addr} {H H1 H2 : Hp} (h : Ext b H H1) (h' : Ext b H1 H2) : Ext b H H2 := fun a o e q => h' a o e (h a o e q)

section
variable {c : Cy} {b : Option Addr} {F G M M0 : Hp}
theorem Box.leD (s : LeD F G) {a : Addr} (h : Box F M a) : Box G M a := by
  obtain ⟨da, ns, n, h1, h2, h3⟩ := h
  exact ⟨da, ns, n, h1, s.pl _ _ h2 trivial, h3⟩
/-- the frozen part grows -/
theorem RelE.leD (s : LeD F G) (nw : ∀ a o, M0 a = some o → F a = none → G a = none) : ∀ {ρ : List Sl} {σ : St} {M : Hp}, (∀ a o, M a = some o → F a = none → G a = none) → RelE c b F M0 ρ σ M → RelE c b G M0 ρ σ M
  | [], σ, M, n, h => h
  | s1 :: ρ, σ, M, n, h => by
    obtain ⟨v, σr, e, h⟩ := h
    refine ⟨v, σr, e, ?_⟩
    have own : ∀ sl : Sl, (∃ a o M', v = some (.ref a) ∧ ObR c F sl o ∧ F a = none ∧ M' a = none ∧ M = upd M' a o ∧ RelE c b F M0 ρ σr M') →
        ∃ a o M', v = some (.ref a) ∧ ObR c G sl o ∧ G a = none ∧ M' a = none ∧ M = upd M' a o ∧ RelE c b G M0 ρ σr M' := fun sl h => by
      obtain ⟨a, o, M', e1, r, f, m, e2, t⟩ := h
      refine ⟨a, o, M', e1, r.leD s, n a o (by rw [e2]; exact upd_same) f, m, e2, RelE.leD s nw (fun x u q z => n x u ?_ z) t⟩
      rw [e2, upd_ne (ne_of_none q m)]
      exact q
    cases s1 with
    | no => exact RelE.leD s nw n h
    | sh d =>
      obtain ⟨⟨x, e1, q⟩, t⟩ := h
      exact ⟨⟨x, e1, q.leD s⟩, RelE.leD s nw n t⟩
    | bx =>
      obtain ⟨q, t⟩ := h
      exact ⟨q, RelE.leD s nw n t⟩
    | ol ds => exact own (.ol ds) h
    | ok ks ds => exact own (.ok ks ds) h
    | ot ks ds => exact own (.ot ks ds) h
    | oi n fs ds => exact own (.oi n fs ds) h
    | od x t0 =>
      obtain ⟨Mo, M', e1, r, dj, e2, t⟩ := h
      exact ⟨Mo, M', e1, OTR.leD s t0 (fun a o q => n a o (by rw [e2]; exact hh_m q)) r, dj, e2, RelE.leD s nw (fun y u q => n y u (by rw [e2]; exact dj.f q)) t⟩
theorem RelE.length : ∀ {ρ : List Sl} {σ : St} {M : Hp}, RelE c b F M0 ρ σ M → σ.length = ρ.length
  | [], σ, M, h => by rw [h.1]; rfl
  | s1 :: ρ, σ, M, h => by
    obtain ⟨v, σr, e, h⟩ := h
    subst e
    rw [List.length_cons, List.length_cons]
    congr 1
    cases s1 with
    | no => exact RelE.length h
    | sh d => exact RelE.length h.2
    | bx => exact RelE.length h.2
    | ol ds => obtain ⟨_, _, _, _, _, _, _, _, t⟩ := h; exact RelE.length t
    | ok ks ds => obtain ⟨_, _, _, _, _, _, _, _, t⟩ := h; exact RelE.length t
    | ot ks ds => obtain ⟨_, _, _, _, _, _, _, _, t⟩ := h; exact RelE.length t
    | oi n fs ds => obtain ⟨_, _, _, _, _, _, _, _, t⟩ := h; exact RelE.length t
    | od x t0 => obtain ⟨_, _, _, _, _, _, t⟩ := h; exact RelE.length t
/-- the frame's part lies in the whole -/
theorem RelE.sub : ∀ {ρ : List Sl} {σ : St} {M : Hp}, RelE c b F M0 ρ σ M → ∀ a o, M0 a = some o → M a = some o
  | [], σ, M, h, a, o, q => by rw [h.2.1]; exact q
  | s1 :: ρ, σ, M, h, a, o, q => by
    obtain ⟨v, σr, e, h⟩ := h
    have own : ∀ sl : Sl, (∃ a o M', v = some (.ref a) ∧ ObR c F sl o ∧ F a = none ∧ M' a = none ∧ M = upd M' a o ∧ RelE c b F M0 ρ σr M') → M a = some o := fun sl h => by
      obtain ⟨x, u, M', e1, r, f, m, e2, t⟩ := h
      have z := RelE.sub t a o q
      rw [e2, upd_ne (ne_of_none z m)]
      exact z
    cases s1 with
    | no => exact RelE.sub h a o q
    | sh d => exact RelE.sub h.2 a o q
    | bx => exact RelE.sub h.2 a o q
    | ol ds => exact own (.ol ds) h
    | ok ks ds => exact own (.ok ks ds) h
    | ot ks ds => exact own (.ot ks ds) h
    | oi n fs ds => exact own (.oi n fs ds) h
    | od x t0 =>
      obtain ⟨Mo, M', e1, r, dj, e2, t⟩ := h
      rw [e2]; exact dj.f (RelE.sub t a o q)
theorem RelE.nt0 : ∀ {ρ : List Sl} {σ : St} {M : Hp}, RelE c b F M0 ρ σ M → NT M0
  | [], σ, M, h => h.2.2
  | s1 :: ρ, σ, M, h => by
    obtain ⟨v, σr, e, h⟩ := h
    cases s1 with
    | no => exact RelE.nt0 h
    | sh d => exact RelE.nt0 h.2
    | bx => exact RelE.nt0 h.2
    | ol ds => obtain ⟨_, _, _, _, _, _, _, _, t⟩ := h; exact RelE.nt0 t
    | ok ks ds => obtain ⟨_, _, _, _, _, _, _, _, t⟩ := h; exact RelE.nt0 t
    | ot ks ds => obtain ⟨_, _, _, _, _, _, _, _, t⟩ := h; exact RelE.nt0 t
    | oi n fs ds => obtain ⟨_, _, _, _, _, _, _, _, t⟩ := h; exact RelE.nt0 t
    | od x t0 => obtain ⟨_, _, _, _, _, _, t⟩ := h; exact RelE.nt0 t
theorem ObR.ntup {sl : Sl} {o : HO} (h : ObR c F sl o) : ∀ xs, o ≠ .tup xs := fun xs z => by
  subst z
  cases sl with
  | ol ds => obtain ⟨_, e, _⟩ := h; cases e
  | ok ks ds => obtain ⟨_, e, _⟩ := h; cases e
  | ot ks ds => obtain ⟨_, e, _⟩ := h; cases e
  | oi n fs ds => obtain ⟨_, _, _, e, _⟩ := h; cases e
  | _ => exact h.elim
theorem RelE.nt : ∀ {ρ : List Sl} {σ : St} {M : Hp}, RelE c b F M0 ρ σ M → NT M
  | [], σ, M, h => by rw [h.2.1]; exact h.2.2
  | s1 :: ρ, σ, M, h => by
    obtain ⟨v, σr, e, h⟩ := h
    have own : ∀ sl : Sl, (∃ a o M', v = some (.ref a) ∧ ObR c F sl o ∧ F a = none ∧ M' a = none ∧ M = upd M' a o ∧ RelE c b F M0 ρ σr M') → NT M := fun sl h => by
      obtain ⟨x, u, M', e1, r, f, m, e2, t⟩ := h
      rw [e2]
      exact (RelE.nt t).upd r.ntup
    cases s1 with
    | no => exact RelE.nt h
    | sh d => exact RelE.nt h.2
    | bx => exact RelE.nt h.2
    | ol ds => exact own (.ol ds) h
    | ok ks ds => exact own (.ok ks ds) h
    | ot ks ds => exact own (.ot ks ds) h
    | oi n fs ds => exact own (.oi n fs ds) h
    | od x t0 =>
      obtain ⟨Mo, M', e1, r, dj, e2, t⟩ := h
      rw [e2]; exact (RelE.nt t).hh (OTR.nt t0 r)
theorem upd_comm {H : Hp} {a d : Addr} {o u : HO} (h : a ≠ d) : upd (upd H a o) d u = upd (upd H d u) a o := by
  funext x
  by_cases e : x = a
  · subst e; rw [upd_ne h, upd_same, upd_same]
  · by_cases e2 : x = d
    · subst e2; rw [upd_same, upd_ne e, upd_same]
    · rw [upd_ne e2, upd_ne e, upd_ne e, upd_ne e2]
/-- a thing of the frame changes, or is new there -/
theorem RelE.frame {x : Addr} {u : HO} (hu : ∀ xs, u ≠ .tup xs) : ∀ {ρ : List Sl} {σ : St} {M : Hp}, RelE c b F M0 ρ σ M → (M x = none ∨ (M0 x).isSome = true) → RelE c b F (upd M0 x u) ρ σ (upd M x u)
  | [], σ, M, h, _ => ⟨h.1, by rw [h.2.1], h.2.2.upd hu⟩
  | s1 :: ρ, σ, M, h, hx => by
    obtain ⟨v, σr, e, h⟩ := h
    refine ⟨v, σr, e, ?_⟩
    have own : ∀ sl : Sl, (∃ a o M', v = some (.ref a) ∧ ObR c F sl o ∧ F a = none ∧ M' a = none ∧ M = upd M' a o ∧ RelE c b F M0 ρ σr M') →
        ∃ a o M', v = some (.ref a) ∧ ObR c F sl o ∧ F a = none ∧ M' a = none ∧ upd M x u = upd M' a o ∧ RelE c b F (upd M0 x u) ρ σr M' := fun sl h => by
      obtain ⟨a, o, M', e1, r, f, m, e2, t⟩ := h
      have ne : a ≠ x := fun z => by
        subst z
        rcases hx with hx | hx
        · rw [e2, upd_same] at hx; cases hx
        · obtain ⟨w, hw⟩ := Option.isSome_iff_exists.mp hx
          have := t.sub _ _ hw
          rw [m] at this; cases this
      have hx' : M' x = none ∨ (M0 x).isSome = true := by
        rcases hx with hx | hx
        · rw [e2, upd_ne ne.symm] at hx; exact .inl hx
        · exact .inr hx
      exact ⟨a, o, upd M' x u, e1, r, f, by rw [upd_ne ne]; exact m, by rw [e2, upd_comm ne], RelE.frame hu t hx'⟩
    cases s1 with
    | no => exact RelE.frame hu h hx
    | sh d => exact ⟨h.1, RelE.frame hu h.2 hx⟩
    | bx => exact ⟨h.1, RelE.frame hu h.2 hx⟩
    | ol ds => exact own (.ol ds) h
    | ok ks ds => exact own (.ok ks ds) h
    | ot ks ds => exact own (.ot ks ds) h
    | oi n fs ds => exact own (.oi n fs ds) h
    | od y t0 =>
      obtain ⟨Mo, M', e1, r, dj, e2, t⟩ := h
      have hy : Mo x = none ∧ (M' x = none ∨ (M0 x).isSome = true) := by
        rcases hx with hx | hx
        · rw [e2] at hx
          have := hh_none hx
          exact ⟨this.2, .inl this.1⟩
        · obtain ⟨w, hw⟩ := Option.isSome_iff_exists.mp hx
          exact ⟨dj.mn (t.sub _ _ hw), .inr hx⟩
      exact ⟨Mo, upd M' x u, e1, r, dj.updF hy.1, by rw [e2, hh_updF hy.1], RelE.frame hu t hy.2⟩
/-- the frame's part is another one on the box -/
theorem RelE.mr {N0 : Hp} {x : Addr} (mr : MR (some x) M0 N0) (hx : (M0 x).isSome = true) (hx' : (N0 x).isSome = true) (hnx : ∀ xs, N0 x ≠ some (.tup xs)) : ∀ {ρ : List Sl} {σ : St} {M : Hp}, RelE c b F M0 ρ σ M →
    ∃ N, RelE c b F N0 ρ σ N ∧ MR (some x) M N ∧ N x = N0 x := fun {ρ σ M} h => by
  obtain ⟨w, hw⟩ := Option.isSome_iff_exists.mp hx'
  have e : N0 = upd M0 x w := by
    funext y
    by_cases z : y = x
    · rw [z, upd_same, hw]
    · rw [upd_ne z]
      exact mr y fun q => z (Option.some.inj q).symm
  refine ⟨upd M x w, by rw [e]; exact RelE.frame (fun xs z => hnx xs (by rw [hw, z])) h (.inr hx), fun y q => upd_ne fun z => q (by rw [z]), by rw [upd_same, hw]⟩
/-- the value in a slot -/
theorem RelE.get : ∀ {ρ : List Sl} {σ : St} {M : Hp} {i : Nat} {d : D}, RelE c b F M0 ρ σ M → ρ[i]? = some (.sh d) → ∃ x, σ[i]? = some (some x) ∧ Dr c F x d
  | [], σ, M, i, d, h, e => by simp at e
  | s1 :: ρ, σ, M, 0, d, h, e => by
    obtain ⟨v, σr, e1, h⟩ := h
    simp at e; subst e; subst e1
    obtain ⟨⟨x, e2, q⟩, _⟩ := h
    exact ⟨x, by rw [e2]; rfl, q⟩
  | s1 :: ρ, σ, M, i + 1, d, h, e => by
    obtain ⟨v, σr, e1, h⟩ := h
    subst e1
    have e' : ρ[i]? = some (.sh d) := by simpa using e
    have go : ∀ {M' : Hp}, RelE c b F M0 ρ σr M' → ∃ x, (v :: σr)[i + 1]? = some (some x) ∧ Dr c F x d := fun t => by
      obtain ⟨x, h1, h2⟩ := RelE.get t e'
      exact ⟨x, by simpa using h1, h2⟩
    cases s1 with
    | no => exact go h
    | sh d => exact go h.2
    | bx => exact go h.2
    | ol ds => obtain ⟨_, _, _, _, _, _, _, _, t⟩ := h; exact go t
    | ok ks ds => obtain ⟨_, _, _, _, _, _, _, _, t⟩ := h; exact go t
    | ot ks ds => obtain ⟨_, _, _, _, _, _, _, _, t⟩ := h; exact go t
    | oi n fs ds => obtain ⟨_, _, _, _, _, _, _, _, t⟩ := h; exact go t
    | od x t0 => obtain ⟨_, _, _, _, _, _, t⟩ := h; exact go t
theorem RelE.getB : ∀ {ρ : List Sl} {σ : St} {M : Hp} {i : Nat}, RelE c b F M0 ρ σ M → ρ[i]? = some .bx → ∃ a, b = some a ∧ σ[i]? = some (some (.ref a))
  | [], σ, M, i, h, e => by simp at e
  | s1 :: ρ, σ, M, 0, h, e => by
    obtain ⟨v, σr, e1, h⟩ := h
    simp at e; subst e; subst e1
    obtain ⟨⟨x, e2, q⟩, _⟩ := h
    exact ⟨x, e2, by rw [q]; rfl⟩
  | s1 :: ρ, σ, M, i + 1, h, e => by
    obtain ⟨v, σr, e1, h⟩ := h
    subst e1
    have e' : ρ[i]? = some .bx := by simpa using e
    have go : ∀ {M' : Hp}, RelE c b F M0 ρ σr M' → ∃ a, b = some a ∧ (v :: σr)[i + 1]? = some (some (.ref a)) := fun t => by
      obtain ⟨x, h1, h2⟩ := RelE.getB t e'
      exact ⟨x, h1, by simpa using h2⟩
    cases s1 with
    | no => exact go h
    | sh d => exact go h.2
    | bx => exact go h.2
    | ol ds => obtain ⟨_, _, _, _, _, _, _, _, t⟩ := h; exact go t
    | ok ks ds => obtain ⟨_, _, _, _, _, _, _, _, t⟩ := h; exact go t
    | ot ks ds => obtain ⟨_, _, _, _, _, _, _, _, t⟩ := h; exact go t
    | oi n fs ds => obtain ⟨_, _, _, _, _, _, _, _, t⟩ := h; exact go t
    | od x t0 => obtain ⟨_, _, _, _, _, _, t⟩ := h; exact go t
/-- an own slot: its object; it may be changed; it may be frozen -/
def isShal : Sl → Prop
  | .ol _ => True
  | .ok _ _ => True
  | .ot _ _ => True
  | .oi _ _ _ => True
  | _ => False
def isOwn : Sl → Prop
  | .od _ _ => True
  | .ol _ => True
  | .ok _ _ => True
  | .ot _ _ => True
  | .oi _ _ _ => True
  | _ => False
theorem RelE.own : ∀ {ρ : List Sl} {σ : St} {M : Hp} {i : Nat} {sl : Sl}, RelE c b F M0 ρ σ M → ρ[i]? = some sl → isShal sl →
    ∃ a o M', σ[i]? = some (some (.ref a)) ∧ ObR c F sl o ∧ F a = none ∧ M' a = none ∧ M = upd M' a o ∧ M0 a = none ∧
      (∀ x, RelE c b F M0 (ρ.set i .no) (σ.set i x) M') ∧
      ∀ (sl' : Sl) (o' : HO), isShal sl' → ObR c F sl' o' → RelE c b F M0 (ρ.set i sl') σ (upd M' a o')
  | [], σ, M, i, sl, h, e, _ => by simp at e
  | s1 :: ρ, σ, M, 0, sl, h, e, hs => by
    obtain ⟨v, σr, e1, h⟩ := h
    simp at e; subst e; subst e1
    have own : (∃ a o M', v = some (.ref a) ∧ ObR c F s1 o ∧ F a = none ∧ M' a = none ∧ M = upd M' a o ∧ RelE c b F M0 ρ σr M') := by
      cases s1 <;> first | exact h | exact hs.elim
    obtain ⟨a, o, M', e2, r, f, m, e3, t⟩ := own
    subst e2
    refine ⟨a, o, M', rfl, r, f, m, e3, ?_, fun x => ⟨x, σr, rfl, t⟩, fun sl' o' hs' r' => ⟨some (.ref a), σr, rfl, ?_⟩⟩
    · cases q : M0 a with
      | none => rfl
      | some u => rw [t.sub _ _ q] at m; cases m
    · cases sl' <;> first | exact hs'.elim | exact ⟨a, o', M', rfl, r', f, m, rfl, t⟩
  | s1 :: ρ, σ, M, i + 1, sl, h, e, hs => by
    obtain ⟨v, σr, e1, h⟩ := h
    subst e1
    have e' : ρ[i]? = some sl := by simpa using e
    have down : ∀ {M1 : Hp} (P : Hp → Hp → Prop), RelE c b F M0 ρ σr M1 → True := fun _ _ => trivial
    cases s1 with
    | no =>
      obtain ⟨a, o, M', h1, h2, h3, h4, h5, h6, h7, h8⟩ := RelE.own h e' hs
      exact ⟨a, o, M', by simpa using h1, h2, h3, h4, h5, h6, fun x => ⟨v, σr.set i x, rfl, h7 x⟩, fun sl' o' p q => ⟨v, σr, rfl, h8 sl' o' p q⟩⟩
    | sh d =>
      obtain ⟨a, o, M', h1, h2, h3, h4, h5, h6, h7, h8⟩ := RelE.own h.2 e' hs
      exact ⟨a, o, M', by simpa using h1, h2, h3, h4, h5, h6, fun x => ⟨v, σr.set i x, rfl, h.1, h7 x⟩, fun sl' o' p q => ⟨v, σr, rfl, h.1, h8 sl' o' p q⟩⟩
    | bx =>
      obtain ⟨a, o, M', h1, h2, h3, h4, h5, h6, h7, h8⟩ := RelE.own h.2 e' hs
      exact ⟨a, o, M', by simpa using h1, h2, h3, h4, h5, h6, fun x => ⟨v, σr.set i x, rfl, h.1, h7 x⟩, fun sl' o' p q => ⟨v, σr, rfl, h.1, h8 sl' o' p q⟩⟩
    | ol ds =>
      obtain ⟨x, u, N, k1, k2, k3, k4, k5, t⟩ := h
      obtain ⟨a, o, M', h1, h2, h3, h4, h5, h6, h7, h8⟩ := RelE.own t e' hs
      have ne : x ≠ a := fun z => by rw [z, h5, upd_same] at k4; cases k4
      refine ⟨a, o, upd M' x u, by simpa using h1, h2, h3, by rw [upd_ne ne.symm]; exact h4, by rw [k5, h5, upd_comm ne.symm], h6, fun y => ⟨v, σr.set i y, rfl, x, u, M', k1, k2, k3, ?_, rfl, h7 y⟩, fun sl' o' p q => ⟨v, σr, rfl, x, u, upd M' a o', k1, k2, k3, ?_, upd_comm ne, h8 sl' o' p q⟩⟩
      · rw [h5, upd_ne ne] at k4; exact k4
      · rw [h5, upd_ne ne] at k4; rw [upd_ne ne]; exact k4
    | ok ks ds =>
      obtain ⟨x, u, N, k1, k2, k3, k4, k5, t⟩ := h
      obtain ⟨a, o, M', h1, h2, h3, h4, h5, h6, h7, h8⟩ := RelE.own t e' hs
      have ne : x ≠ a := fun z => by rw [z, h5, upd_same] at k4; cases k4
      refine ⟨a, o, upd M' x u, by simpa using h1, h2, h3, by rw [upd_ne ne.symm]; exact h4, by rw [k5, h5, upd_comm ne.symm], h6, fun y => ⟨v, σr.set i y, rfl, x, u, M', k1, k2, k3, ?_, rfl, h7 y⟩, fun sl' o' p q => ⟨v, σr, rfl, x, u, upd M' a o', k1, k2, k3, ?_, upd_comm ne, h8 sl' o' p q⟩⟩
      · rw [h5, upd_ne ne] at k4; exact k4
      · rw [h5, upd_ne ne] at k4; rw [upd_ne ne]; exact k4
    | ot ks ds =>
      obtain ⟨x, u, N, k1, k2, k3, k4, k5, t⟩ := h
      obtain ⟨a, o, M', h1, h2, h3, h4, h5, h6, h7, h8⟩ := RelE.own t e' hs
      have ne : x ≠ a := fun z => by rw [z, h5, upd_same] at k4; cases k4
      refine ⟨a, o, upd M' x u, by simpa using h1, h2, h3, by rw [upd_ne ne.symm]; exact h4, by rw [k5, h5, upd_comm ne.symm], h6, fun y => ⟨v, σr.set i y, rfl, x, u, M', k1, k2, k3, ?_, rfl, h7 y⟩, fun sl' o' p q => ⟨v, σr, rfl, x, u, upd M' a o', k1, k2, k3, ?_, upd_comm ne, h8 sl' o' p q⟩⟩
      · rw [h5, upd_ne ne] at k4; exact k4
      · rw [h5, upd_ne ne] at k4; rw [upd_ne ne]; exact k4
    | oi n fs ds =>
      obtain ⟨x, u, N, k1, k2, k3, k4, k5, t⟩ := h
      obtain ⟨a, o, M', h1, h2, h3, h4, h5, h6, h7, h8⟩ := RelE.own t e' hs
      have ne : x ≠ a := fun z => by rw [z, h5, upd_same] at k4; cases k4
      refine ⟨a, o, upd M' x u, by simpa using h1, h2, h3, by rw [upd_ne ne.symm]; exact h4, by rw [k5, h5, upd_comm ne.symm], h6, fun y => ⟨v, σr.set i y, rfl, x, u, M', k1, k2, k3, ?_, rfl, h7 y⟩, fun sl' o' p q => ⟨v, σr, rfl, x, u, upd M' a o', k1, k2, k3, ?_, upd_comm ne, h8 sl' o' p q⟩⟩
      · rw [h5, upd_ne ne] at k4; exact k4
      · rw [h5, upd_ne ne] at k4; rw [upd_ne ne]; exact k4
    | od x t0 =>
      obtain ⟨Mo, N, k1, k2, dj, k5, t⟩ := h
      obtain ⟨a, o, M', h1, h2, h3, h4, h5, h6, h7, h8⟩ := RelE.own t e' hs
      have ma : Mo a = none := dj.mn (show N a = some o by rw [h5]; exact upd_same)
      have dj' : Dj M' Mo := fun y w q => by
        have := dj y w q
        rw [h5] at this
        by_cases z : y = a
        · rw [z]; exact h4
        · rw [upd_ne z] at this; exact this
      exact ⟨a, o, HH M' Mo, by simpa using h1, h2, h3, by rw [hh_n ma]; exact h4, by rw [k5, h5, hh_updF ma], h6, fun y => ⟨v, σr.set i y, rfl, Mo, M', k1, k2, dj', rfl, h7 y⟩,
        fun sl' o' p q => ⟨v, σr, rfl, Mo, upd M' a o', k1, k2, dj'.updF ma, hh_updF ma, h8 sl' o' p q⟩⟩
/-- a slot that holds no own object is stored -/
theorem RelE.setSh {x : V} {d : D} (q : Dr c F x d) : ∀ {ρ : List Sl} {σ : St} {M : Hp} {i : Nat} {sl : Sl}, RelE c b F M0 ρ σ M → ρ[i]? = some sl → ¬ isOwn sl → RelE c b F M0 (ρ.set i (.sh d)) (σ.set i (some x)) M
  | [], σ, M, i, sl, h, e, _ => by simp at e
  | s1 :: ρ, σ, M, 0, sl, h, e, hs => by
    obtain ⟨v, σr, e1, h⟩ := h
    simp at e; subst e; subst e1
    refine ⟨some x, σr, rfl, ⟨x, rfl, q⟩, ?_⟩
    cases s1 <;> first | exact h | exact h.2 | exact (hs trivial).elim
  | s1 :: ρ, σ, M, i + 1, sl, h, e, hs => by
    obtain ⟨v, σr, e1, h⟩ := h
    subst e1
    have e' : ρ[i]? = some sl := by simpa using e
    refine ⟨v, σr.set i (some x), rfl, ?_⟩
    have own : ∀ s2 : Sl, (∃ a o M', v = some (.ref a) ∧ ObR c F s2 o ∧ F a = none ∧ M' a = none ∧ M = upd M' a o ∧ RelE c b F M0 ρ σr M') →
        ∃ a o M', v = some (.ref a) ∧ ObR c F s2 o ∧ F a = none ∧ M' a = none ∧ M = upd M' a o ∧ RelE c b F M0 (ρ.set i (.sh d)) (σr.set i (some x)) M' := fun s2 h => by
      obtain ⟨a, o, M', k1, k2, k3, k4, k5, t⟩ := h
      exact ⟨a, o, M', k1, k2, k3, k4, k5, RelE.setSh q t e' hs⟩
    cases s1 with
    | no => exact RelE.setSh q h e' hs
    | sh d => exact ⟨h.1, RelE.setSh q h.2 e' hs⟩
    | bx => exact ⟨h.1, RelE.setSh q h.2 e' hs⟩
    | ol ds => exact own (.ol ds) h
    | ok ks ds => exact own (.ok ks ds) h
    | ot ks ds => exact own (.ot ks ds) h
    | oi n fs ds => exact own (.oi n fs ds) h
    | od y t0 =>
      obtain ⟨Mo, M', e1, r, dj, e2, t⟩ := h
      exact ⟨Mo, M', e1, r, dj, e2, RelE.setSh q t e' hs⟩
/-- a slot that holds no own object is given one -/
theorem RelE.setOw {a : Addr} {o : HO} {so : Sl} (ho : isShal so) (r : ObR c F so o) (f : F a = none) : ∀ {ρ : List Sl} {σ : St} {M : Hp} {i : Nat} {sl : Sl}, RelE c b F M0 ρ σ M → M a = none → ρ[i]? = some sl → ¬ isOwn sl →
    RelE c b F M0 (ρ.set i so) (σ.set i (some (.ref a))) (upd M a o)
  | [], σ, M, i, sl, h, _, e, _ => by simp at e
  | s1 :: ρ, σ, M, 0, sl, h, m, e, hs => by
    obtain ⟨v, σr, e1, h⟩ := h
    simp at e; subst e; subst e1
    refine ⟨some (.ref a), σr, rfl, ?_⟩
    have t : RelE c b F M0 ρ σr M := by cases s1 <;> first | exact h | exact h.2 | exact (hs trivial).elim
    cases so <;> first | exact ho.elim | exact ⟨a, o, M, rfl, r, f, m, rfl, t⟩
  | s1 :: ρ, σ, M, i + 1, sl, h, m, e, hs => by
    obtain ⟨v, σr, e1, h⟩ := h
    subst e1
    have e' : ρ[i]? = some sl := by simpa using e
    refine ⟨v, σr.set i (some (.ref a)), rfl, ?_⟩
    have own : ∀ s2 : Sl, (∃ x u M', v = some (.ref x) ∧ ObR c F s2 u ∧ F x = none ∧ M' x = none ∧ M = upd M' x u ∧ RelE c b F M0 ρ σr M') →
        ∃ x u M', v = some (.ref x) ∧ ObR c F s2 u ∧ F x = none ∧ M' x = none ∧ upd M a o = upd M' x u ∧ RelE c b F M0 (ρ.set i so) (σr.set i (some (.ref a))) M' := fun s2 h => by
      obtain ⟨x, u, M', k1, k2, k3, k4, k5, t⟩ := h
      have ne : x ≠ a := fun z => by rw [k5, z, upd_same] at m; cases m
      have m' : M' a = none := by rw [k5, upd_ne ne.symm] at m; exact m
      exact ⟨x, u, upd M' a o, k1, k2, k3, by rw [upd_ne ne]; exact k4, by rw [k5, upd_comm ne], RelE.setOw ho r f t m' e' hs⟩
    cases s1 with
    | no => exact RelE.setOw ho r f h m e' hs
    | sh d => exact ⟨h.1, RelE.setOw ho r f h.2 m e' hs⟩
    | bx => exact ⟨h.1, RelE.setOw ho r f h.2 m e' hs⟩
    | ol ds => exact own (.ol ds) h
    | ok ks ds => exact own (.ok ks ds) h
    | ot ks ds => exact own (.ot ks ds) h
    | oi n fs ds => exact own (.oi n fs ds) h
    | od y t0 =>
      obtain ⟨Mo, M', e1, r', dj, e2, t⟩ := h
      rw [e2] at m
      have hm := hh_none m
      exact ⟨Mo, upd M' a o, e1, r', dj.updF hm.2, by rw [e2, hh_updF hm.2], RelE.setOw ho r f t hm.1 e' hs⟩
/-- a slot that holds no own object is forgotten, whatever stands there -/
theorem RelE.forget {x : Option V} : ∀ {ρ : List Sl} {σ : St} {M : Hp} {i : Nat} {sl : Sl}, RelE c b F M0 ρ σ M → ρ[i]? = some sl → ¬ isOwn sl → RelE c b F M0 (ρ.set i .no) (σ.set i x) M
  | [], σ, M, i, sl, h, e, _ => by simp at e
  | s1 :: ρ, σ, M, 0, sl, h, e, hs => by
    obtain ⟨v, σr, e1, h⟩ := h
    simp at e; subst e; subst e1
    refine ⟨x, σr, rfl, ?_⟩
    cases s1 <;> first | exact h | exact h.2 | exact (hs trivial).elim
  | s1 :: ρ, σ, M, i + 1, sl, h, e, hs => by
    obtain ⟨v, σr, e1, h⟩ := h
    subst e1
    have e' : ρ[i]? = some sl := by simpa using e
    refine ⟨v, σr.set i x, rfl, ?_⟩
    have own : ∀ s2 : Sl, (∃ a o M', v = some (.ref a) ∧ ObR c F s2 o ∧ F a = none ∧ M' a = none ∧ M = upd M' a o ∧ RelE c b F M0 ρ σr M') →
        ∃ a o M', v = some (.ref a) ∧ ObR c F s2 o ∧ F a = none ∧ M' a = none ∧ M = upd M' a o ∧ RelE c b F M0 (ρ.set i .no) (σr.set i x) M' := fun s2 h => by
      obtain ⟨a, o, M', k1, k2, k3, k4, k5, t⟩ := h
      exact ⟨a, o, M', k1, k2, k3, k4, k5, RelE.forget t e' hs⟩
    cases s1 with
    | no => exact RelE.forget h e' hs
    | sh d => exact ⟨h.1, RelE.forget h.2 e' hs⟩
    | bx => exact ⟨h.1, RelE.forget h.2 e' hs⟩
    | ol ds => exact own (.ol ds) h
    | ok ks ds => exact own (.ok ks ds) h
    | ot ks ds => exact own (.ot ks ds) h
    | oi n fs ds => exact own (.oi n fs ds) h
    | od y t0 =>
      obtain ⟨Mo, M', e1, r', dj, e2, t⟩ := h
      exact ⟨Mo, M', e1, r', dj, e2, RelE.forget t e' hs⟩
theorem own_cases : ∀ {sl : Sl}, isOwn sl → isShal sl ∨ ∃ x t, sl = .od x t
  | .ol _, _ => .inl trivial
  | .ok _ _, _ => .inl trivial
  | .ot _ _, _ => .inl trivial
  | .oi _ _ _, _ => .inl trivial
  | .od x t, _ => .inr ⟨x, t, rfl⟩
theorem shal_own : ∀ {sl : Sl}, isShal sl → isOwn sl
  | .ol _, _ => trivial
  | .ok _ _, _ => trivial
  | .ot _ _, _ => trivial
  | .oi _ _ _, _ => trivial
/-- an own tree: its objects; it may be changed; it may be given away -/
theorem RelE.ownT {t1 : OT} {x : V} : ∀ {ρ : List Sl} {σ : St} {M : Hp} {i : Nat}, RelE c b F M0 ρ σ M → ρ[i]? = some (.od x t1) →
    ∃ Mo M', σ[i]? = some (some x) ∧ OTR c F t1 x Mo ∧ Dj M' Mo ∧ M = HH M' Mo ∧ (∀ a o, M0 a = some o → M' a = some o) ∧ (∀ y, RelE c b F M0 (ρ.set i .no) (σ.set i y) M') ∧
      ∀ (t2 : OT) (Mo2 : Hp), OTR c F t2 x Mo2 → Dj M' Mo2 → RelE c b F M0 (ρ.set i (.od x t2)) σ (HH M' Mo2)
  | [], σ, M, i, h, e => by simp at e
  | s1 :: ρ, σ, M, 0, h, e => by
    obtain ⟨v, σr, e1, h⟩ := h
    simp at e; subst e; subst e1
    obtain ⟨Mo, M', e2, r, dj, e3, t⟩ := h
    subst e2
    exact ⟨Mo, M', rfl, r, dj, e3, t.sub, fun y => ⟨y, σr, rfl, t⟩, fun t2 Mo2 r2 d2 => ⟨some x, σr, rfl, Mo2, M', rfl, r2, d2, rfl, t⟩⟩
  | s1 :: ρ, σ, M, i + 1, h, e => by
    obtain ⟨v, σr, e1, h⟩ := h
    subst e1
    have e' : ρ[i]? = some (.od x t1) := by simpa using e
    have own : ∀ s2 : Sl, (∀ M2 : Hp, (∃ a o M', v = some (.ref a) ∧ ObR c F s2 o ∧ F a = none ∧ M' a = none ∧ M2 = upd M' a o ∧ RelE c b F M0 ρ σr M') → RelE c b F M0 (s2 :: ρ) (v :: σr) M2) →
        (∀ (ρ2 : List Sl) (τ : St) (M2 : Hp), (∃ a o M', v = some (.ref a) ∧ ObR c F s2 o ∧ F a = none ∧ M' a = none ∧ M2 = upd M' a o ∧ RelE c b F M0 ρ2 τ M') → RelE c b F M0 (s2 :: ρ2) (v :: τ) M2) →
        (∃ a o M', v = some (.ref a) ∧ ObR c F s2 o ∧ F a = none ∧ M' a = none ∧ M = upd M' a o ∧ RelE c b F M0 ρ σr M') →
        ∃ Mo M', (v :: σr)[i + 1]? = some (some x) ∧ OTR c F t1 x Mo ∧ Dj M' Mo ∧ M = HH M' Mo ∧ (∀ a o, M0 a = some o → M' a = some o) ∧ (∀ y, RelE c b F M0 ((s2 :: ρ).set (i + 1) .no) ((v :: σr).set (i + 1) y) M') ∧
          ∀ (t2 : OT) (Mo2 : Hp), OTR c F t2 x Mo2 → Dj M' Mo2 → RelE c b F M0 ((s2 :: ρ).set (i + 1) (.od x t2)) (v :: σr) (HH M' Mo2) := fun s2 _ mk h => by
      obtain ⟨u, w, N, k1, k2, k3, k4, k5, t⟩ := h
      obtain ⟨Mo, M', h1, h2, h3, h4, h4', h5, h6⟩ := RelE.ownT t e'
      rw [h4] at k4
      have hu := hh_none k4
      refine ⟨Mo, upd M' u w, by simpa using h1, h2, h3.updF hu.2, by rw [k5, h4, hh_updF hu.2], fun a o q => by rw [upd_ne (ne_of_none (h4' a o q) hu.1)]; exact h4' a o q, fun y => mk _ _ _ ⟨u, w, M', k1, k2, k3, hu.1, rfl, h5 y⟩, fun t2 Mo2 r2 d2 => mk _ _ _ ⟨u, w, HH M' Mo2, k1, k2, k3, ?_, ?_, h6 t2 Mo2 r2 fun a o q => ?_⟩⟩
      · have : Mo2 u = none := (d2.mn (show upd M' u w u = some w from upd_same))
        rw [hh_n this]; exact hu.1
      · exact (hh_updF (d2.mn (show upd M' u w u = some w from upd_same))).symm
      · have := d2 a o q
        by_cases z : a = u
        · rw [z]; exact hu.1
        · rw [upd_ne z] at this; exact this
    cases s1 with
    | no =>
      obtain ⟨Mo, M', h1, h2, h3, h4, h4', h5, h6⟩ := RelE.ownT h e'
      exact ⟨Mo, M', by simpa using h1, h2, h3, h4, h4', fun y => ⟨v, σr.set i y, rfl, h5 y⟩, fun t2 Mo2 r2 d2 => ⟨v, σr, rfl, h6 t2 Mo2 r2 d2⟩⟩
    | sh d =>
      obtain ⟨Mo, M', h1, h2, h3, h4, h4', h5, h6⟩ := RelE.ownT h.2 e'
      exact ⟨Mo, M', by simpa using h1, h2, h3, h4, h4', fun y => ⟨v, σr.set i y, rfl, h.1, h5 y⟩, fun t2 Mo2 r2 d2 => ⟨v, σr, rfl, h.1, h6 t2 Mo2 r2 d2⟩⟩
    | bx =>
      obtain ⟨Mo, M', h1, h2, h3, h4, h4', h5, h6⟩ := RelE.ownT h.2 e'
      exact ⟨Mo, M', by simpa using h1, h2, h3, h4, h4', fun y => ⟨v, σr.set i y, rfl, h.1, h5 y⟩, fun t2 Mo2 r2 d2 => ⟨v, σr, rfl, h.1, h6 t2 Mo2 r2 d2⟩⟩
    | ol ds => exact own (.ol ds) (fun M2 h => ⟨v, σr, rfl, h⟩) (fun ρ2 τ M2 h => ⟨v, τ, rfl, h⟩) h
    | ok ks ds => exact own (.ok ks ds) (fun M2 h => ⟨v, σr, rfl, h⟩) (fun ρ2 τ M2 h => ⟨v, τ, rfl, h⟩) h
    | ot ks ds => exact own (.ot ks ds) (fun M2 h => ⟨v, σr, rfl, h⟩) (fun ρ2 τ M2 h => ⟨v, τ, rfl, h⟩) h
    | oi n fs ds => exact own (.oi n fs ds) (fun M2 h => ⟨v, σr, rfl, h⟩) (fun ρ2 τ M2 h => ⟨v, τ, rfl, h⟩) h
    | od u t0 =>
      obtain ⟨Mu, N, k1, k2, k3, k4, t⟩ := h
      obtain ⟨Mo, M', h1, h2, h3, h4, h4', h5, h6⟩ := RelE.ownT t e'
      rw [h4] at k3
      refine ⟨Mo, HH M' Mu, by simpa using h1, h2, ?_, ?_, fun a o q => (dj_l k3).f (h4' a o q), fun y => ⟨v, σr.set i y, rfl, Mu, M', k1, k2, dj_l k3, rfl, h5 y⟩, fun t2 Mo2 r2 d2 => ⟨v, σr, rfl, Mu, HH M' Mo2, k1, k2, ?_, ?_, h6 t2 Mo2 r2 (dj_l d2)⟩⟩
      · exact dj_hh h3 (dj_sym (dj_r k3))
      · rw [k4, h4, hh_swap (dj_r k3)]
      · exact dj_hh (dj_l k3) (dj_sym (dj_r d2))
      · exact hh_swap (dj_r d2)
/-- a slot that holds no own object is given a tree -/
theorem RelE.setOd {x : V} {t1 : OT} {Mo : Hp} (r : OTR c F t1 x Mo) : ∀ {ρ : List Sl} {σ : St} {M : Hp} {i : Nat} {sl : Sl}, RelE c b F M0 ρ σ M → Dj M Mo → ρ[i]? = some sl → ¬ isOwn sl →
    RelE c b F M0 (ρ.set i (.od x t1)) (σ.set i (some x)) (HH M Mo)
  | [], σ, M, i, sl, h, _, e, _ => by simp at e
  | s1 :: ρ, σ, M, 0, sl, h, m, e, hs => by
    obtain ⟨v, σr, e1, h⟩ := h
    simp at e; subst e; subst e1
    refine ⟨some x, σr, rfl, Mo, M, rfl, r, m, rfl, ?_⟩
    cases s1 <;> first | exact h | exact h.2 | exact (hs trivial).elim
  | s1 :: ρ, σ, M, i + 1, sl, h, m, e, hs => by
    obtain ⟨v, σr, e1, h⟩ := h
    subst e1
    have e' : ρ[i]? = some sl := by simpa using e
    refine ⟨v, σr.set i (some x), rfl, ?_⟩
    have own : ∀ s2 : Sl, (∃ y u M', v = some (.ref y) ∧ ObR c F s2 u ∧ F y = none ∧ M' y = none ∧ M = upd M' y u ∧ RelE c b F M0 ρ σr M') →
        ∃ y u M', v = some (.ref y) ∧ ObR c F s2 u ∧ F y = none ∧ M' y = none ∧ HH M Mo = upd M' y u ∧ RelE c b F M0 (ρ.set i (.od x t1)) (σr.set i (some x)) M' := fun s2 h => by
      obtain ⟨y, u, M', k1, k2, k3, k4, k5, t⟩ := h
      have my : Mo y = none := m.mn (show M y = some u by rw [k5]; exact upd_same)
      have dj' : Dj M' Mo := fun z w q => by
        have := m z w q
        rw [k5] at this
        by_cases e : z = y
        · rw [e]; exact k4
        · rw [upd_ne e] at this; exact this
      exact ⟨y, u, HH M' Mo, k1, k2, k3, by rw [hh_n my]; exact k4, by rw [k5, hh_updF my], RelE.setOd r t dj' e' hs⟩
    cases s1 with
    | no => exact RelE.setOd r h m e' hs
    | sh d => exact ⟨h.1, RelE.setOd r h.2 m e' hs⟩
    | bx => exact ⟨h.1, RelE.setOd r h.2 m e' hs⟩
    | ol ds => exact own (.ol ds) h
    | ok ks ds => exact own (.ok ks ds) h
    | ot ks ds => exact own (.ot ks ds) h
    | oi n fs ds => exact own (.oi n fs ds) h
    | od u t0 =>
      obtain ⟨Mu, N, k1, k2, k3, k4, t⟩ := h
      rw [k4] at m
      exact ⟨Mu, HH N Mo, k1, k2, dj_hh k3 (dj_sym (dj_r m)), by rw [k4, hh_swap (dj_r m)], RelE.setOd r t (dj_l m) e' hs⟩
end
end DL

/-! Judgements: a piece of syntax, its reading over heaps, and what that asks of data alone; expressions. -/
namespace DL
open PySem L2
variable [Lk]

abbrev WE := List Sl → (D → List Sl → Prop) → Prop
abbrev WT := List Sl → (Bool → List Sl → Prop) → Prop
abbrev WA := List Sl → (List D → List Sl → Prop) → Prop
/-- behind an expression -/
structure Aft (c : Cy) (b : Option Addr) (F M M0 : Hp) (ρ : List Sl) (σ : St) (F' M' M0' : Hp) : Prop where
  same : Same F F'
  ext : Ext b (HH F M) (HH F' M')
  rel : Rel c b ρ σ F' M' M0'
  mr : MR b M0 M0'
section
variable {c : Cy} {b : Option Addr} {F M M0 F1 M1 M01 F2 M2 M02 : Hp} {ρ ρ1 ρ2 : List Sl} {σ σ1 σ2 : St}
theorem Rel.aft (h : Rel c b ρ σ F M M0) : Aft c b F M M0 ρ σ F M M0 := ⟨Same.refl _, Ext.refl _ _, h, MR.refl _ _⟩
theorem Aft.trans (a : Aft c b F M M0 ρ1 σ1 F1 M1 M01) (h : Aft c b F1 M1 M01 ρ2 σ2 F2 M2 M02) : Aft c b F M M0 ρ2 σ2 F2 M2 M02 :=
  ⟨a.same.trans h.same, a.ext.trans h.ext, h.rel, a.mr.trans h.mr⟩
/-- a frozen address is not the box -/
theorem Rel.nb (h : Rel c b ρ σ F M M0) {a : Addr} {o : HO} (q : F a = some o) : b ≠ some a := fun e => by
  obtain ⟨_, _, _, h1, _⟩ := h.box a e
  have h2 := h.dj a _ (h.env.sub a _ h1)
  rw [q] at h2; cases h2
end

/-- readable as data: its own object may still change -/
def Rk (c : Cy) (b : Option Addr) (F M : Hp) (v : V) : D → Prop
  | .lst ds => ∃ a vs, v = .ref a ∧ b ≠ some a ∧ HH F M a = some (.lst vs) ∧ DrL c F vs ds
  | .dk ks ds => ∃ a ps, v = .ref a ∧ b ≠ some a ∧ Rd (HH F M) a (.dK ps) ∧ ps.map (·.1) = ks ∧ DrL c F (ps.map (·.2)) ds
  | .dt ks ds => ∃ a ps, v = .ref a ∧ b ≠ some a ∧ Rd (HH F M) a (.dT ps) ∧ ps.map (·.1) = ks ∧ DrL c F (ps.map (·.2)) ds
  | .ins n fs ds => ∃ a C dx ps, v = .ref a ∧ b ≠ some a ∧ HH F M a = some (.ins C dx ps) ∧ c.mg n = some (.ref C) ∧ ps.map (·.1) = fs ∧ DrL c F (ps.map (·.2)) ds
  | d => Dr c F v d
theorem Rk.of {c : Cy} {b : Option Addr} {F M : Hp} {v : V} {d : D} (dj : Dj F M) (nb : ∀ a o, F a = some o → b ≠ some a) (h : Dr c F v d) : Rk c b F M v d := by
  cases d with
  | lst ds => simp only [Dr] at h; obtain ⟨a, vs, e, q, r⟩ := h; exact ⟨a, vs, e, nb a _ q, dj.f q, r⟩
  | dk ks ds =>
    simp only [Dr] at h; obtain ⟨a, vs, e, q, k, r⟩ := h
    exact ⟨a, vs, e, by rcases q with q | ⟨o, q⟩ <;> exact nb a _ q, same_rd dj.same q, k, r⟩
  | dt ks ds =>
    simp only [Dr] at h; obtain ⟨a, vs, e, q, k, r⟩ := h
    exact ⟨a, vs, e, by rcases q with q | ⟨o, q⟩ <;> exact nb a _ q, same_rd dj.same q, k, r⟩
  | ins n fs ds => simp only [Dr] at h; obtain ⟨a, C, dx, ps, e, q, m, k, r⟩ := h; exact ⟨a, C, dx, ps, e, nb a _ q, dj.f q, m, k, r⟩
  | _ => exact h
theorem Rk.stay {c : Cy} {b : Option Addr} {F M F' M' : Hp} {v : V} {d : D} (s : Same F F') (x : Ext b (HH F M) (HH F' M')) (h : Rk c b F M v d) : Rk c b F' M' v d := by
  have rd : ∀ {a : Addr} {u : HO}, b ≠ some a → Rd (HH F M) a u → Rd (HH F' M') a u := fun n q => by
    rcases q with q | ⟨o, q⟩
    · exact .inl (x _ _ n q)
    · exact .inr ⟨o, x _ _ n q⟩
  cases d with
  | lst ds => obtain ⟨a, vs, e, n, q, r⟩ := h; exact ⟨a, vs, e, n, x _ _ n q, r.up s⟩
  | dk ks ds => obtain ⟨a, vs, e, n, q, k, r⟩ := h; exact ⟨a, vs, e, n, rd n q, k, r.up s⟩
  | dt ks ds => obtain ⟨a, vs, e, n, q, k, r⟩ := h; exact ⟨a, vs, e, n, rd n q, k, r.up s⟩
  | non => exact Dr.up s h
  | bl _ => exact Dr.up s h
  | int _ => exact Dr.up s h
  | str _ => exact Dr.up s h
  | tup _ => exact Dr.up s h
  | scr _ => exact Dr.up s h
  | ins n fs ds => obtain ⟨a, C, dx, ps, e, n, q, m, k, r⟩ := h; exact ⟨a, C, dx, ps, e, n, x _ _ n q, m, k, r.up s⟩

def Snd (c : Cy) (te : TE) (w : WE) : Prop := ∀ {b : Option Addr} {ρ : List Sl} {σ : St} {F M M0 : Hp}, Rel c b ρ σ F M M0 → ∀ (Qd : D → List Sl → Prop) (Q : VK), w ρ Qd →
  (∀ d ρ' v F' M' M0', Qd d ρ' → Aft c b F M M0 ρ' σ F' M' M0' → Dr c F' v d → Q v (HH F' M')) → te σ (HH F M) Q
def Snp (c : Cy) (te : TE) (w : WE) : Prop := ∀ {b : Option Addr} {ρ : List Sl} {σ : St} {F M M0 : Hp}, Rel c b ρ σ F M M0 → ∀ (Qd : D → List Sl → Prop) (Q : VK), w ρ Qd →
  (∀ d ρ' v F' M' M0', Qd d ρ' → Aft c b F M M0 ρ' σ F' M' M0' → Rk c b F' M' v d → Q v (HH F' M')) → te σ (HH F M) Q
def Snt (c : Cy) (tt : TT) (w : WT) : Prop := ∀ {b : Option Addr} {ρ : List Sl} {σ : St} {F M M0 : Hp}, Rel c b ρ σ F M M0 → ∀ (Qd : Bool → List Sl → Prop) (Q : Bool → Hp → Prop), w ρ Qd →
  (∀ k ρ' F' M' M0', Qd k ρ' → Aft c b F M M0 ρ' σ F' M' M0' → Q k (HH F' M')) → tt σ (HH F M) Q
def Sna (c : Cy) (ta : TA) (w : WA) : Prop := ∀ {b : Option Addr} {ρ : List Sl} {σ : St} {F M M0 : Hp}, Rel c b ρ σ F M M0 → ∀ (Qd : List D → List Sl → Prop) (Q : List V → Hp → Prop), w ρ Qd →
  (∀ ds ρ' vs F' M' M0', Qd ds ρ' → Aft c b F M M0 ρ' σ F' M' M0' → DrL c F' vs ds → Q vs (HH F' M')) → ta σ (HH F M) Q
/-- a new own object -/
def Snf (c : Cy) (te : TE) (w : List Sl → (Sl → List Sl → Prop) → Prop) : Prop := ∀ {b : Option Addr} {ρ : List Sl} {σ : St} {F M M0 : Hp}, Rel c b ρ σ F M M0 → ∀ (Qd : Sl → List Sl → Prop) (Q : VK), w ρ Qd →
  (∀ sl ρ' a o F' M' M0', Qd sl ρ' → Aft c b F M M0 ρ' σ F' M' M0' → isShal sl → ObR c F' sl o → F' a = none → M' a = none → Q (.ref a) (HH F' (upd M' a o))) → te σ (HH F M) Q

abbrev cy (X : Cx) : Cy := ⟨X.K, X.mg⟩
structure DE (X : Cx) (e : Expr) (te : TE) (w : WE) : Prop where
  pe : PE X e te
  sn : Snd (cy X) te w
structure DP (X : Cx) (e : Expr) (te : TE) (w : WE) : Prop where
  pe : PE X e te
  sn : Snp (cy X) te w
structure DT (X : Cx) (e : Expr) (tt : TT) (w : WT) : Prop where
  pe : PT X e tt
  sn : Snt (cy X) tt w
structure DWt (X : Cx) (e : Expr) (tt : TT) (w : WT) : Prop where
  pe : PW X e tt
  sn : Snt (cy X) tt w
structure DA (X : Cx) (es : List Expr) (ta : TA) (w : WA) : Prop where
  pe : PA X es ta
  sn : Sna (cy X) ta w
structure DF (X : Cx) (e : Expr) (te : TE) (w : List Sl → (Sl → List Sl → Prop) → Prop) : Prop where
  pe : PE X e te
  sn : Snf (cy X) te w

section
variable {X : Cx} {e a b' : Expr} {te ta tb : TE} {w wa wb : WE} {pos : Pos}
theorem DE.dp (h : DE X e te w) : DP X e te w := ⟨h.pe, fun {b ρ σ F M M0} R Qd Q hw k =>
  h.sn R Qd Q hw fun d ρ' v F' M' M0' q A r => k d ρ' v F' M' M0' q A (Rk.of A.rel.dj (fun a o z => A.rel.nb z) r)⟩

/-! ### freezing -/
theorem Rel.freezeS {c : Cy} {b : Option Addr} {ρ : List Sl} {σ : St} {F M M0 : Hp} {i : Nat} {sl : Sl} (R : Rel c b ρ σ F M M0) (e : ρ[i]? = some sl) (hs : isShal sl) :
    ∃ a F' M', σ[i]? = some (some (.ref a)) ∧ HH F M = HH F' M' ∧ Aft c b F M M0 (ρ.set i (.sh (obD sl))) σ F' M' M0 ∧ Dr c F' (.ref a) (obD sl) := by
  obtain ⟨a, o, M', h1, h2, h3, h4, h5, h6, h7, h8⟩ := R.env.own e hs
  have eH : HH F M = HH (upd F a o) M' := by rw [h5, hh_freeze h4]
  have sm : Same F (upd F a o) := Same.updF h3
  have dj : Dj (upd F a o) M' := Dj.updF (fun x u q => R.dj x u (by rw [h5, upd_ne (ne_of_none q h4)]; exact q)) h4
  have r : Dr c (upd F a o) (.ref a) (obD sl) := (h2.leD (.of sm)).dr upd_same
  have m0 : ∀ x u, M0 x = some u → F x = none → (upd F a o) x = none := fun x u q f => by rw [upd_ne (ne_of_none q h6)]; exact f
  have t1 := RelE.leD (LeD.of sm) m0 (M := M') (fun x u q f => by rw [upd_ne (ne_of_none q h4)]; exact f) (h7 (some (.ref a)))
  have hl : i < ρ.length := by
    rcases Nat.lt_or_ge i ρ.length with z | z
    · exact z
    · rw [List.getElem?_eq_none z] at e; cases e
  have t2 := RelE.setSh r t1 (List.getElem?_set_self hl) (fun z => z)
  rw [List.set_set, List.set_set] at t2
  have es : σ.set i (some (.ref a)) = σ := by
    obtain ⟨hi, ei⟩ := List.getElem?_eq_some_iff.mp h1
    rw [← ei]; exact List.set_getElem_self hi
  rw [es] at t2
  refine ⟨a, _, M', h1, eH, ⟨sm, ?_, ⟨dj, t2, fun x q => (R.box x q).leD (.of sm), R.lkS (sm)⟩, MR.refl _ _⟩, r⟩
  rw [← eH]; exact Ext.refl _ _

theorem Rel.freezeT {c : Cy} {b : Option Addr} {ρ : List Sl} {σ : St} {F M M0 : Hp} {i : Nat} {t0 : OT} {x : V} (R : Rel c b ρ σ F M M0) (e : ρ[i]? = some (.od x t0)) :
    ∃ F' M', σ[i]? = some (some x) ∧ HH F M = HH F' M' ∧ Aft c b F M M0 (ρ.set i (.sh (otD t0))) σ F' M' M0 ∧ Dr c F' x (otD t0) := by
  obtain ⟨Mo, M', h1, h2, h3, h4, h5, h6, h7⟩ := R.env.ownT e
  have dF : Dj F Mo := OTR.dj t0 h2
  have sm : Same F (HH F Mo) := dF.same
  have eH : HH F M = HH (HH F Mo) M' := by rw [h4, hh_comm h3, hh_assoc]
  have dj : Dj (HH F Mo) M' := fun a o q => by
    rw [hh_n (h3.mn q)]
    exact R.dj a o (by rw [h4]; exact h3.f q)
  have r : Dr c (HH F Mo) x (otD t0) := OTR.frz sm t0 (fun a o q => hh_m q) h2
  have t1 := RelE.leD (LeD.of sm) (G := HH F Mo) (fun a u q f => by rw [hh_n (h3.mn (h5 a u q))]; exact f) (M := M') (fun a u q f => by rw [hh_n (h3.mn q)]; exact f) (h6 (some x))
  have hl : i < ρ.length := by
    rcases Nat.lt_or_ge i ρ.length with z | z
    · exact z
    · rw [List.getElem?_eq_none z] at e; cases e
  have t2 := RelE.setSh r t1 (List.getElem?_set_self hl) (fun z => z)
  rw [List.set_set, List.set_set] at t2
  have es : σ.set i (some x) = σ := by
    obtain ⟨hi, ei⟩ := List.getElem?_eq_some_iff.mp h1
    rw [← ei]; exact List.set_getElem_self hi
  rw [es] at t2
  refine ⟨_, M', h1, eH, ⟨sm, ?_, ⟨dj, t2, fun y q => (R.box y q).leD (.of sm), R.lkS (sm)⟩, MR.refl _ _⟩, r⟩
  rw [← eH]; exact Ext.refl _ _
theorem Rel.freeze {c : Cy} {b : Option Addr} {ρ : List Sl} {σ : St} {F M M0 : Hp} {i : Nat} {sl : Sl} (R : Rel c b ρ σ F M M0) (e : ρ[i]? = some sl) (hs : isOwn sl) :
    ∃ x F' M', σ[i]? = some (some x) ∧ HH F M = HH F' M' ∧ Aft c b F M M0 (ρ.set i (.sh (obD sl))) σ F' M' M0 ∧ Dr c F' x (obD sl) := by
  rcases own_cases hs with z | ⟨x, t, rfl⟩
  · obtain ⟨a, F', M', h1, h2, h3, h4⟩ := R.freezeS e z
    exact ⟨.ref a, F', M', h1, h2, h3, h4⟩
  · obtain ⟨F', M', h1, h2, h3, h4⟩ := R.freezeT e
    exact ⟨x, F', M', h1, h2, h3, h4⟩

/-! ### names and constants -/
def wVar (i : Nat) : WE := fun ρ Q => match ρ[i]? with
  | some (.sh d) => Q d ρ
  | some .no => False
  | some .bx => False
  | some sl => Q (obD sl) (ρ.set i (.sh (obD sl)))
  | none => False
def wPk (i : Nat) : WE := fun ρ Q => match ρ[i]? with
  | some (.od _ _) => False
  | some (.sh d) => Q d ρ
  | some .no => False
  | some .bx => False
  | some sl => Q (obD sl) ρ
  | none => False
theorem snd_var {c : Cy} (i : Nat) : Snd c (tVar i) (wVar i) := fun {b ρ σ F M M0} R Qd Q hw k => by
  unfold wVar at hw
  have go : ∀ sl, ρ[i]? = some sl → isOwn sl → Qd (obD sl) (ρ.set i (.sh (obD sl))) → tVar i σ (HH F M) Q := fun sl e hs q => by
    obtain ⟨a, F', M', h1, h2, h3, h4⟩ := R.freeze e hs
    refine ⟨a, h1, ?_⟩
    rw [h2]
    exact k _ _ _ _ _ _ q h3 h4
  cases e : ρ[i]? with
  | none => rw [e] at hw; exact hw.elim
  | some sl =>
    rw [e] at hw
    cases sl with
    | sh d =>
      obtain ⟨x, h1, h2⟩ := R.env.get e
      exact ⟨x, h1, k d ρ x F M M0 hw R.aft h2⟩
    | no => exact hw.elim
    | bx => exact hw.elim
    | ol ds => exact go _ e trivial hw
    | ok ks ds => exact go _ e trivial hw
    | ot ks ds => exact go _ e trivial hw
    | oi n fs ds => exact go _ e trivial hw
    | od x t0 => exact go _ e trivial hw
theorem snp_var {c : Cy} (i : Nat) : Snp c (tVar i) (wPk i) := fun {b ρ σ F M M0} R Qd Q hw k => by
  unfold wPk at hw
  have go : ∀ sl, ρ[i]? = some sl → isShal sl → Qd (obD sl) ρ → tVar i σ (HH F M) Q := fun sl e hs q => by
    obtain ⟨a, o, M', h1, h2, h3, h4, h5, h6, h7, h8⟩ := R.env.own e hs
    refine ⟨.ref a, h1, ?_⟩
    have nb : b ≠ some a := fun z => by
      obtain ⟨_, _, _, q1, _⟩ := R.box a z
      rw [h6] at q1; cases q1
    have hH : HH F M a = some o := hh_m (by rw [h5]; exact upd_same)
    refine k _ ρ _ F M M0 q R.aft ?_
    cases sl with
    | ol ds => obtain ⟨vs, e2, r⟩ := h2; subst e2; exact ⟨a, vs, rfl, nb, hH, r⟩
    | ok ks ds => obtain ⟨vs, e2, r⟩ := h2; subst e2; exact ⟨a, vs, rfl, nb, .inl hH, r⟩
    | ot ks ds => obtain ⟨vs, e2, r⟩ := h2; subst e2; exact ⟨a, vs, rfl, nb, .inl hH, r⟩
    | oi n fs ds => obtain ⟨C, dx, ps, e2, m, r⟩ := h2; subst e2; exact ⟨a, C, dx, ps, rfl, nb, hH, m, r⟩
    | _ => exact hs.elim
  cases e : ρ[i]? with
  | none => rw [e] at hw; exact hw.elim
  | some sl =>
    rw [e] at hw
    cases sl with
    | sh d =>
      obtain ⟨x, h1, h2⟩ := R.env.get e
      exact ⟨x, h1, k d ρ x F M M0 hw R.aft (Rk.of R.dj (fun a o z => R.nb z) h2)⟩
    | no => exact hw.elim
    | bx => exact hw.elim
    | ol ds => exact go _ e trivial hw
    | ok ks ds => exact go _ e trivial hw
    | ot ks ds => exact go _ e trivial hw
    | oi n fs ds => exact go _ e trivial hw
    | od x t0 => exact hw.elim
theorem de_var (i : Nat) {x : Str} {pos : Pos} (hN : X.N[i]? = some x := by rfl) (hv : Vis X.env.scope x := by first | exact Or.inl rfl | exact Or.inr (Or.inl rfl) | exact Or.inr (Or.inr rfl)) (hd : (x == ("__debug__" : Str)) = false := by decide)
    (hcd : (x == ("__classdict__" : Str)) = false := by decide) : DE X (.Name x pos) (tVar i) (wVar i) := ⟨pe_var hN hv hd hcd, snd_var i⟩
theorem dp_var (i : Nat) {x : Str} {pos : Pos} (hN : X.N[i]? = some x := by rfl) (hv : Vis X.env.scope x := by first | exact Or.inl rfl | exact Or.inr (Or.inl rfl) | exact Or.inr (Or.inr rfl)) (hd : (x == ("__debug__" : Str)) = false := by decide)
    (hcd : (x == ("__classdict__" : Str)) = false := by decide) : DP X (.Name x pos) (tVar i) (wPk i) := ⟨pe_var hN hv hd hcd, snp_var i⟩
def wC (d : D) : WE := fun ρ Q => Q d ρ
theorem snd_c {c : Cy} {v : V} {d : D} (h : ∀ F, Dr c F v d) : Snd c (tC v) (wC d) := fun {b ρ σ F M M0} R Qd Q hw k => k d ρ v F M M0 hw R.aft (h F)
theorem de_int {i j} : DE X (.Constant (.int i) j pos) (tC (.int i)) (wC (.int i)) := ⟨pe_int, snd_c fun F => by simp only [Dr]⟩
theorem de_bl {i j} : DE X (.Constant (.bool i) j pos) (tC (.bl i)) (wC (.bl i)) := ⟨pe_bl, snd_c fun F => by simp only [Dr]⟩
theorem de_non {j} : DE X (.Constant .none j pos) (tC .non) (wC .non) := ⟨pe_non, snd_c fun F => by simp only [Dr]⟩
theorem de_str {x j} : DE X (.Constant (.str x) j pos) (tC (.str x)) (wC (.str x)) := ⟨pe_str, snd_c fun F => by simp only [Dr]⟩
theorem de_globI {x : Str} {i : Int} {u : Value} (hg : Gl X x) (hm : X.mg x = some u) (r : ∃ t, u = .int i t) (hd : (x == ("__debug__" : Str)) = false := by decide) : DE X (.Name x pos) (tC (.int i)) (wC (.int i)) :=
  ⟨pe_glob hg hm r hd, snd_c fun F => by simp only [Dr]⟩
theorem de_globS {x s : Str} {u : Value} (hg : Gl X x) (hm : X.mg x = some u) (r : ∃ t, u = .str s t) (hd : (x == ("__debug__" : Str)) = false := by decide) : DE X (.Name x pos) (tC (.str s)) (wC (.str s)) :=
  ⟨pe_glob hg hm r hd, snd_c fun F => by simp only [Dr]⟩

/-! ### operations on two values -/
/-- an operation that changes no thing; its result may be new -/
def Rop (c : Cy) (r : R2) (wr : D → D → (D → Prop) → Prop) : Prop := ∀ {b : Option Addr} {F M : Hp} {x y : V} {d1 d2 : D} (Qd : D → Prop) (Q : VK), Dj F M → Rk c b F M x d1 → Rk c b F M y d2 → wr d1 d2 Qd →
  (∀ d v F', Qd d → Same F F' → Dj F' M → (∀ a, F a = none → (M a).isSome = true → F' a = none) → Dr c F' v d → Q v (HH F' M)) → r x y (HH F M) Q
/-- the heap has grown by frozen things -/
theorem Rel.grow {c : Cy} {b : Option Addr} {ρ : List Sl} {σ : St} {F M M0 F' : Hp} (R : Rel c b ρ σ F M M0) (s : Same F F') (dj : Dj F' M) : Aft c b F M M0 ρ σ F' M M0 := by
  refine ⟨s, fun a o _ q => ?_, ⟨dj, RelE.leD (LeD.of s) (fun a o q _ => dj a o (R.env.sub a o q)) (fun a o q _ => dj a o q) R.env, fun a q => (R.box a q).leD (.of s), R.lkS (s)⟩, MR.refl _ _⟩
  rcases hh_some q with z | ⟨z1, z2⟩
  · exact hh_m z
  · rw [hh_n z1]; exact s _ _ z2
def wOp (wr : D → D → (D → Prop) → Prop) (wa wb : WE) : WE := fun ρ Q => wa ρ fun d1 ρ1 => wb ρ1 fun d2 ρ2 => wr d1 d2 fun d => Q d ρ2
theorem snd_op {c : Cy} {r : R2} {wr : D → D → (D → Prop) → Prop} (hr : Rop c r wr) (ha : Snp c ta wa) (hb : Snp c tb wb) : Snd c (tOp r ta tb) (wOp wr wa wb) := fun {b ρ σ F M M0} R Qd Q hw k => by
  refine ha R _ _ hw fun d1 ρ1 x F1 M1 M01 q1 A1 r1 => ?_
  refine hb A1.rel _ _ q1 fun d2 ρ2 y F2 M2 M02 q2 A2 r2 => ?_
  refine hr (b := b) _ _ A2.rel.dj (r1.stay A2.same A2.ext) r2 q2 fun d v F' q s dj nf rv => ?_
  exact k d ρ2 v F' M2 M02 q ((A1.trans A2).trans (A2.rel.grow s dj)) rv
theorem de_op {op : Operator} {r : R2} {wr : D → D → (D → Prop) → Prop} (ho : OpR X (binaryOp op) r) (hr : Rop (cy X) r wr) (ha : DP X a ta wa) (hb : DP X b' tb wb) : DE X (.BinOp a op b' pos) (tOp r ta tb) (wOp wr wa wb) :=
  ⟨pe_op ho ha.pe hb.pe, snd_op hr ha.sn hb.sn⟩
theorem de_cmp {op : CmpOp} {r : R2} {wr : D → D → (D → Prop) → Prop} (ho : OpR X (compareOp op) r) (hr : Rop (cy X) r wr) (ha : DP X a ta wa) (hb : DP X b' tb wb) (hm : behindInMarks op b' = false) : DE X (.Compare a [op] [b'] pos) (tOp r ta tb) (wOp wr wa wb) :=
  ⟨pe_cmpR ho ha.pe hb.pe hm, snd_op hr ha.sn hb.sn⟩
/-- a bool's test -/
def wTst (w : WE) : WT := fun ρ Q => w ρ fun d ρ' => match d with
  | .bl k => Q k ρ'
  | _ => False
theorem snt_test {c : Cy} (h : Snd c te w) : Snt c (tTest te) (wTst w) := fun {b ρ σ F M M0} R Qd Q hw k => by
  refine h R _ _ hw fun d ρ' v F' M' M0' q A r => ?_
  cases d with
  | bl j => simp only [Dr] at r; exact ⟨j, r, k j ρ' F' M' M0' q A⟩
  | _ => exact q.elim
theorem snt_B {c : Cy} (h : Snd c te w) : Snt c (tB te) (wTst w) := fun {b ρ σ F M M0} R Qd Q hw k => by
  refine h R _ _ hw fun d ρ' v F' M' M0' q A r => ?_
  cases d with
  | bl j => simp only [Dr] at r; exact ⟨j, r, k j ρ' F' M' M0' q A⟩
  | _ => exact q.elim
theorem dt_cmp {op : CmpOp} {r : R2} {wr : D → D → (D → Prop) → Prop} (ho : OpR X (compareOp op) r) (hr : Rop (cy X) r wr) (ha : DP X a ta wa) (hb : DP X b' tb wb) (hm : behindInMarks op b' = false) : DT X (.Compare a [op] [b'] pos) (tTest (tOp r ta tb)) (wTst (wOp wr wa wb)) :=
  ⟨pt_cmpR ho ha.pe hb.pe hm, snt_test (snd_op hr ha.sn hb.sn)⟩
theorem dt_val (h : DE X e te w) (he : ∀ whole, isTrue e X.env whole = (do let v ← whole; standAt e.pos; holding [v] (truthy v)) := by intro _; rfl) : DT X e (tB te) (wTst w) := ⟨pt_val h.pe he, snt_B h.sn⟩
/-- a comparison a < b < c -/
def wChain (wr wr' : D → D → (D → Prop) → Prop) (wa wb wc : WE) : WE := fun ρ Q => wa ρ fun d1 ρ1 => wb ρ1 fun d2 ρ2 => wr d1 d2 fun d => match d with
  | .bl true => wc ρ2 fun d3 ρ3 => wr' d2 d3 fun d' => Q d' ρ3
  | .bl false => Q (.bl false) ρ2
  | _ => False
theorem snd_chain {c : Cy} {r r' : R2} {wr wr' : D → D → (D → Prop) → Prop} {tc : TE} {wc : WE} (hr : Rop c r wr) (hr' : Rop c r' wr') (ha : Snp c ta wa) (hb : Snp c tb wb) (hc : Snp c tc wc) : Snd c (tChain r r' ta tb tc) (wChain wr wr' wa wb wc) := fun {b ρ σ F M M0} R Qd Q hw k => by
  refine ha R _ _ hw fun d1 ρ1 x F1 M1 M01 q1 A1 r1 => ?_
  refine hb A1.rel _ _ q1 fun d2 ρ2 y F2 M2 M02 q2 A2 r2 => ?_
  refine hr (b := b) _ _ A2.rel.dj (r1.stay A2.same A2.ext) r2 q2 fun d v F3 q s dj nf rv => ?_
  have A3 := (A1.trans A2).trans (A2.rel.grow s dj)
  cases d with
  | bl j =>
    simp only [Dr] at rv
    refine ⟨j, rv, ?_⟩
    cases j with
    | true =>
      rw [if_pos rfl]
      refine hc A3.rel _ _ q fun d3 ρ3 z F4 M4 M04 q3 A4 r3 => ?_
      refine hr' (b := b) _ _ A4.rel.dj ((r2.stay s (A2.rel.grow s dj).ext).stay A4.same A4.ext) r3 q3 fun d' v' F5 q' s' dj' nf' rv' => ?_
      exact k d' ρ3 v' F5 M4 M04 q' ((A3.trans A4).trans (A4.rel.grow s' dj')) rv'
    | false =>
      rw [if_neg Bool.false_ne_true]
      exact k _ ρ2 _ F3 M2 M02 q A3 (by simp only [Dr])
  | _ => exact q.elim
theorem de_chain {op op' : CmpOp} {c' : Expr} {tc : TE} {wc : WE} {r r' : R2} {wr wr' : D → D → (D → Prop) → Prop} (ho : OpR X (compareOp op) r) (ho' : OpR X (compareOp op') r') (hr : Rop (cy X) r wr) (hr' : Rop (cy X) r' wr') (ha : DP X a ta wa) (hb : DP X b' tb wb) (hc : DP X c' tc wc)
    (h : PE X a ta → PE X b' tb → PE X c' tc → PE X (.Compare a [op, op'] [b', c'] pos) (tChain r r' ta tb tc) := by exact fun p q r => pe_chain (by assumption) (by assumption) p q r) : DE X (.Compare a [op, op'] [b', c'] pos) (tChain r r' ta tb tc) (wChain wr wr' wa wb wc) :=
  ⟨h ha.pe hb.pe hc.pe, snd_chain hr hr' ha.sn hb.sn hc.sn⟩
/-- operations on one value -/
def Ro1 (c : Cy) (r : V → Hp → VK → Prop) (wr : D → (D → Prop) → Prop) : Prop := ∀ {b : Option Addr} {F M : Hp} {x : V} {d1 : D} (Qd : D → Prop) (Q : VK), Dj F M → Rk c b F M x d1 → wr d1 Qd →
  (∀ d v F', Qd d → Same F F' → Dj F' M → Dr c F' v d → Q v (HH F' M)) → r x (HH F M) Q
def wUn (wr : D → (D → Prop) → Prop) (wa : WE) : WE := fun ρ Q => wa ρ fun d1 ρ1 => wr d1 fun d => Q d ρ1
theorem snd_un {c : Cy} {r : V → Hp → VK → Prop} {wr : D → (D → Prop) → Prop} (hr : Ro1 c r wr) (ha : Snp c ta wa) : Snd c (tUn r ta) (wUn wr wa) := fun {b ρ σ F M M0} R Qd Q hw k => by
  refine ha R _ _ hw fun d1 ρ1 x F1 M1 M01 q1 A1 r1 => ?_
  refine hr (b := b) _ _ A1.rel.dj r1 q1 fun d v F' q s dj rv => ?_
  exact k d ρ1 v F' M1 M01 q (A1.trans (A1.rel.grow s dj)) rv
theorem de_un {op : UnaryOp} {r : V → Hp → VK → Prop} {wr : D → (D → Prop) → Prop} (ho : UnR X (unaryOp op) r) (hr : Ro1 (cy X) r wr) (ha : DP X a ta wa) : DE X (.UnaryOp op a pos) (tUn r ta) (wUn wr wa) := ⟨pe_un ho ha.pe, snd_un hr ha.sn⟩

/-! ### and, or, not, if else -/
variable {tA tB' : TT} {wA wB : WT} {rest : List Expr}
def wAnd (t u : WT) : WT := fun ρ Q => t ρ fun k ρ1 => match k with
  | true => u ρ1 Q
  | false => Q false ρ1
def wOr (t u : WT) : WT := fun ρ Q => t ρ fun k ρ1 => match k with
  | true => Q true ρ1
  | false => u ρ1 Q
def wNot (t : WT) : WT := fun ρ Q => t ρ fun k ρ1 => Q (!k) ρ1
theorem dw_and1 (ha : DT X a tA wA) : DWt X (.BoolOp .And [a] pos) tA wA := ⟨pw_and1 ha.pe, ha.sn⟩
theorem dw_or1 (ha : DT X a tA wA) : DWt X (.BoolOp .Or [a] pos) tA wA := ⟨pw_or1 ha.pe, ha.sn⟩
theorem dw_and (ha : DT X a tA wA) (hb : DWt X (.BoolOp .And (b' :: rest) pos) tB' wB) : DWt X (.BoolOp .And (a :: b' :: rest) pos) (tAnd tA tB') (wAnd wA wB) := ⟨pw_and ha.pe hb.pe, fun {b ρ σ F M M0} R Qd Q hw k => by
  refine ha.sn R _ _ hw fun j ρ1 F1 M1 M01 q1 A1 => ?_
  cases j with
  | true =>
    rw [if_pos rfl]
    exact hb.sn A1.rel _ _ q1 fun j ρ2 F2 M2 M02 q2 A2 => k j ρ2 F2 M2 M02 q2 (A1.trans A2)
  | false =>
    rw [if_neg Bool.false_ne_true]
    exact k _ _ _ _ _ q1 A1⟩
theorem dw_or (ha : DT X a tA wA) (hb : DWt X (.BoolOp .Or (b' :: rest) pos) tB' wB) : DWt X (.BoolOp .Or (a :: b' :: rest) pos) (tOr tA tB') (wOr wA wB) := ⟨pw_or ha.pe hb.pe, fun {b ρ σ F M M0} R Qd Q hw k => by
  refine ha.sn R _ _ hw fun j ρ1 F1 M1 M01 q1 A1 => ?_
  cases j with
  | false =>
    rw [if_neg Bool.false_ne_true]
    exact hb.sn A1.rel _ _ q1 fun j ρ2 F2 M2 M02 q2 A2 => k j ρ2 F2 M2 M02 q2 (A1.trans A2)
  | true =>
    rw [if_pos rfl]
    exact k _ _ _ _ _ q1 A1⟩
theorem DWt.dt (h : DWt X e tA wA) : DT X e tA wA := ⟨h.pe.pt, h.sn⟩
theorem dt_not (ha : DT X a tA wA) : DT X (.UnaryOp .Not a pos) (tNot tA) (wNot wA) := ⟨pt_not ha.pe, fun {b ρ σ F M M0} R Qd Q hw k => ha.sn R _ _ hw fun j ρ1 F1 M1 M01 q1 A1 => k _ ρ1 F1 M1 M01 q1 A1⟩
/-- .. as values -/
def wAndV (wa wb : WE) : WE := fun ρ Q => wa ρ fun d ρ1 => match d with
  | .bl true => wb ρ1 Q
  | .bl false => Q (.bl false) ρ1
  | _ => False
def wOrV (wa wb : WE) : WE := fun ρ Q => wa ρ fun d ρ1 => match d with
  | .bl true => Q (.bl true) ρ1
  | .bl false => wb ρ1 Q
  | _ => False
def wNotV (wa : WE) : WE := fun ρ Q => wa ρ fun d ρ1 => match d with
  | .bl k => Q (.bl (!k)) ρ1
  | _ => False
theorem de_one {op} (h : DE X a ta wa) : DE X (.BoolOp op [a] pos) ta wa := ⟨pe_one h.pe, h.sn⟩
theorem de_and (ha : DE X a ta wa) (hb : DE X (.BoolOp .And (b' :: rest) pos) tb wb) : DE X (.BoolOp .And (a :: b' :: rest) pos) (tAndV ta tb) (wAndV wa wb) := ⟨pe_and ha.pe hb.pe, fun {b ρ σ F M M0} R Qd Q hw k => by
  refine ha.sn R _ _ hw fun d ρ1 v F1 M1 M01 q1 A1 r => ?_
  cases d with
  | bl j =>
    simp only [Dr] at r
    refine ⟨j, r, ?_⟩
    cases j with
    | true =>
      rw [if_pos rfl]
      exact hb.sn A1.rel _ _ q1 fun d ρ2 v F2 M2 M02 q2 A2 r2 => k d ρ2 v F2 M2 M02 q2 (A1.trans A2) r2
    | false =>
      rw [if_neg Bool.false_ne_true]
      exact k _ _ _ _ _ _ q1 A1 (by simp only [Dr])
  | _ => exact q1.elim⟩
theorem de_or (ha : DE X a ta wa) (hb : DE X (.BoolOp .Or (b' :: rest) pos) tb wb) : DE X (.BoolOp .Or (a :: b' :: rest) pos) (tOrV ta tb) (wOrV wa wb) := ⟨pe_or ha.pe hb.pe, fun {b ρ σ F M M0} R Qd Q hw k => by
  refine ha.sn R _ _ hw fun d ρ1 v F1 M1 M01 q1 A1 r => ?_
  cases d with
  | bl j =>
    simp only [Dr] at r
    refine ⟨j, r, ?_⟩
    cases j with
    | false =>
      rw [if_neg Bool.false_ne_true]
      exact hb.sn A1.rel _ _ q1 fun d ρ2 v F2 M2 M02 q2 A2 r2 => k d ρ2 v F2 M2 M02 q2 (A1.trans A2) r2
    | true =>
      rw [if_pos rfl]
      exact k _ _ _ _ _ _ q1 A1 (by simp only [Dr])
  | _ => exact q1.elim⟩
theorem de_not (ha : DE X a ta wa) : DE X (.UnaryOp .Not a pos) (tNotV ta) (wNotV wa) := ⟨pe_not ha.pe, fun {b ρ σ F M M0} R Qd Q hw k => by
  refine ha.sn R _ _ hw fun d ρ1 v F1 M1 M01 q1 A1 r => ?_
  cases d with
  | bl j => simp only [Dr] at r; exact ⟨j, r, k _ ρ1 _ F1 M1 M01 q1 A1 (by simp only [Dr])⟩
  | _ => exact q1.elim⟩
def wIfE (t : WT) (wa wb : WE) : WE := fun ρ Q => t ρ fun k ρ1 => match k with
  | true => wa ρ1 Q
  | false => wb ρ1 Q
theorem de_if {c' : Expr} (hc : DT X c' tA wA) (ha : DE X a ta wa) (hb : DE X b' tb wb) : DE X (.IfExp c' a b' pos) (tIf tA ta tb) (wIfE wA wa wb) := ⟨pe_ifExp hc.pe ha.pe hb.pe, fun {b ρ σ F M M0} R Qd Q hw k => by
  refine hc.sn R _ _ hw fun j ρ1 F1 M1 M01 q1 A1 => ?_
  cases j with
  | true =>
    rw [if_pos rfl]
    exact ha.sn A1.rel _ _ q1 fun d ρ2 v F2 M2 M02 q2 A2 r2 => k d ρ2 v F2 M2 M02 q2 (A1.trans A2) r2
  | false =>
    rw [if_neg Bool.false_ne_true]
    exact hb.sn A1.rel _ _ q1 fun d ρ2 v F2 M2 M02 q2 A2 r2 => k d ρ2 v F2 M2 M02 q2 (A1.trans A2) r2⟩

/-! ### arguments, displays -/
variable {es : List Expr} {t : TA} {wt : WA}
def waNil : WA := fun ρ Q => Q [] ρ
def waCons (w : WE) (wr : WA) : WA := fun ρ Q => w ρ fun d ρ1 => wr ρ1 fun ds ρ2 => Q (d :: ds) ρ2
theorem da_nil : DA X [] tNil waNil := ⟨pa_nil, fun {b ρ σ F M M0} R Qd Q hw k => k [] ρ [] F M M0 hw R.aft .nil⟩
theorem da_cons (ha : DE X e te w) (hr : DA X es t wt) (hs : starEach (e :: es) X.env = (false, eval e X.env) :: starEach es X.env := by rfl) : DA X (e :: es) (tCons te t) (waCons w wt) :=
  ⟨pa_cons ha.pe hr.pe hs, fun {b ρ σ F M M0} R Qd Q hw k => by
    refine ha.sn R _ _ hw fun d ρ1 v F1 M1 M01 q1 A1 r1 => ?_
    exact hr.sn A1.rel _ _ q1 fun ds ρ2 vs F2 M2 M02 q2 A2 r2 => k (d :: ds) ρ2 (v :: vs) F2 M2 M02 q2 (A1.trans A2) (.cons (r1.up A2.same) r2)⟩
def wTup (wt : WA) : WE := fun ρ Q => wt ρ fun ds ρ1 => ds.length ≤ sizeLine ∧ Q (.tup ds) ρ1
theorem de_tup {x1} (h : DA X es t wt) : DE X (.Tuple es x1 pos) (tTup t) (wTup wt) := ⟨pe_tup h.pe, fun {b ρ σ F M M0} R Qd Q hw k => by
  refine h.sn R _ _ hw fun ds ρ1 vs F1 M1 M01 q1 A1 r1 => ⟨by rw [r1.length]; exact q1.1, fun p hp => ?_⟩
  obtain ⟨hf, hm⟩ := hh_none hp
  rw [hh_updF hm]
  have s : Same F1 (upd F1 p (.tup vs)) := Same.updF hf
  refine k _ ρ1 _ _ M1 M01 q1.2 (A1.trans (A1.rel.grow s (A1.rel.dj.updF hm))) ?_
  simp only [Dr]
  exact ⟨p, vs, rfl, upd_same, r1.up s⟩⟩
def wfLst (wt : WA) : List Sl → (Sl → List Sl → Prop) → Prop := fun ρ Q => wt ρ fun ds ρ1 => ds.length ≤ sizeLine ∧ Q (.ol ds) ρ1
theorem df_lst (h : DA X es t wt) : DF X (.List es pos) (tLst t) (wfLst wt) := ⟨pe_lst h.pe, fun {b ρ σ F M M0} R Qd Q hw k => by
  refine h.sn R _ _ hw fun ds ρ1 vs F1 M1 M01 q1 A1 r1 => ⟨by rw [r1.length]; exact q1.1, fun p hp => ?_⟩
  obtain ⟨hf, hm⟩ := hh_none hp
  rw [hh_updM]
  exact k (.ol ds) ρ1 p _ F1 M1 M01 q1.2 A1 trivial ⟨vs, rfl, r1⟩ hf hm⟩
/-- a new own object, frozen at once -/
def wFz (wf : List Sl → (Sl → List Sl → Prop) → Prop) : WE := fun ρ Q => wf ρ fun sl ρ1 => Q (obD sl) ρ1
theorem DF.de {wf : List Sl → (Sl → List Sl → Prop) → Prop} (h : DF X e te wf) : DE X e te (wFz wf) := ⟨h.pe, fun {b ρ σ F M M0} R Qd Q hw k => by
  refine h.sn R _ _ hw fun sl ρ1 a o F1 M1 M01 q1 A1 hs r f m => ?_
  rw [hh_freeze m]
  have s : Same F1 (upd F1 a o) := Same.updF f
  exact k _ ρ1 _ _ M1 M01 q1 (A1.trans (A1.rel.grow s (A1.rel.dj.updF m))) ((r.leD (.of s)).dr upd_same)⟩
end
end DL

/-! Statements, loops, comprehensions, defs. -/
namespace DL
open PySem L2
variable [Lk]

structure EnD where
  nx : List Sl → Prop
  rt : D → List Sl → Prop
  bk : List Sl → Prop := fun _ => False
  ct : List Sl → Prop := fun _ => False
abbrev WS := List Sl → EnD → Prop
/-- the ends over heaps follow from the ends over data -/
structure Fin (c : Cy) (b : Option Addr) (F M0 : Hp) (E : EnD) (Dn : Ends) : Prop where
  nx : ∀ ρ σ F' M' M0', E.nx ρ → Same F F' → Rel c b ρ σ F' M' M0' → MR b M0 M0' → Dn.nx σ (HH F' M')
  bk : ∀ ρ σ F' M' M0', E.bk ρ → Same F F' → Rel c b ρ σ F' M' M0' → MR b M0 M0' → Dn.bk σ (HH F' M')
  ct : ∀ ρ σ F' M' M0', E.ct ρ → Same F F' → Rel c b ρ σ F' M' M0' → MR b M0 M0' → Dn.ct σ (HH F' M')
  rt : ∀ d v ρ σ F' M' M0', E.rt d ρ → Same F F' → Rel c b ρ σ F' M' M0' → MR b M0 M0' → Dr c F' v d → Dn.rt v (HH F' M')
def Sns (c : Cy) (ts : TS) (w : WS) : Prop := ∀ {b : Option Addr} {ρ : List Sl} {σ : St} {F M M0 : Hp}, Rel c b ρ σ F M M0 → ∀ (E : EnD) (Dn : Ends), w ρ E → Fin c b F M0 E Dn → ts Dn σ (HH F M)
structure DS (X : Cx) (s : Stmt) (ts : TS) (w : WS) : Prop where
  ps : PS X s ts
  sn : Sns (cy X) ts w
structure DSs (X : Cx) (s : List Stmt) (ts : TS) (w : WS) : Prop where
  ps : PSs X s ts
  sn : Sns (cy X) ts w
section
variable {c : Cy} {b : Option Addr} {F M M0 F1 M1 M01 : Hp} {ρ ρ1 : List Sl} {σ : St} {E : EnD} {Dn : Ends}
theorem Fin.on (f : Fin c b F M0 E Dn) (s : Same F F1) (m : MR b M0 M01) : Fin c b F1 M01 E Dn :=
  ⟨fun ρ σ F' M' M0' e s' r m' => f.nx ρ σ F' M' M0' e (s.trans s') r (m.trans m'), fun ρ σ F' M' M0' e s' r m' => f.bk ρ σ F' M' M0' e (s.trans s') r (m.trans m'),
    fun ρ σ F' M' M0' e s' r m' => f.ct ρ σ F' M' M0' e (s.trans s') r (m.trans m'), fun d v ρ σ F' M' M0' e s' R m' r => f.rt d v ρ σ F' M' M0' e (s.trans s') R (m.trans m') r⟩
/-- all own objects frozen -/
theorem RelE.frzAll : ∀ {ρ : List Sl} {σ : St} {F M : Hp}, RelE c b F M0 ρ σ M → Dj F M → ∃ F', Same F F' ∧ HH F M = HH F' M0 ∧ Dj F' M0
  | [], σ, F, M, h, dj => by
    obtain ⟨_, rfl, _⟩ := h
    exact ⟨F, Same.refl _, rfl, dj⟩
  | s1 :: ρ, σ, F, M, h, dj => by
    obtain ⟨v, σr, e, h⟩ := h
    have own : ∀ sl : Sl, (∃ a o M', v = some (.ref a) ∧ ObR c F sl o ∧ F a = none ∧ M' a = none ∧ M = upd M' a o ∧ RelE c b F M0 ρ σr M') → ∃ F', Same F F' ∧ HH F M = HH F' M0 ∧ Dj F' M0 := fun sl h => by
      obtain ⟨a, o, M', e1, r, f, m, e2, t⟩ := h
      have dj' : Dj F M' := fun x u q => dj x u (by rw [e2, upd_ne (ne_of_none q m)]; exact q)
      have s : Same F (upd F a o) := Same.updF f
      have t' : RelE c b (upd F a o) M0 ρ σr M' := t.leD (.of s) (fun x u q z => by rw [upd_ne (ne_of_none (t.sub _ _ q) m)]; exact z) (fun x u q z => by rw [upd_ne (ne_of_none q m)]; exact z)
      obtain ⟨F', h1, h2, h3⟩ := RelE.frzAll t' (dj'.updF m)
      exact ⟨F', s.trans h1, by rw [e2, hh_freeze m, h2], h3⟩
    cases s1 with
    | no => exact RelE.frzAll h dj
    | sh d => exact RelE.frzAll h.2 dj
    | bx => exact RelE.frzAll h.2 dj
    | ol ds => exact own (.ol ds) h
    | ok ks ds => exact own (.ok ks ds) h
    | ot ks ds => exact own (.ot ks ds) h
    | oi n fs ds => exact own (.oi n fs ds) h
    | od x t0 =>
      obtain ⟨Mo, M', e1, r, d, e2, t⟩ := h
      have dF : Dj F Mo := OTR.dj t0 r
      have s : Same F (HH F Mo) := dF.same
      have dj' : Dj (HH F Mo) M' := fun a o q => by
        rw [hh_n (d.mn q)]
        exact dj a o (by rw [e2]; exact d.f q)
      have t' : RelE c b (HH F Mo) M0 ρ σr M' := t.leD (.of s) (fun y u q z => by rw [hh_n (d.mn (t.sub _ _ q))]; exact z) (fun y u q z => by rw [hh_n (d.mn q)]; exact z)
      obtain ⟨F', h1, h2, h3⟩ := RelE.frzAll t' dj'
      exact ⟨F', s.trans h1, by rw [e2, hh_comm d, hh_assoc, h2], h3⟩
/-- a shared value comes to a slot -/
theorem Rel.set {x : V} {d : D} {i : Nat} {sl : Sl} (R : Rel c b ρ σ F M M0) (q : Dr c F x d) (e : ρ[i]? = some sl) :
    ∃ F' M', HH F M = HH F' M' ∧ Same F F' ∧ Rel c b (ρ.set i (.sh d)) (σ.set i (some x)) F' M' M0 := by
  by_cases hs : isOwn sl
  · obtain ⟨a, F', M', h1, h2, A, r⟩ := R.freeze e hs
    have hl : i < ρ.length := by
      rcases Nat.lt_or_ge i ρ.length with z | z
      · exact z
      · rw [List.getElem?_eq_none z] at e; cases e
    have t := RelE.setSh (q.up A.same) A.rel.env (List.getElem?_set_self hl) (fun z => z)
    rw [List.set_set] at t
    exact ⟨F', M', h2, A.same, A.rel.dj, t, A.rel.box, A.rel.lk⟩
  · exact ⟨F, M, rfl, Same.refl _, R.dj, R.env.setSh q e hs, R.box, R.lk⟩
end

section
variable {X : Cx} {st : Stmt} {rest : List Stmt} {t u : TS} {wt wu : WS} {e : Expr} {te : TE} {w : WE} {pos : Pos}
def wNext : WS := fun ρ E => E.nx ρ
def wSeq (w1 w2 : WS) : WS := fun ρ E => w1 ρ { E with nx := fun ρ' => w2 ρ' E }
theorem dss_nil : DSs X [] tNext wNext := ⟨pss_nil, fun {b ρ σ F M M0} R E Dn hw f => f.nx ρ σ F M M0 hw (Same.refl _) R (MR.refl _ _)⟩
theorem sns_seq {c : Cy} (h1 : Sns c t wt) (h2 : Sns c u wu) : Sns c (tSeq t u) (wSeq wt wu) := fun {b ρ σ F M M0} R E Dn hw f =>
  h1 R _ { Dn with nx := u Dn } hw ⟨fun ρ' σ' F' M' M0' e s r m => h2 r E Dn e (f.on s m), f.bk, f.ct, f.rt⟩
theorem dss_cons (h1 : DS X st t wt) (h2 : DSs X rest u wu) : DSs X (st :: rest) (tSeq t u) (wSeq wt wu) := ⟨pss_cons h1.ps h2.ps, sns_seq h1.sn h2.sn⟩
theorem dss_one (h1 : DS X st t wt) : DSs X [st] t wt := ⟨pss_one h1.ps, h1.sn⟩
def wBreak : WS := fun ρ E => E.bk ρ
def wCont : WS := fun ρ E => E.ct ρ
theorem ds_pass : DS X (.Pass pos) tNext wNext := ⟨ps_pass, fun {b ρ σ F M M0} R E Dn hw f => f.nx ρ σ F M M0 hw (Same.refl _) R (MR.refl _ _)⟩
theorem ds_break : DS X (.Break pos) tBreak wBreak := ⟨ps_break, fun {b ρ σ F M M0} R E Dn hw f => f.bk ρ σ F M M0 hw (Same.refl _) R (MR.refl _ _)⟩
theorem ds_continue : DS X (.Continue pos) tCont wCont := ⟨ps_continue, fun {b ρ σ F M M0} R E Dn hw f => f.ct ρ σ F M M0 hw (Same.refl _) R (MR.refl _ _)⟩
theorem ds_doc {x j pos pos'} : DS X (.Expr (.Constant (.str x) j pos) pos') tNext wNext := ⟨ps_doc, fun {b ρ σ F M M0} R E Dn hw f => f.nx ρ σ F M M0 hw (Same.refl _) R (MR.refl _ _)⟩
def wDrop (w : WE) : WS := fun ρ E => w ρ fun _ ρ1 => E.nx ρ1
theorem ds_expr (he : DE X e te w) (hs : swapsWith e none pos.line X.env = pure false := by rfl) : DS X (.Expr e pos) (tDrop te) (wDrop w) := ⟨ps_expr he.pe hs, fun {b ρ σ F M M0} R E Dn hw f =>
  he.sn R _ _ hw fun d ρ1 v F1 M1 M01 q A r => f.nx ρ1 σ F1 M1 M01 q A.same A.rel A.mr⟩
def wRet (w : WE) : WS := fun ρ E => w ρ fun d ρ1 => E.rt d ρ1
theorem ds_ret (he : DE X e te w) : DS X (.Return (some e) pos) (tRet te) (wRet w) := ⟨ps_ret he.pe, fun {b ρ σ F M M0} R E Dn hw f =>
  he.sn R _ _ hw fun d ρ1 v F1 M1 M01 q A r => f.rt d v ρ1 σ F1 M1 M01 q A.same A.rel A.mr r⟩
def wRetN : WS := fun ρ E => E.rt .non ρ
theorem ds_retN : DS X (.Return none pos) tRetN wRetN := ⟨ps_retN, fun {b ρ σ F M M0} R E Dn hw f => f.rt .non .non ρ σ F M M0 hw (Same.refl _) R (MR.refl _ _) (by simp only [Dr])⟩
def wIf (wc : WT) (w1 w2 : WS) : WS := fun ρ E => wc ρ fun k ρ1 => match k with
  | true => w1 ρ1 E
  | false => w2 ρ1 E
theorem ds_if {c : Expr} {a b : List Stmt} {tc : TT} {wc : WT} (hc : DT X c tc wc) (ha : DSs X a t wt) (hb : DSs X b u wu) : DS X (.If c a b pos) (tIfS tc t u) (wIf wc wt wu) := ⟨ps_if hc.pe ha.ps hb.ps, fun {b ρ σ F M M0} R E Dn hw f => by
  refine hc.sn R _ _ hw fun k ρ1 F1 M1 M01 q A => ?_
  cases k with
  | true =>
    rw [if_pos rfl]
    exact ha.sn A.rel E Dn q (f.on A.same A.mr)
  | false =>
    rw [if_neg Bool.false_ne_true]
    exact hb.sn A.rel E Dn q (f.on A.same A.mr)⟩
/-! ### targets -/
abbrev WG := D → List Sl → (List Sl → Prop) → Prop
def Sng (c : Cy) (g : TG) (w : WG) (is : List Nat) : Prop := ∀ {b : Option Addr} {ρ : List Sl} {σ : St} {F M M0 : Hp} {v : V} {d : D}, Rel c b ρ σ F M M0 → Dr c F v d → ∀ (Qd : List Sl → Prop) (Q : St → Hp → Prop), w d ρ Qd →
  (∀ ρ' σ' F' M' M0', Qd ρ' → Same F F' → Ext b (HH F M) (HH F' M') → Rel c b ρ' σ' F' M' M0' → MR b M0 M0' → (∀ vs : List Nat, (∀ i ∈ is, i ∈ vs) → wipe σ' vs = wipe σ vs) → Q σ' (HH F' M')) → g v σ (HH F M) Q
structure DG (X : Cx) (e : Expr) (g : TG) (w : WG) (is : List Nat) : Prop where
  pg : PG X e g
  sn : Sng (cy X) g w is
theorem wipe_out {σ : St} {i : Nat} {x : Option V} : ∀ {vs : List Nat}, i ∉ vs → wipe (σ.set i x) vs = (wipe σ vs).set i x
  | [], _ => rfl
  | v :: vs, h => by
    have h1 : v ≠ i := fun e => h (by rw [e]; exact List.mem_cons_self)
    have h2 : i ∉ vs := fun e => h (List.mem_cons_of_mem _ e)
    unfold wipe
    rw [wipe_out h2, List.set_comm _ _ h1]
theorem wipe_in {σ : St} {i : Nat} {x : Option V} : ∀ {vs : List Nat}, i ∈ vs → wipe (σ.set i x) vs = wipe σ vs
  | [], h => absurd h (by simp)
  | v :: vs, h => by
    by_cases h2 : i ∈ vs
    · unfold wipe
      rw [wipe_in h2]
    · have e : i = v := (List.mem_cons.mp h).resolve_right h2
      subst e
      unfold wipe
      rw [wipe_out h2, List.set_set]
/-- a slot is stored -/
def wSt (i : Nat) (d : D) (ρ : List Sl) (Q : List Sl → Prop) : Prop := match ρ[i]? with
  | some _ => Q (ρ.set i (.sh d))
  | none => False
theorem sng_name {c : Cy} (i : Nat) : Sng c (gName i) (wSt i) [i] := fun {b ρ σ F M M0 v d} R r Qd Q hw k => by
  unfold wSt at hw
  cases e : ρ[i]? with
  | none => rw [e] at hw; exact hw.elim
  | some sl =>
    rw [e] at hw
    obtain ⟨F', M', eh, s, R'⟩ := R.set r e
    show Q (σ.set i (some v)) (HH F M)
    rw [eh]
    refine k _ _ F' M' M0 hw s ?_ R' (MR.refl _ _) fun vs hv => wipe_in (hv i (by simp))
    rw [eh]; exact Ext.refl _ _
theorem dg_name {i : Nat} {x : Str} (hN : X.N.Nodup) (hi : X.N[i]? = some x) (hx : Loc X.env.scope x) (hf : X.fn x = true ∨ X.env.scope.names.lookup x = some .local := by first | exact .inl rfl | exact .inr rfl | assumption) : DG X (.Name x pos) (gName i) (wSt i) [i] :=
  ⟨pg_name hN hi hx hf, sng_name i⟩
/-- several names -/
def gNames : List Nat → TGs
  | [] => gNil
  | i :: r => gCons (gName i) (gNames r)
def wStL : List Nat → List D → List Sl → (List Sl → Prop) → Prop
  | [], ds, ρ, Q => match ds with
    | [] => Q ρ
    | _ :: _ => False
  | i :: r, ds, ρ, Q => match ds with
    | [] => False
    | d :: ds => wSt i d ρ fun ρ1 => wStL r ds ρ1 Q
theorem sngs_names {c : Cy} : ∀ (is : List Nat) {b : Option Addr} {ρ : List Sl} {σ : St} {F M M0 : Hp} {vs : List V} {ds : List D}, Rel c b ρ σ F M M0 → DrL c F vs ds → ∀ (Qd : List Sl → Prop) (Q : St → Hp → Prop), wStL is ds ρ Qd →
    (∀ ρ' σ' F' M' M0', Qd ρ' → Same F F' → Ext b (HH F M) (HH F' M') → Rel c b ρ' σ' F' M' M0' → MR b M0 M0' → (∀ vs : List Nat, (∀ i ∈ is, i ∈ vs) → wipe σ' vs = wipe σ vs) → Q σ' (HH F' M')) → gNames is vs σ (HH F M) Q
  | [], b, ρ, σ, F, M, M0, vs, ds, R, r, Qd, Q, hw, k => by
    cases ds with
    | nil => exact ⟨r.nil_iff, k ρ σ F M M0 hw (Same.refl _) (Ext.refl _ _) R (MR.refl _ _) fun _ _ => rfl⟩
    | cons d ds => exact hw.elim
  | i :: is, b, ρ, σ, F, M, M0, vs, ds, R, r, Qd, Q, hw, k => by
    cases ds with
    | nil => exact hw.elim
    | cons d ds =>
      obtain ⟨v, vr, rfl, r1, r2⟩ := r.cons_iff
      refine ⟨v, vr, rfl, ?_⟩
      have hw : wSt i d ρ fun ρ1 => wStL is ds ρ1 Qd := hw
      refine sng_name i R r1 _ _ hw fun ρ1 σ1 F1 M1 M01 q s x R1 m z => ?_
      exact sngs_names is R1 (r2.up s) Qd Q q fun ρ2 σ2 F2 M2 M02 q2 s2 x2 R2 m2 z2 => k ρ2 σ2 F2 M2 M02 q2 (s.trans s2) (x.trans x2) R2 (m.trans m2) fun vs hv =>
        (z2 vs fun j hj => hv j (List.mem_cons_of_mem _ hj)).trans (z vs fun j hj => hv j (by rw [List.mem_singleton.mp hj]; exact List.mem_cons_self))
def wTp (is : List Nat) : WG := fun d ρ Q => match d with
  | .tup ds => ds.length = is.length ∧ wStL is ds ρ Q
  | _ => False
theorem sng_tup {c : Cy} (is : List Nat) {n : Nat} (hn : n = is.length) : Sng c (gTup c.K n (gNames is)) (wTp is) is := fun {b ρ σ F M M0 v d} R r Qd Q hw k => by
  cases d with
  | tup ds =>
    simp only [Dr] at r
    obtain ⟨a, vs, e, q, rl⟩ := r
    exact ⟨a, vs, e, SqT.of (R.dj.f q), by rw [rl.length, hn]; exact hw.1, sngs_names is R rl Qd Q hw.2 k⟩
  | _ => exact hw.elim
theorem dg_tup {es : List Expr} {k : Nat} (is : List Nat) (hc : X.calm = true) (h : PGs X es (gNames is)) (hn : (assignEach es X.env).length = is.length := by rfl) (hst : (assignEach es X.env).findIdx? (·.1) = none := by rfl) : DG X (.Tuple es k pos) (gTup X.K is.length (gNames is)) (wTp is) is :=
  ⟨pg_tup hc h hn hst, sng_tup (c := cy X) is rfl⟩
theorem gs_nil : PGs X [] (gNames []) := pgs_nil
theorem gs_cons {es : List Expr} {x : Str} {p : Pos} {i : Nat} {is : List Nat} (hN : X.N.Nodup) (hi : X.N[i]? = some x) (hx : Loc X.env.scope x) (hr : PGs X es (gNames is))
    (hs : (assignEach (.Name x p :: es) X.env).map (·.2) = assign (.Name x p) X.env :: (assignEach es X.env).map (·.2) := by rfl) (hf : X.fn x = true ∨ X.env.scope.names.lookup x = some .local := by first | exact .inl rfl | exact .inr rfl | assumption) : PGs X (.Name x p :: es) (gNames (i :: is)) :=
  pgs_cons (pg_name hN hi hx hf) hr hs
def wAsg (w : WE) (g : WG) : WS := fun ρ E => w ρ fun d ρ1 => g d ρ1 E.nx
theorem sns_asg {c : Cy} {g : TG} {wg : WG} {is : List Nat} (he : Snd c te w) (hg : Sng c g wg is) : Sns c (tAsg te g) (wAsg w wg) := fun {b ρ σ F M M0} R E Dn hw f =>
  he R _ _ hw fun d ρ1 v F1 M1 M01 q A r => hg A.rel r _ _ q fun ρ2 σ2 F2 M2 M02 q2 s x R2 m _ => f.nx ρ2 σ2 F2 M2 M02 q2 (A.same.trans s) R2 (A.mr.trans m)
theorem ds_asg {tg : Expr} {g : TG} {wg : WG} {is : List Nat} (he : DE X e te w) (hg : DG X tg g wg is) (hs : swapsWithSole [tg] e pos.line X.env = pure false := by rfl) (hw : swappedStores [tg] e X.env = pure none := by rfl)
    (h1 : (assignEach [tg] X.env).map (·.2) = [assign tg X.env] := by rfl) : DS X (.Assign [tg] e pos) (tAsg te g) (wAsg w wg) := ⟨ps_asg he.pe hg.pg hs hw h1, sns_asg he.sn hg.sn⟩
theorem ds_set {i : Nat} {x : Str} {pos' : Pos} (hN : X.N.Nodup) (hi : X.N[i]? = some x) (hx : Loc X.env.scope x) (he : DE X e te w) (hs : swapsWith e (some (.Name x pos')) pos.line X.env = pure false := by rfl) (hf : X.fn x = true ∨ X.env.scope.names.lookup x = some .local := by first | exact .inl rfl | exact .inr rfl | assumption) :
    DS X (.Assign [.Name x pos'] e pos) (tAsg te (gName i)) (wAsg w (wSt i)) := ⟨ps_set hN hi hx he.pe hs hf, sns_asg he.sn (sng_name i)⟩
/-- the name gets a new own object -/
def wAsgO (wf : List Sl → (Sl → List Sl → Prop) → Prop) (i : Nat) : WS := fun ρ E => wf ρ fun sl ρ1 => match ρ1[i]? with
  | some _ => E.nx (ρ1.set i sl)
  | none => False
theorem sns_asgO {c : Cy} {wf : List Sl → (Sl → List Sl → Prop) → Prop} {i : Nat} (he : Snf c te wf) : Sns c (tAsg te (gName i)) (wAsgO wf i) := fun {b ρ σ F M M0} R E Dn hw f =>
  he R _ _ hw fun sl ρ1 a o F1 M1 M01 q A hs r fr m => by
    cases e : ρ1[i]? with
    | none => simp only [e] at q
    | some s0 =>
      simp only [e] at q
      -- first forget what stood there
      have key : ∃ F' M', Same F1 F' ∧ HH F1 M1 = HH F' M' ∧ F' a = none ∧ M' a = none ∧ Dj F' M' ∧ RelE c b F' M01 (ρ1.set i .no) σ M' := by
        have es : σ.set i (σ[i]?.getD none) = σ := by
          cases h : σ[i]? with
          | none => rw [List.set_eq_of_length_le (List.getElem?_eq_none_iff.mp h)]
          | some x =>
            obtain ⟨hi, ei⟩ := List.getElem?_eq_some_iff.mp h
            show σ.set i x = σ
            rw [← ei]; exact List.set_getElem_self hi
        by_cases h0 : isOwn s0
        · obtain ⟨a', F', M', h1, h2, A', r'⟩ := A.rel.freeze e h0
          have hl : i < ρ1.length := by
            rcases Nat.lt_or_ge i ρ1.length with z | z
            · exact z
            · rw [List.getElem?_eq_none z] at e; cases e
          have t := RelE.forget (x := σ[i]?.getD none) A'.rel.env (List.getElem?_set_self hl) (fun z => z)
          rw [List.set_set, es] at t
          have hn : HH F' M' a = none := by rw [← h2, hh_n m]; exact fr
          obtain ⟨n1, n2⟩ := hh_none hn
          exact ⟨F', M', A'.same, h2, n1, n2, A'.rel.dj, t⟩
        · have t := RelE.forget (x := σ[i]?.getD none) A.rel.env e h0
          rw [es] at t
          exact ⟨F1, M1, Same.refl _, rfl, fr, m, A.rel.dj, t⟩
      obtain ⟨F', M', s, eh, n1, n2, dj, t⟩ := key
      have hl : i < ρ1.length := by
        rcases Nat.lt_or_ge i ρ1.length with z | z
        · exact z
        · rw [List.getElem?_eq_none z] at e; cases e
      have t2 := RelE.setOw hs (r.leD (.of s)) n1 t n2 (List.getElem?_set_self hl) (fun z => z)
      rw [List.set_set] at t2
      show Dn.nx (σ.set i (some (.ref a))) (HH F1 (upd M1 a o))
      rw [← hh_updM, eh, hh_updM]
      exact f.nx _ _ F' _ M01 q (A.same.trans s) ⟨dj.updM n1, t2, fun x z => (A.rel.box x z).leD (.of s), A.rel.lkS (s)⟩ A.mr
theorem ds_setO {i : Nat} {x : Str} {pos' : Pos} {wf : List Sl → (Sl → List Sl → Prop) → Prop} (hN : X.N.Nodup) (hi : X.N[i]? = some x) (hx : Loc X.env.scope x) (he : DF X e te wf) (hs : swapsWith e (some (.Name x pos')) pos.line X.env = pure false := by rfl) (hf : X.fn x = true ∨ X.env.scope.names.lookup x = some .local := by first | exact .inl rfl | exact .inr rfl | assumption) :
    DS X (.Assign [.Name x pos'] e pos) (tAsg te (gName i)) (wAsgO wf i) := ⟨ps_set hN hi hx he.pe hs hf, sns_asgO he.sn⟩
/-- name op= e -/
def wAug (i : Nat) (wr : D → D → (D → Prop) → Prop) (w : WE) : WS := fun ρ E => match ρ[i]? with
  | some (.sh d0) => w ρ fun d ρ1 => wr d0 d fun d' => wSt i d' ρ1 E.nx
  | _ => False
theorem ds_aug {i : Nat} {x : Str} {op : Operator} {ti : TIp} {wr : D → D → (D → Prop) → Prop} {pos' : Pos} (hN : X.N.Nodup) (hi : X.N[i]? = some x) (hx : Loc X.env.scope x) (he : DE X e te w) (ho : PIp X op ti) (hr : Rop (cy X) ti wr) (hf : X.fn x = true ∨ X.env.scope.names.lookup x = some .local := by first | exact .inl rfl | exact .inr rfl | assumption) :
    DS X (.AugAssign (.Name x pos') op e pos) (tAug i te ti) (wAug i wr w) := ⟨ps_aug hN hi hx he.pe ho hf, fun {b ρ σ F M M0} R E Dn hw f => by
  unfold wAug at hw
  cases e : ρ[i]? with
  | none => rw [e] at hw; exact hw.elim
  | some sl =>
    rw [e] at hw
    cases sl with
    | sh d0 =>
      obtain ⟨x0, h1, h2⟩ := R.env.get e
      refine ⟨x0, h1, ?_⟩
      refine he.sn R _ _ hw fun d ρ1 v F1 M1 M01 q A r => ?_
      refine hr (b := b) _ _ A.rel.dj (Rk.of A.rel.dj (fun a o z => A.rel.nb z) (h2.up A.same)) (Rk.of A.rel.dj (fun a o z => A.rel.nb z) r) q fun d' v' F2 q' s dj _ r' => ?_
      have A2 := A.trans (A.rel.grow s dj)
      exact sng_name i A2.rel r' _ _ q' fun ρ2 σ2 F3 M3 M03 q2 s2 x2 R2 m2 _ => f.nx ρ2 σ2 F3 M3 M03 q2 (A2.same.trans s2) R2 (A2.mr.trans m2)
    | _ => exact hw.elim⟩
end

/-! ### loops -/
/-- what is walked yields these data -/
def ItOk (c : Cy) (J : It) (F : Hp) (ds : List D) : Prop := ∀ (F' M' : Hp), Same F F' → Dj F' M' → NT M' → ∀ i, (∀ d, ds[i]? = some d → J.go i (HH F' M') ∧ ∀ x H3, J.yld i (HH F' M') x H3 → ∃ F3, H3 = HH F3 M' ∧ Same F' F3 ∧ Dj F3 M' ∧ Dr c F3 x d) ∧ (ds.length = i → J.stop i (HH F' M'))
def Sni (c : Cy) (wi : TI) (w : WA) : Prop := ∀ {b : Option Addr} {ρ : List Sl} {σ : St} {F M M0 : Hp}, Rel c b ρ σ F M M0 → ∀ (Qd : List D → List Sl → Prop) (Q : It → Hp → Prop), w ρ Qd →
  (∀ ds ρ' J F' M' M0', Qd ds ρ' → Aft c b F M M0 ρ' σ F' M' M0' → ItOk c J F' ds → Q J (HH F' M')) → wi σ (HH F M) Q
structure DI (X : Cx) (tg iter : Expr) (wi : TI) (w : WA) : Prop where
  pi : PI X tg iter wi
  sn : Sni (cy X) wi w
def wForL (wg : WG) (wb : WS) : List D → WS
  | [], ρ, E => E.nx ρ
  | d :: ds, ρ, E => wg d ρ fun ρ1 => wb ρ1 { nx := fun ρ2 => wForL wg wb ds ρ2 E, ct := fun ρ2 => wForL wg wb ds ρ2 E, bk := E.nx, rt := E.rt }
def wFor (wi : WA) (wg : WG) (wb : WS) : WS := fun ρ E => wi ρ fun ds ρ1 => wForL wg wb ds ρ1 E
/-- what is walked, from one state -/
def SniAt (c : Cy) (wi : TI) (w : WA) (b : Option Addr) (ρ : List Sl) (σ : St) (F M M0 : Hp) : Prop := ∀ (Qd : List D → List Sl → Prop) (Q : It → Hp → Prop), w ρ Qd →
  (∀ ds ρ' J F' M' M0', Qd ds ρ' → Aft c b F M M0 ρ' σ F' M' M0' → ItOk c J F' ds → Q J (HH F' M')) → wi σ (HH F M) Q
theorem sns_for_at {c : Cy} {wi : TI} {g : TG} {tb : TS} {w : WA} {wg : WG} {wb : WS} {is : List Nat} {b : Option Addr} {ρ : List Sl} {σ : St} {F M M0 : Hp} (R : Rel c b ρ σ F M M0) (hi : SniAt c wi w b ρ σ F M M0) (hg : Sng c g wg is) (hb : Sns c tb wb) (E : EnD) (Dn : Ends) (hw : wFor w wg wb ρ E) (f : Fin c b F M0 E Dn) :
    tFor wi g tb Dn σ (HH F M) := by
  refine hi _ _ hw fun ds ρ1 J F1 M1 M01 q A it => ?_
  refine ⟨fun i m σ' H' => m = ds.length - i ∧ i ≤ ds.length ∧ ∃ ρ' F' M' M0', H' = HH F' M' ∧ Same F1 F' ∧ Rel c b ρ' σ' F' M' M0' ∧ MR b M01 M0' ∧ wForL wg wb (ds.drop i) ρ' E,
    ⟨ds.length, by simp, Nat.zero_le _, ρ1, F1, M1, M01, rfl, Same.refl _, A.rel, MR.refl _ _, q⟩, ?_⟩
  rintro i m σ' H' ⟨rfl, hil, ρ', F', M', M0', rfl, s, R', mr, hw'⟩
  by_cases hlt : i < ds.length
  · have ed : ds.drop i = ds[i] :: ds.drop (i + 1) := List.drop_eq_getElem_cons hlt
    rw [ed] at hw'
    have hd : ds[i]? = some ds[i] := List.getElem?_eq_getElem hlt
    refine .inr ⟨((it F' M' s R'.dj R'.env.nt i).1 _ hd).1, fun σ2 H2 => i + 1 ≤ ds.length ∧ ∃ ρ' F' M' M0', H2 = HH F' M' ∧ Same F1 F' ∧ Rel c b ρ' σ2 F' M' M0' ∧ MR b M01 M0' ∧ wForL wg wb (ds.drop (i + 1)) ρ' E,
      fun σ2 H2 n2 => ⟨ds.length - (i + 1), by omega, rfl, n2.1, n2.2⟩, fun x H3 hy => ?_⟩
    obtain ⟨F3, rfl, s3, dj3, r3⟩ := ((it F' M' s R'.dj R'.env.nt i).1 _ hd).2 x H3 hy
    have A3 := R'.grow s3 dj3
    refine hg A3.rel r3 _ _ hw' fun ρ4 σ4 F4 M4 M04 q4 s4 x4 R4 m4 _ => ?_
    have sAll := (s.trans s3).trans s4
    have mAll := mr.trans m4
    refine hb R4 _ { Dn with nx := _, ct := _, bk := Dn.nx } q4 ⟨fun ρ5 σ5 F5 M5 M05 e5 s5 R5 m5 => ⟨hlt, ρ5, F5, M5, M05, rfl, sAll.trans s5, R5, mAll.trans m5, e5⟩,
      fun ρ5 σ5 F5 M5 M05 e5 s5 R5 m5 => f.nx ρ5 σ5 F5 M5 M05 e5 ((A.same.trans sAll).trans s5) R5 ((A.mr.trans mAll).trans m5),
      fun ρ5 σ5 F5 M5 M05 e5 s5 R5 m5 => ⟨hlt, ρ5, F5, M5, M05, rfl, sAll.trans s5, R5, mAll.trans m5, e5⟩,
      fun d v ρ5 σ5 F5 M5 M05 e5 s5 R5 m5 r5 => f.rt d v ρ5 σ5 F5 M5 M05 e5 ((A.same.trans sAll).trans s5) R5 ((A.mr.trans mAll).trans m5) r5⟩
  · have e : i = ds.length := by omega
    subst e
    rw [List.drop_length] at hw'
    exact .inl ⟨(it F' M' s R'.dj R'.env.nt _).2 rfl, f.nx ρ' σ' F' M' M0' hw' (A.same.trans s) R' (A.mr.trans mr)⟩
theorem sns_for {c : Cy} {wi : TI} {g : TG} {tb : TS} {w : WA} {wg : WG} {wb : WS} {is : List Nat} (hi : Sni c wi w) (hg : Sng c g wg is) (hb : Sns c tb wb) : Sns c (tFor wi g tb) (wFor w wg wb) := fun {b ρ σ F M M0} R E Dn hw f => sns_for_at R (hi R) hg hb E Dn hw f
section
variable {X : Cx} {pos : Pos} {tg iter : Expr} {body : List Stmt} {wi : TI} {w : WA} {g : TG} {wg : WG} {tb : TS} {wb : WS}
theorem ds_for (hp : PassesOwn (model X.prog X.w) X.A X.env X.xe) (hc : X.calm = true) {is : List Nat} (hi : DI X tg iter wi w) (hg : DG X tg g wg is) (hb : DSs X body tb wb)
    (hs : ∀ x, foldedSetIterable iter X.env x = pure x := by intro _; rfl) : DS X (.For tg iter body [] pos) (tFor wi g tb) (wFor w wg wb) := ⟨ps_for hp hc hi.pi hg.pg hb.ps hs, sns_for hi.sn hg.sn hb.sn⟩
/-- over a frozen list -/
def wItL (w : WE) : WA := fun ρ Q => w ρ fun d ρ1 => match d with
  | .lst ds => Q ds ρ1
  | _ => False
theorem itl_ok {c : Cy} {F : Hp} {a : Addr} {vs : List V} {ds : List D} (h : F a = some (.lst vs)) (r : DrL c F vs ds) : ItOk c (Itl c.K a) F ds := fun F' M' s dj _ i => by
  have q : SqL c.K (HH F' M') a vs := SqL.of (dj.f (s _ _ h))
  refine ⟨fun d hd => ?_, fun e => ⟨vs, q, by rw [r.length]; omega⟩⟩
  obtain ⟨v, hv, rv⟩ := r.get hd
  refine ⟨⟨vs, v, q, hv⟩, fun x H3 hy => ?_⟩
  obtain ⟨rfl, hy⟩ := hy
  have e : x = v := Option.some.inj ((hy vs q).symm.trans hv)
  subst e
  exact ⟨F', rfl, Same.refl _, dj, rv.up s⟩
theorem di_list {e : Expr} {te : TE} {w : WE} (h : DE X e te w) : DI X tg e (iList X.K te) (wItL w) := ⟨pi_list h.pe, fun {b ρ σ F M M0} R Qd Q hw k => by
  refine h.sn R _ _ hw fun d ρ1 v F1 M1 M01 q A r => ?_
  cases d with
  | lst ds =>
    simp only [Dr] at r
    obtain ⟨a, vs, rfl, ha, rl⟩ := r
    exact ⟨a, rfl, ⟨vs, SqL.of (A.rel.dj.f ha)⟩, k ds ρ1 _ F1 M1 M01 q A (itl_ok (c := cy X) ha rl)⟩
  | _ => exact q.elim⟩
/-- over a tuple -/
def wItT (w : WE) : WA := fun ρ Q => w ρ fun d ρ1 => match d with
  | .tup ds => Q ds ρ1
  | _ => False
theorem itt_ok {c : Cy} {F : Hp} {a : Addr} {vs : List V} {ds : List D} (h : F a = some (.tup vs)) (r : DrL c F vs ds) : ItOk c (Itt c.K a) F ds := fun F' M' s dj _ i => by
  have q : SqT c.K (HH F' M') a vs := SqT.of (dj.f (s _ _ h))
  refine ⟨fun d hd => ?_, fun e => ⟨vs, q, by rw [r.length]; omega⟩⟩
  obtain ⟨v, hv, rv⟩ := r.get hd
  refine ⟨⟨vs, v, q, hv⟩, fun x H3 hy => ?_⟩
  obtain ⟨rfl, hy⟩ := hy
  have e : x = v := Option.some.inj ((hy vs q).symm.trans hv)
  subst e
  exact ⟨F', rfl, Same.refl _, dj, rv.up s⟩
theorem di_tup {e : Expr} {te : TE} {w : WE} (h : DE X e te w) : DI X tg e (iTup X.K te) (wItT w) := ⟨pi_tup h.pe, fun {b ρ σ F M M0} R Qd Q hw k => by
  refine h.sn R _ _ hw fun d ρ1 v F1 M1 M01 q A r => ?_
  cases d with
  | tup ds =>
    simp only [Dr] at r
    obtain ⟨a, vs, rfl, ha, rl⟩ := r
    exact ⟨a, rfl, ⟨vs, SqT.of (A.rel.dj.f ha)⟩, k ds ρ1 _ F1 M1 M01 q A (itt_ok (c := cy X) ha rl)⟩
  | _ => exact q.elim⟩
/-- over a range -/
def rangeD (lo hi : Int) : List D := (List.range (hi - lo).toNat).map fun i => D.int (lo + (i : Nat))
theorem itr_ok {c : Cy} {F : Hp} (lo : Int) (n : Nat) : ItOk c (Itr lo n) F ((List.range n).map fun i => D.int (lo + (i : Nat))) := fun F' M' s dj _ i => by
  refine ⟨fun d hd => ?_, fun e => ?_⟩
  · rw [List.getElem?_map] at hd
    have hi : i < n := by
      rcases Nat.lt_or_ge i n with z | z
      · exact z
      · rw [List.getElem?_eq_none (by simpa using z)] at hd; cases hd
    rw [List.getElem?_range hi] at hd
    have e : D.int (lo + (i : Nat)) = d := Option.some.inj hd
    subst e
    refine ⟨hi, fun x H3 hy => ?_⟩
    obtain ⟨rfl, rfl⟩ := hy
    exact ⟨F', rfl, Same.refl _, dj, by simp only [Dr]⟩
  · simp at e
    show n ≤ i
    omega
def wRg1 (wt : WA) : WA := fun ρ Q => wt ρ fun ds ρ1 => match ds with
  | [.int j] => (-(2 ^ 62) ≤ j ∧ j < 2 ^ 62) ∧ Q (rangeD 0 j) ρ1
  | _ => False
def wRg2 (wt : WA) : WA := fun ρ Q => wt ρ fun ds ρ1 => match ds with
  | [.int i, .int j] => (-(2 ^ 62) ≤ i ∧ i < 2 ^ 62 ∧ -(2 ^ 62) ≤ j ∧ j < 2 ^ 62) ∧ Q (rangeD i j) ρ1
  | _ => False
theorem di_range1 {a : Expr} {ta : TA} {wt : WA} {p pos : Pos} (hg : Gl X "range") (hm : X.mg "range" = none) (ha : DA X [a] ta wt) (hs : starEach [a] X.env = [(false, eval a X.env)] := by rfl) : DI X tg (.Call (.Name "range" p) [a] [] pos) (iRng1 ta) (wRg1 wt) :=
  ⟨pi_range1 hg hm ha.pe hs, fun {b ρ σ F M M0} R Qd Q hw k => by
    refine ha.sn R _ _ hw fun ds ρ1 vs F1 M1 M01 q A r => ?_
    match ds, q, r with
    | [.int j], ⟨⟨q1, q2⟩, q⟩, r =>
      obtain ⟨v, vr, rfl, r1, r2⟩ := r.cons_iff
      simp only [Dr] at r1
      have e2 := r2.nil_iff
      subst r1 e2
      refine ⟨j, rfl, q1, q2, k _ ρ1 _ F1 M1 M01 q A ?_⟩
      have h := itr_ok (c := cy X) (F := F1) 0 j.toNat
      unfold rangeD
      rw [Int.sub_zero]
      exact h⟩
theorem di_range2 {a a' : Expr} {ta : TA} {wt : WA} {p pos : Pos} (hg : Gl X "range") (hm : X.mg "range" = none) (ha : DA X [a, a'] ta wt) (hs : starEach [a, a'] X.env = [(false, eval a X.env), (false, eval a' X.env)] := by rfl) (hs2 : starEach [a'] X.env = [(false, eval a' X.env)] := by rfl) :
    DI X tg (.Call (.Name "range" p) [a, a'] [] pos) (iRng2 ta) (wRg2 wt) :=
  ⟨pi_range2 hg hm ha.pe hs hs2, fun {b ρ σ F M M0} R Qd Q hw k => by
    refine ha.sn R _ _ hw fun ds ρ1 vs F1 M1 M01 q A r => ?_
    match ds, q, r with
    | [.int i, .int j], ⟨q0, q⟩, r =>
      obtain ⟨v, vr, rfl, r1, r2⟩ := r.cons_iff
      obtain ⟨v', vr', rfl, r1', r2'⟩ := r2.cons_iff
      simp only [Dr] at r1 r1'
      have e2 := r2'.nil_iff
      subst r1 r1' e2
      exact ⟨i, j, rfl, q0, k _ ρ1 _ F1 M1 M01 q A (itr_ok (c := cy X) (F := F1) i (j - i).toNat)⟩⟩
/-- while: the invariant over the slots' data and a measure -/
def wWhile (wc : WT) (wb : WS) : WS := fun ρ E => ∃ W : Nat → List Sl → Prop, (∃ m, W m ρ) ∧ ∀ m ρ, W m ρ → wc ρ fun k ρ1 => match k with
  | true => wb ρ1 { E with nx := fun ρ2 => ∃ m', m' < m ∧ W m' ρ2, ct := fun ρ2 => ∃ m', m' < m ∧ W m' ρ2, bk := E.nx }
  | false => E.nx ρ1
theorem ds_while {c : Expr} {tc : TT} {wc : WT} (hp : PassesOwn (model X.prog X.w) X.A X.env X.xe) (hc : DT X c tc wc) (hb : DSs X body tb wb) : DS X (.While c body [] pos) (tWhile tc tb) (wWhile wc wb) := ⟨ps_while hp hc.pe hb.ps, fun {b ρ σ F M M0} R E Dn hw f => by
  obtain ⟨W, ⟨m0, w0⟩, turn⟩ := hw
  refine ⟨fun m σ' H' => ∃ ρ' F' M' M0', H' = HH F' M' ∧ Same F F' ∧ Rel (cy X) b ρ' σ' F' M' M0' ∧ MR b M0 M0' ∧ W m ρ', ⟨m0, ρ, F, M, M0, rfl, Same.refl _, R, MR.refl _ _, w0⟩, ?_⟩
  rintro m σ' H' ⟨ρ', F', M', M0', rfl, s, R', mr, wm⟩
  refine hc.sn R' _ _ (turn m ρ' wm) fun k ρ1 F1 M1 M01 q A => ?_
  cases k with
  | true =>
    rw [if_pos rfl]
    refine ⟨fun σ2 H2 => ∃ m', m' < m ∧ ∃ ρ' F' M' M0', H2 = HH F' M' ∧ Same F F' ∧ Rel (cy X) b ρ' σ2 F' M' M0' ∧ MR b M0 M0' ∧ W m' ρ', fun σ2 H2 ⟨m', l, h⟩ => ⟨m', l, h⟩, ?_⟩
    have sA := s.trans A.same
    have mA := mr.trans A.mr
    refine hb.sn A.rel _ { Dn with nx := _, ct := _, bk := Dn.nx } q ⟨fun ρ5 σ5 F5 M5 M05 ⟨m', l, e5⟩ s5 R5 m5 => ⟨m', l, ρ5, F5, M5, M05, rfl, sA.trans s5, R5, mA.trans m5, e5⟩,
      fun ρ5 σ5 F5 M5 M05 e5 s5 R5 m5 => f.nx ρ5 σ5 F5 M5 M05 e5 (sA.trans s5) R5 (mA.trans m5),
      fun ρ5 σ5 F5 M5 M05 ⟨m', l, e5⟩ s5 R5 m5 => ⟨m', l, ρ5, F5, M5, M05, rfl, sA.trans s5, R5, mA.trans m5, e5⟩,
      fun d v ρ5 σ5 F5 M5 M05 e5 s5 R5 m5 r5 => f.rt d v ρ5 σ5 F5 M5 M05 e5 (sA.trans s5) R5 (mA.trans m5) r5⟩
  | false =>
    rw [if_neg Bool.false_ne_true]
    exact f.nx ρ1 σ' F1 M1 M01 q (s.trans A.same) A.rel (mr.trans A.mr)⟩
end
end DL

/-! Comprehensions, defs, calls, instances. -/
namespace DL
open PySem PySem.Spec PyProof.Rows L2
variable [Lk]

/-! ### blocks of comprehensions -/
def wipeD (ρ : List Sl) : List Nat → List Sl
  | [] => ρ
  | v :: vs => (wipeD ρ vs).set v .no
def noOwnB (ρ : List Sl) (vs : List Nat) : Bool := vs.all fun i => match ρ[i]? with
  | some (.ol _) => false
  | some (.ok _ _) => false
  | some (.ot _ _) => false
  | some (.oi _ _ _) => false
  | some (.od _ _) => false
  | _ => true
theorem noOwn_of {ρ : List Sl} {vs : List Nat} (h : noOwnB ρ vs = true) : ∀ i ∈ vs, ∀ sl, ρ[i]? = some sl → ¬ isOwn sl := fun i hi sl e ho => by
  have q := List.all_eq_true.mp h i hi
  rw [e] at q
  cases sl <;> first | exact ho.elim | cases q
section
variable {c : Cy} {b : Option Addr} {F M M0 : Hp}
theorem wipeD_get {ρ : List Sl} {i : Nat} {sl : Sl} : ∀ {vs : List Nat}, (wipeD ρ vs)[i]? = some sl → sl = .no ∨ ρ[i]? = some sl
  | [], h => .inr h
  | v :: vs, h => by
    unfold wipeD at h
    by_cases e : v = i
    · subst e
      by_cases hl : v < (wipeD ρ vs).length
      · rw [List.getElem?_set_self hl] at h; exact .inl (Option.some.inj h).symm
      · rw [List.getElem?_eq_none (by simpa using hl)] at h; cases h
    · rw [List.getElem?_set_ne e] at h; exact wipeD_get h
theorem RelE.wipe {ρ : List Sl} {σ : L2.St} {M : Hp} (h : RelE c b F M0 ρ σ M) : ∀ {vs : List Nat}, (∀ i ∈ vs, ∀ sl, ρ[i]? = some sl → ¬ isOwn sl) → RelE c b F M0 (wipeD ρ vs) (wipe σ vs) M
  | [], _ => h
  | v :: vs, n => by
    have ih := RelE.wipe h (vs := vs) fun i hi => n i (List.mem_cons_of_mem _ hi)
    unfold wipeD L2.wipe
    cases e : (wipeD ρ vs)[v]? with
    | none =>
      have l1 := List.getElem?_eq_none_iff.mp e
      rw [List.set_eq_of_length_le l1, List.set_eq_of_length_le (by rw [ih.length]; exact l1)]
      exact ih
    | some sl =>
      refine ih.forget e ?_
      rcases wipeD_get e with z | z
      · rw [z]; exact fun q => q
      · exact n v List.mem_cons_self sl z
theorem RelE.unwipe : ∀ {vs : List Nat} {ρ : List Sl} {σ : L2.St} {M : Hp}, RelE c b F M0 ρ (L2.wipe σ vs) M → (∀ i ∈ vs, ∀ sl, ρ[i]? = some sl → ¬ isOwn sl) → ∃ ρ', ρ' = wipeD ρ vs.reverse ∧ RelE c b F M0 ρ' σ M
  | [], ρ, σ, M, h, _ => ⟨ρ, rfl, h⟩
  | v :: vs, ρ, σ, M, h, n => by
    unfold L2.wipe at h
    have h2 : RelE c b F M0 (ρ.set v .no) (L2.wipe σ vs) M := by
      cases e : ρ[v]? with
      | none =>
        have l1 := List.getElem?_eq_none_iff.mp e
        have l2 := h.length
        rw [List.length_set] at l2
        rw [List.set_eq_of_length_le l1]
        rw [List.set_eq_of_length_le (by omega)] at h
        exact h
      | some sl =>
        have t := h.forget (x := (L2.wipe σ vs)[v]?.getD none) e (n v List.mem_cons_self sl e)
        rw [List.set_set] at t
        have es : (L2.wipe σ vs).set v ((L2.wipe σ vs)[v]?.getD none) = L2.wipe σ vs := by
          cases q : (L2.wipe σ vs)[v]? with
          | none => exact List.set_eq_of_length_le (List.getElem?_eq_none_iff.mp q)
          | some x =>
            obtain ⟨hi, ei⟩ := List.getElem?_eq_some_iff.mp q
            show (L2.wipe σ vs).set v x = _
            rw [← ei]; exact List.set_getElem_self hi
        rw [es] at t
        exact t
    obtain ⟨ρ', e, t⟩ := RelE.unwipe h2 fun i hi sl q => by
      by_cases z : v = i
      · subst z
        by_cases hl : v < ρ.length
        · rw [List.getElem?_set_self hl] at q
          rw [← Option.some.inj q]; exact fun w => w
        · rw [List.getElem?_eq_none (by simpa using hl)] at q; cases q
      · rw [List.getElem?_set_ne z] at q
        exact n i (List.mem_cons_of_mem _ hi) sl q
    refine ⟨ρ', ?_, t⟩
    rw [e, List.reverse_cons]
    have ap : ∀ (us : List Nat) (τ : List Sl), wipeD (τ.set v .no) us = wipeD τ (us ++ [v]) := fun us τ => by
      induction us with
      | nil => rfl
      | cons u us ih => show (wipeD (τ.set v .no) us).set u .no = (wipeD τ (us ++ [v])).set u .no; rw [ih]
    exact ap _ _
def del (H : Hp) (x : Addr) : Hp := fun a => if a = x then none else H a
theorem del_same {H : Hp} {x : Addr} : del H x x = none := if_pos rfl
theorem del_ne {H : Hp} {x a : Addr} (h : a ≠ x) : del H x a = H a := if_neg h
theorem upd_del {H : Hp} {x : Addr} {o : HO} : upd (del H x) x o = upd H x o := by
  funext a
  by_cases e : a = x
  · subst e; rw [upd_same, upd_same]
  · rw [upd_ne e, upd_ne e, del_ne e]
theorem upd_self {H : Hp} {x : Addr} {o : HO} (h : H x = some o) : upd H x o = H := by
  funext a
  by_cases e : a = x
  · subst e; rw [upd_same, h]
  · rw [upd_ne e]
/-- a thing of the frame is taken away -/
theorem RelE.unframe {x : Addr} {u : HO} (hx : M0 x = some u) : ∀ {ρ : List Sl} {σ : L2.St} {M : Hp}, RelE c b F M0 ρ σ M → RelE c b F (del M0 x) ρ σ (del M x)
  | [], σ, M, h => ⟨h.1, by rw [h.2.1], fun a xs q => by
    by_cases z : a = x
    · rw [z, del_same] at q; cases q
    · rw [del_ne z] at q; exact h.2.2 a xs q⟩
  | s1 :: ρ, σ, M, h => by
    obtain ⟨v, σr, e, h⟩ := h
    refine ⟨v, σr, e, ?_⟩
    have own : ∀ sl : Sl, (∃ a o M', v = some (.ref a) ∧ ObR c F sl o ∧ F a = none ∧ M' a = none ∧ M = upd M' a o ∧ RelE c b F M0 ρ σr M') →
        ∃ a o M', v = some (.ref a) ∧ ObR c F sl o ∧ F a = none ∧ M' a = none ∧ del M x = upd M' a o ∧ RelE c b F (del M0 x) ρ σr M' := fun sl h => by
      obtain ⟨a, o, M', e1, r, f, m, e2, t⟩ := h
      have ne : a ≠ x := fun z => by
        subst z
        have := t.sub _ _ hx
        rw [m] at this; cases this
      refine ⟨a, o, del M' x, e1, r, f, by rw [del_ne ne]; exact m, ?_, RelE.unframe hx t⟩
      rw [e2]
      funext y
      by_cases ey : y = x
      · subst ey; rw [del_same, upd_ne ne.symm, del_same]
      · rw [del_ne ey]
        by_cases ea : y = a
        · subst ea; rw [upd_same, upd_same]
        · rw [upd_ne ea, upd_ne ea, del_ne ey]
    cases s1 with
    | no => exact RelE.unframe hx h
    | sh d => exact ⟨h.1, RelE.unframe hx h.2⟩
    | bx => exact ⟨h.1, RelE.unframe hx h.2⟩
    | ol ds => exact own (.ol ds) h
    | ok ks ds => exact own (.ok ks ds) h
    | ot ks ds => exact own (.ot ks ds) h
    | oi n fs ds => exact own (.oi n fs ds) h
    | od y t0 =>
      obtain ⟨Mo, M', e1, r, d, e2, t⟩ := h
      have mx : Mo x = none := d.mn (t.sub _ _ hx)
      refine ⟨Mo, del M' x, e1, r, fun a o q => ?_, ?_, RelE.unframe hx t⟩
      · by_cases z : a = x
        · rw [z]; exact del_same
        · rw [del_ne z]; exact d a o q
      · rw [e2]
        funext a
        by_cases z : a = x
        · rw [z, del_same, hh_n mx, del_same]
        · rw [del_ne z]
          cases q : Mo a with
          | some o => rw [hh_m q, hh_m q]
          | none => rw [hh_n q, hh_n q, del_ne z]
/-- a new thing p lies in the frame for a while -/
theorem Rel.lay {ρ : List Sl} {σ : L2.St} {p : Addr} {o : HO} (R : Rel c b ρ σ F M M0) (f : F p = none) (m : M p = none) (hu : ∀ xs, o ≠ .tup xs := by intro xs z; cases z) : Rel c b ρ σ F (upd M p o) (upd M0 p o) := by
  have m0 : M0 p = none := by
    cases q : M0 p with
    | none => rfl
    | some u => rw [R.env.sub _ _ q] at m; cases m
  refine ⟨R.dj.updM f, RelE.frame hu R.env (.inl m), fun a q => ?_, Lk.lay R.lk m0⟩
  obtain ⟨da, ns, n, h1, h2, h3⟩ := R.box a q
  exact ⟨da, ns, n, by rw [upd_ne (ne_of_none h1 m0)]; exact h1, h2, h3⟩
theorem Rel.unlay {ρ : List Sl} {σ : L2.St} {p : Addr} {o : HO} (R : Rel c b ρ σ F M M0) (h : M0 p = some o) (nb : b ≠ some p) (hlk : Lk.lk b F (del M0 p)) : Rel c b ρ σ F (del M p) (del M0 p) := by
  refine ⟨fun a u q => R.dj a u ?_, R.env.unframe h, fun a q => ?_, hlk⟩
  · by_cases e : a = p
    · subst e; rw [del_same] at q; cases q
    · rw [del_ne e] at q; exact q
  · obtain ⟨da, ns, n, h1, h2, h3⟩ := R.box a q
    have e : a ≠ p := fun e => nb (by rw [← e]; exact q)
    exact ⟨da, ns, n, by rw [del_ne e]; exact h1, h2, h3⟩
end

theorem wipe_idem (τ : L2.St) : ∀ us : List Nat, L2.wipe (L2.wipe τ us) us = L2.wipe τ us
  | [] => rfl
  | u :: us => by
    show (L2.wipe ((L2.wipe τ us).set u none) us).set u none = (L2.wipe τ us).set u none
    by_cases hu : u ∈ us
    · rw [wipe_in hu, wipe_idem τ us]
    · rw [wipe_out hu, wipe_idem τ us, List.set_set]
def wLcL (vs : List Nat) (wg : WG) (wt : WT) (we : WE) : List D → List Sl → List D → (List D → List Sl → Prop) → Prop
  | [], ρ, acc, Q => Q acc ρ
  | d :: ds, ρ, acc, Q => wg d ρ fun ρ1 => wt ρ1 fun k ρ2 => match k with
    | true => we ρ2 fun y ρ3 => noOwnB ρ3 vs = true ∧ wLcL vs wg wt we ds (wipeD ρ3 vs) (acc ++ [y]) Q
    | false => noOwnB ρ2 vs = true ∧ wLcL vs wg wt we ds (wipeD ρ2 vs) acc Q
def wLc (vs : List Nat) (wi : WA) (wg : WG) (wt : WT) (we : WE) : List Sl → (Sl → List Sl → Prop) → Prop := fun ρ Q => wi ρ fun ds ρ1 => ds.length ≤ sizeLine ∧ noOwnB ρ1 vs = true ∧
  wLcL vs wg wt we ds (wipeD ρ1 vs) [] fun acc ρ2 => noOwnB ρ2 vs = true ∧ Q (.ol acc) (wipeD ρ2 vs.reverse)
def wYes : WT := fun ρ Q => Q true ρ
theorem snt_yes {c : Cy} : Snt c tYes wYes := fun {b ρ σ F M M0} R Qd Q hw k => k true ρ F M M0 hw R.aft
theorem snf_lc_at {c : Cy} {vs : List Nat} {wi : TI} {g : TG} {tt : TT} {te : TE} {w : WA} {wg : WG} {wt : WT} {we : WE} {is : List Nat} (his : ∀ i ∈ is, i ∈ vs) {b : Option Addr} {ρ : List Sl} {σ : L2.St} {F M M0 : Hp} (R : Rel c b ρ σ F M M0) (hi : SniAt c wi w b ρ σ F M M0) (hg : Sng c g wg is) (ht : Snt c tt wt) (he : Snd c te we)
    (Qd : Sl → List Sl → Prop) (Q : VK) (hw : wLc vs w wg wt we ρ Qd) (k : ∀ sl ρ' a o F' M' M0', Qd sl ρ' → Aft c b F M M0 ρ' σ F' M' M0' → isShal sl → ObR c F' sl o → F' a = none → M' a = none → Q (.ref a) (HH F' (upd M' a o))) : tLc wi g tt te vs σ (HH F M) Q := by
  refine hi _ _ hw fun ds ρ1 J F1 M1 M01 q A it => ?_
  obtain ⟨hlen, hno, q⟩ := q
  intro p hp
  obtain ⟨hpf, hpm⟩ := hh_none hp
  have nbp : b ≠ some p := fun e => by
    obtain ⟨_, _, _, h1, _⟩ := A.rel.box p e
    rw [A.rel.env.sub _ _ h1] at hpm; cases hpm
  refine ⟨fun i m H' => m = ds.length - i ∧ i ≤ ds.length ∧ ∃ (ρ' : List Sl) (F' M' M0' : Hp) (acc : List D) (us : List V), H' = HH F' (upd M' p (.lst us)) ∧ F' p = none ∧ M' p = none ∧ Same F1 F' ∧ Ext b (HH F1 M1) (HH F' M') ∧
      Rel c b ρ' (L2.wipe σ vs) F' M' M0' ∧ MR b M01 M0' ∧ DrL c F' us acc ∧ acc.length ≤ i ∧ wLcL vs wg wt we (ds.drop i) ρ' acc fun acc ρ2 => noOwnB ρ2 vs = true ∧ Qd (.ol acc) (wipeD ρ2 vs.reverse), ⟨ds.length, by simp, Nat.zero_le _, wipeD ρ1 vs, F1, M1, M01, [], [], hh_updM, hpf, hpm, Same.refl _, Ext.refl _ _,
      ⟨A.rel.dj, A.rel.env.wipe (noOwn_of hno), A.rel.box, A.rel.lk⟩, MR.refl _ _, .nil, Nat.zero_le _, q⟩, ?_⟩
  rintro i m H' ⟨rfl, hil, ρ', F', M', M0', acc, us, rfl, fp, mp, s, x, R', mr, dr, hal, hw'⟩
  by_cases hlt : i < ds.length
  · have ed : ds.drop i = ds[i] :: ds.drop (i + 1) := List.drop_eq_getElem_cons hlt
    rw [ed] at hw'
    have hd : ds[i]? = some ds[i] := List.getElem?_eq_getElem hlt
    have L := R'.lay (o := .lst us) fp mp
    refine .inr ⟨((it F' _ s L.dj L.env.nt i).1 _ hd).1, fun H2 => i + 1 ≤ ds.length ∧ ∃ (ρ' : List Sl) (F' M' M0' : Hp) (acc : List D) (us : List V), H2 = HH F' (upd M' p (.lst us)) ∧ F' p = none ∧ M' p = none ∧ Same F1 F' ∧ Ext b (HH F1 M1) (HH F' M') ∧
      Rel c b ρ' (L2.wipe σ vs) F' M' M0' ∧ MR b M01 M0' ∧ DrL c F' us acc ∧ acc.length ≤ i + 1 ∧ wLcL vs wg wt we (ds.drop (i + 1)) ρ' acc fun acc ρ2 => noOwnB ρ2 vs = true ∧ Qd (.ol acc) (wipeD ρ2 vs.reverse), fun H2 n2 => ⟨ds.length - (i + 1), by omega, rfl, n2.1, n2.2⟩, fun y H3 hy => ?_⟩
    obtain ⟨F3, rfl, s3, dj3, r3⟩ := ((it F' _ s L.dj L.env.nt i).1 _ hd).2 y H3 hy
    have A3 := L.grow s3 dj3
    -- what is to be shown of any later state
    have back : ∀ {F4 M4 M04 : Hp} {ρ4 : List Sl}, Same F' F4 → Ext b (HH F' (upd M' p (.lst us))) (HH F4 M4) → Rel c b ρ4 (L2.wipe σ vs) F4 M4 M04 → MR b (upd M0' p (.lst us)) M04 →
        M4 p = some (.lst us) ∧ F4 p = none ∧ Same F1 F4 ∧ Ext b (HH F1 M1) (HH F4 (del M4 p)) ∧ Rel c b ρ4 (L2.wipe σ vs) F4 (del M4 p) (del M04 p) ∧ MR b M01 (del M04 p) := fun {F4 M4 M04 ρ4} s4 x4 R4 m4 => by
      have e0 : M04 p = some (.lst us) := by rw [m4 p nbp, upd_same]
      have e1 := R4.env.sub _ _ e0
      have e2 := R4.dj _ _ e1
      have mr' : MR b M01 (del M04 p) := fun a na => by
        by_cases e : a = p
        · subst e
          rw [del_same]
          cases z : M01 a with
          | none => rfl
          | some u => rw [A.rel.env.sub _ _ z] at hpm; cases hpm
        · rw [del_ne e, m4 a na, upd_ne e, mr a na]
      refine ⟨e1, e2, s.trans s4, fun a o na qa => ?_, R4.unlay e0 nbp (A.rel.lkM (s.trans s4) mr'), mr'⟩
      have nap : a ≠ p := fun z => by rw [z, hp] at qa; cases qa
      have q1 : HH F' (upd M' p (.lst us)) a = some o := by rw [← hh_updM, upd_ne nap]; exact x a o na qa
      have q2 := x4 a o na q1
      rcases hh_some q2 with z | ⟨z1, z2⟩
      · exact hh_m (by rw [del_ne nap]; exact z)
      · rw [hh_n (by rw [del_ne nap]; exact z1)]; exact z2
    refine hg A3.rel r3 _ _ hw' fun ρ4 σ4 F4 M4 M04 q4 s4 x4 R4 m4 wz => ⟨(wz vs his).trans (wipe_idem σ vs), ?_⟩
    refine ht R4 _ _ q4 fun kk ρ5 F5 M5 M05 q5 A5 => ?_
    have sA := (s3.trans s4).trans A5.same
    have xA := (A3.ext.trans x4).trans A5.ext
    have mA := m4.trans A5.mr
    -- the slots of the block are forgotten
    have wr : ∀ {F6 M6 M06 : Hp} {ρ6 : List Sl}, Rel c b ρ6 σ4 F6 M6 M06 → noOwnB ρ6 vs = true → Rel c b (wipeD ρ6 vs) (L2.wipe σ vs) F6 M6 M06 := fun {F6 M6 M06 ρ6} R6 n6 => by
      have t := R6.env.wipe (noOwn_of n6)
      have e : L2.wipe σ4 vs = L2.wipe σ vs := by
        exact (wz vs his).trans (wipe_idem σ vs)
      rw [e] at t
      exact ⟨R6.dj, t, R6.box, R6.lk⟩
    cases kk with
    | true =>
      rw [if_pos rfl]
      refine he A5.rel _ _ q5 fun d ρ6 z F6 M6 M06 q6 A6 r6 => ?_
      obtain ⟨e1, e2, b3, b4, b5, b6⟩ := back (sA.trans A6.same) (xA.trans A6.ext) (wr A6.rel q6.1) (mA.trans A6.mr)
      refine ⟨us, hh_m e1, ?_, hlt, wipeD ρ6 vs, F6, del M6 p, del M06 p, acc ++ [d], us ++ [z], ?_, e2, del_same, b3, b4, b5, b6, (dr.up (sA.trans A6.same)).append (.cons r6 .nil), ?_, q6.2⟩
      · rw [dr.length]; omega
      · rw [hh_updM, upd_del]
      · rw [List.length_append, List.length_singleton]; omega
    | false =>
      rw [if_neg Bool.false_ne_true]
      obtain ⟨e1, e2, b3, b4, b5, b6⟩ := back sA xA (wr A5.rel q5.1) mA
      refine ⟨hlt, wipeD ρ5 vs, F5, del M5 p, del M05 p, acc, us, ?_, e2, del_same, b3, b4, b5, b6, dr.up sA, by omega, q5.2⟩
      rw [upd_del, upd_self e1]
  · have e : i = ds.length := by omega
    subst e
    rw [List.drop_length] at hw'
    refine .inl ⟨(it F' _ s (R'.dj.updM fp) (R'.lay (o := .lst us) fp mp).env.nt _).2 rfl, ?_⟩
    obtain ⟨hn2, hq⟩ := hw'
    obtain ⟨ρ2, e2, t2⟩ := R'.env.unwipe (noOwn_of hn2)
    subst e2
    exact k _ _ p _ F' M' M0' hq ⟨A.same.trans s, A.ext.trans x, ⟨R'.dj, t2, R'.box, R'.lk⟩, A.mr.trans mr⟩ trivial ⟨us, rfl, dr⟩ fp mp
theorem snf_lc {c : Cy} {vs : List Nat} {wi : TI} {g : TG} {tt : TT} {te : TE} {w : WA} {wg : WG} {wt : WT} {we : WE} {is : List Nat} (his : ∀ i ∈ is, i ∈ vs) (hi : Sni c wi w) (hg : Sng c g wg is) (ht : Snt c tt wt) (he : Snd c te we) : Snf c (tLc wi g tt te vs) (wLc vs w wg wt we) := fun {b ρ σ F M M0} R Qd Q hw k => snf_lc_at his R (hi R) hg ht he Qd Q hw k
structure DTs (X : Cx) (ifs : List Expr) (t : TT) (w : WT) : Prop where
  pe : PTs X ifs t
  sn : Snt (cy X) t w
section
variable {X : Cx}
theorem dts_nil : DTs X [] tYes wYes := ⟨pts_nil, snt_yes⟩
theorem dts_one {e : Expr} {t : TT} {w : WT} (h : DT X e t w) : DTs X [e] t w := ⟨pts_one h.pe, h.sn⟩
theorem df_lc {elt tg iter : Expr} {ifs : List Expr} {scope : Scope} {own : List (Str × Nat)} {pos : Pos} {wi : TI} {g : TG} {tt : TT} {te : TE} {w : WA} {wg : WG} {wt : WT} {we : WE} {is : List Nat} (hc : X.calm = true) (hN : X.N.Nodup) (hi : DI X tg iter wi w) (ok : BlkOk X.N X.env.scope scope own)
    (hg0 : DG (X.blk {} (fun _ => none) scope (compEnvC scope [] 0 X.env) []) tg g wg is) (ht0 : DTs (X.blk {} (fun _ => none) scope (compEnvC scope [] 0 X.env) []) ifs tt wt) (he0 : DE (X.blk {} (fun _ => none) scope (compEnvC scope [] 0 X.env) []) elt te we)
    (hg : ∀ (s : Shared) (H : Hp) (C : Addr) (cl : List (Str × Addr)) (fp : List Addr), DG (X.blk s H scope (compEnvC scope cl C X.env) fp) tg g wg is) (ht : ∀ (s : Shared) (H : Hp) (C : Addr) (cl : List (Str × Addr)) (fp : List Addr), DTs (X.blk s H scope (compEnvC scope cl C X.env) fp) ifs tt wt)
    (he : ∀ (s : Shared) (H : Hp) (C : Addr) (cl : List (Str × Addr)) (fp : List Addr), DE (X.blk s H scope (compEnvC scope cl C X.env) fp) elt te we) (his : ∀ i ∈ is, i ∈ own.map (·.2) := by decide) (hs : ∀ x, foldedSetIterable iter X.env x = pure x := by intro _; rfl) :
    DF X (.ListComp elt [⟨tg, iter, ifs, 0⟩] scope pos) (tLc wi g tt te (own.map (·.2))) (wLc (own.map (·.2)) w wg wt we) :=
  ⟨pe_lc hc hN hi.pi ok (fun s H C cl fp => (hg s H C cl fp).pg) (fun s H C cl fp => (ht s H C cl fp).pe) (fun s H C cl fp => (he s H C cl fp).pe) hs,
    snf_lc (c := cy X) his hi.sn hg0.sn ht0.sn he0.sn⟩
/-- name = [..], a local: the new list stays own, or is shared -/
theorem ds_setLcO {i : Nat} {y : Str} {py : Pos} {elt tg iter : Expr} {ifs : List Expr} {scope : Scope} {own : List (Str × Nat)} {pos spos : Pos} {wi : TI} {g : TG} {tt : TT} {te : TE} {w : WA} {wg : WG} {wt : WT} {we : WE} {is : List Nat} (hc : X.calm = true) (hN : X.N.Nodup) (hy : X.N[i]? = some y) (hyl : X.env.scope.names.lookup y = some .local)
    (hsw : swapsWith (.ListComp elt [⟨tg, iter, ifs, 0⟩] scope pos) (some (.Name y py)) spos.line X.env = pure true) (hi : DI X tg iter wi w) (ok : BlkOk X.N X.env.scope scope own)
    (hg0 : DG (X.blk {} (fun _ => none) scope (compEnvC scope [] 0 X.env) []) tg g wg is) (ht0 : DTs (X.blk {} (fun _ => none) scope (compEnvC scope [] 0 X.env) []) ifs tt wt) (he0 : DE (X.blk {} (fun _ => none) scope (compEnvC scope [] 0 X.env) []) elt te we)
    (hg : ∀ (s : Shared) (H : Hp) (C : Addr) (cl : List (Str × Addr)) (fp : List Addr), DG (X.blk s H scope (compEnvC scope cl C X.env) fp) tg g wg is) (ht : ∀ (s : Shared) (H : Hp) (C : Addr) (cl : List (Str × Addr)) (fp : List Addr), DTs (X.blk s H scope (compEnvC scope cl C X.env) fp) ifs tt wt)
    (he : ∀ (s : Shared) (H : Hp) (C : Addr) (cl : List (Str × Addr)) (fp : List Addr), DE (X.blk s H scope (compEnvC scope cl C X.env) fp) elt te we) (his : ∀ i ∈ is, i ∈ own.map (·.2) := by decide) (hs : ∀ x, foldedSetIterable iter X.env x = pure x := by intro _; rfl) :
    DS X (.Assign [.Name y py] (.ListComp elt [⟨tg, iter, ifs, 0⟩] scope pos) spos) (tAsg (tLc wi g tt te (own.map (·.2))) (gName i)) (wAsgO (wLc (own.map (·.2)) w wg wt we) i) :=
  ⟨ps_setLc hc hN hy hyl hsw hi.pi ok (fun s H C cl fp => (hg s H C cl fp).pg) (fun s H C cl fp => (ht s H C cl fp).pe) (fun s H C cl fp => (he s H C cl fp).pe) hs,
    sns_asgO (snf_lc (c := cy X) his hi.sn hg0.sn ht0.sn he0.sn)⟩
theorem ds_setLc {i : Nat} {y : Str} {py : Pos} {elt tg iter : Expr} {ifs : List Expr} {scope : Scope} {own : List (Str × Nat)} {pos spos : Pos} {wi : TI} {g : TG} {tt : TT} {te : TE} {w : WA} {wg : WG} {wt : WT} {we : WE} {is : List Nat} (hc : X.calm = true) (hN : X.N.Nodup) (hy : X.N[i]? = some y) (hyl : X.env.scope.names.lookup y = some .local)
    (hsw : swapsWith (.ListComp elt [⟨tg, iter, ifs, 0⟩] scope pos) (some (.Name y py)) spos.line X.env = pure true) (hi : DI X tg iter wi w) (ok : BlkOk X.N X.env.scope scope own)
    (hg0 : DG (X.blk {} (fun _ => none) scope (compEnvC scope [] 0 X.env) []) tg g wg is) (ht0 : DTs (X.blk {} (fun _ => none) scope (compEnvC scope [] 0 X.env) []) ifs tt wt) (he0 : DE (X.blk {} (fun _ => none) scope (compEnvC scope [] 0 X.env) []) elt te we)
    (hg : ∀ (s : Shared) (H : Hp) (C : Addr) (cl : List (Str × Addr)) (fp : List Addr), DG (X.blk s H scope (compEnvC scope cl C X.env) fp) tg g wg is) (ht : ∀ (s : Shared) (H : Hp) (C : Addr) (cl : List (Str × Addr)) (fp : List Addr), DTs (X.blk s H scope (compEnvC scope cl C X.env) fp) ifs tt wt)
    (he : ∀ (s : Shared) (H : Hp) (C : Addr) (cl : List (Str × Addr)) (fp : List Addr), DE (X.blk s H scope (compEnvC scope cl C X.env) fp) elt te we) (his : ∀ i ∈ is, i ∈ own.map (·.2) := by decide) (hs : ∀ x, foldedSetIterable iter X.env x = pure x := by intro _; rfl) :
    DS X (.Assign [.Name y py] (.ListComp elt [⟨tg, iter, ifs, 0⟩] scope pos) spos) (tAsg (tLc wi g tt te (own.map (·.2))) (gName i)) (wAsg (wFz (wLc (own.map (·.2)) w wg wt we)) (wSt i)) :=
  ⟨ps_setLc hc hN hy hyl hsw hi.pi ok (fun s H C cl fp => (hg s H C cl fp).pg) (fun s H C cl fp => (ht s H C cl fp).pe) (fun s H C cl fp => (he s H C cl fp).pe) hs,
    sns_asg (df_lc (pos := pos) hc hN hi ok hg0 ht0 he0 hg ht he his hs).de.sn (sng_name i)⟩
end

/-! ### defs -/
def ArgsD (c : Cy) (b : Option Addr) (F : Hp) : List Sl → List V → Prop
  | [], vs => vs = []
  | s :: r, vs => ∃ v vr, vs = v :: vr ∧ (match s with
    | .sh d => Dr c F v d
    | .bx => ∃ a, b = some a ∧ v = .ref a
    | _ => False) ∧ ArgsD c b F r vr
/-- a def's promise, of data alone -/
abbrev WFn := List Sl → (D → Prop) → Prop
def spF (c : Cy) (wf : WFn) : Sp := fun vs H Q _ => ∃ (b : Option Addr) (F M : Hp) (as : List Sl) (Qd : D → Prop), H = HH F M ∧ Dj F M ∧ ((∀ a, b = some a → Box F M a) ∧ NT M) ∧ ArgsD c b F as vs ∧ wf as Qd ∧
  ∀ d v F' M', Qd d → Same F F' → Dj F' M' → (∀ a, b = some a → Box F' M' a) → MR b M M' → Dr c F' v d → Q v (HH F' M')
def startD (N : List Str) (as : List Sl) : List Sl := as ++ List.replicate (N.length - as.length) .no
section
variable {c : Cy} {b : Option Addr} {F M M0 : Hp}
theorem ArgsD.length : ∀ {as : List Sl} {vs : List V}, ArgsD c b F as vs → vs.length = as.length
  | [], vs, h => by rw [show vs = [] from h]; rfl
  | s :: r, vs, h => by
    obtain ⟨v, vr, rfl, _, t⟩ := h
    rw [List.length_cons, List.length_cons, ArgsD.length t]
theorem rel_nos (nt : NT M) : ∀ (n : Nat), RelE c b F M (List.replicate n .no) (List.replicate n none) M
  | 0 => ⟨rfl, rfl, nt⟩
  | n + 1 => ⟨none, List.replicate n none, rfl, rel_nos nt n⟩
theorem ArgsD.rel {n : Nat} (nt : NT M) : ∀ {as : List Sl} {vs : List V}, ArgsD c b F as vs → RelE c b F M (as ++ List.replicate n .no) (vs.map some ++ List.replicate n none) M
  | [], vs, h => by rw [show vs = [] from h]; exact rel_nos nt n
  | s :: r, vs, h => by
    obtain ⟨v, vr, rfl, q, t⟩ := h
    refine ⟨some v, vr.map some ++ List.replicate n none, rfl, ?_⟩
    cases s with
    | sh d => exact ⟨⟨v, rfl, q⟩, ArgsD.rel nt t⟩
    | bx => obtain ⟨a, e1, e2⟩ := q; exact ⟨⟨a, e1, by rw [e2]⟩, ArgsD.rel nt t⟩
    | _ => exact q.elim
/-- behind a call -/
theorem Rel.after {ρ : List Sl} {σ : L2.St} {F' M' : Hp} (R : Rel c b ρ σ F M M0) (s : Same F F') (dj : Dj F' M') (bx : ∀ a, b = some a → Box F' M' a) (mr : MR b M M') : ∃ M0', Aft c b F M M0 ρ σ F' M' M0' := by
  have key : ∃ M0', RelE c b F M0' ρ σ M' ∧ MR b M0 M0' ∧ ∀ a, b = some a → M0' a = M' a := by
    cases b with
    | none =>
      have e : M' = M := funext fun a => mr a (fun z => nomatch z)
      rw [e]
      exact ⟨M0, R.env, MR.refl _ _, fun a z => nomatch z⟩
    | some a =>
      obtain ⟨da, ns, n, h1, h2, h3⟩ := bx a rfl
      obtain ⟨_, _, _, k1, _⟩ := R.box a rfl
      have e : M' = upd M a (.lst [.ref da, .int n]) := by
        funext x
        by_cases z : x = a
        · rw [z, upd_same, h1]
        · rw [upd_ne z]; exact mr x fun q => z (Option.some.inj q).symm
      refine ⟨upd M0 a (.lst [.ref da, .int n]), ?_, fun x q => upd_ne fun z => q (by rw [z]), fun x q => ?_⟩
      · rw [e]; exact RelE.frame (fun xs z => by cases z) R.env (.inr (by rw [k1]; rfl))
      · rw [← Option.some.inj q, upd_same, h1]
  obtain ⟨M0', t, m, ha⟩ := key
  refine ⟨M0', s, fun a o na q => ?_, ⟨dj, t.leD (.of s) (fun a o q _ => dj a o (t.sub _ _ q)) (fun a o q _ => dj a o q), fun a q => ?_, R.lkM s m⟩, m⟩
  · rcases hh_some q with z | ⟨z1, z2⟩
    · exact hh_m (by rw [mr a na]; exact z)
    · rw [hh_n (by rw [mr a na]; exact z1)]; exact s _ _ z2
  · obtain ⟨da, ns, n, h1, h2, h3⟩ := bx a q
    exact ⟨da, ns, n, by rw [ha a q]; exact h1, h2, h3⟩
end
abbrev WAs := List Sl → (List Sl → List Sl → Prop) → Prop
def Snas (c : Cy) (ta : TA) (w : WAs) : Prop := ∀ {b : Option Addr} {ρ : List Sl} {σ : L2.St} {F M M0 : Hp}, Rel c b ρ σ F M M0 → ∀ (Qd : List Sl → List Sl → Prop) (Q : List V → Hp → Prop), w ρ Qd →
  (∀ as ρ' vs F' M' M0', Qd as ρ' → Aft c b F M M0 ρ' σ F' M' M0' → ArgsD c b F' as vs → Q vs (HH F' M')) → ta σ (HH F M) Q
structure DAs (X : Cx) (es : List Expr) (ta : TA) (w : WAs) : Prop where
  pe : PA X es ta
  sn : Snas (cy X) ta w
theorem ArgsD.up {c : Cy} {b : Option Addr} {F G : Hp} (s : Same F G) : ∀ {as : List Sl} {vs : List V}, ArgsD c b F as vs → ArgsD c b G as vs
  | [], vs, h => h
  | x :: r, vs, h => by
    obtain ⟨v, vr, rfl, q, t⟩ := h
    refine ⟨v, vr, rfl, ?_, ArgsD.up s t⟩
    cases x with
    | sh d => exact Dr.up s q
    | bx => exact q
    | _ => exact q.elim
def asNil : WAs := fun ρ Q => Q [] ρ
def asCons (w : WE) (wr : WAs) : WAs := fun ρ Q => w ρ fun d ρ1 => wr ρ1 fun as ρ2 => Q (.sh d :: as) ρ2
def asBox (i : Nat) (wr : WAs) : WAs := fun ρ Q => ρ[i]? = some .bx ∧ wr ρ fun as ρ2 => Q (.bx :: as) ρ2
section
variable {X : Cx} {e : Expr} {es : List Expr} {te : TE} {t : TA} {w : WE} {wt : WAs} {pos : Pos}
theorem das_nil : DAs X [] tNil asNil := ⟨pa_nil, fun {b ρ σ F M M0} R Qd Q hw k => k [] ρ [] F M M0 hw R.aft rfl⟩
theorem das_cons (ha : DE X e te w) (hr : DAs X es t wt) (hs : starEach (e :: es) X.env = (false, eval e X.env) :: starEach es X.env := by rfl) : DAs X (e :: es) (tCons te t) (asCons w wt) :=
  ⟨pa_cons ha.pe hr.pe hs, fun {b ρ σ F M M0} R Qd Q hw k => by
    refine ha.sn R _ _ hw fun d ρ1 v F1 M1 M01 q1 A1 r1 => ?_
    exact hr.sn A1.rel _ _ q1 fun as ρ2 vs F2 M2 M02 q2 A2 r2 => k (.sh d :: as) ρ2 (v :: vs) F2 M2 M02 q2 (A1.trans A2) ⟨v, vs, rfl, r1.up A2.same, r2⟩⟩
theorem das_box (i : Nat) {x : Str} {pos : Pos} (hr : DAs X es t wt) (hN : X.N[i]? = some x := by rfl) (hv : Vis X.env.scope x := by first | exact Or.inl rfl | exact Or.inr (Or.inl rfl) | exact Or.inr (Or.inr rfl)) (hd : (x == ("__debug__" : Str)) = false := by decide)
    (hcd : (x == ("__classdict__" : Str)) = false := by decide) (hs : starEach (.Name x pos :: es) X.env = (false, eval (.Name x pos) X.env) :: starEach es X.env := by rfl) : DAs X (.Name x pos :: es) (tCons (tVar i) t) (asBox i wt) :=
  ⟨pa_cons (pe_var hN hv hd hcd) hr.pe hs, fun {b ρ σ F M M0} R Qd Q hw k => by
    obtain ⟨e, hw⟩ := hw
    obtain ⟨a, h1, h2⟩ := R.env.getB e
    refine ⟨.ref a, h2, ?_⟩
    exact hr.sn R _ _ hw fun as ρ2 vs F2 M2 M02 q2 A2 r2 => k (.bx :: as) ρ2 (.ref a :: vs) F2 M2 M02 q2 A2 ⟨.ref a, vs, rfl, ⟨a, h1, rfl⟩, r2⟩⟩
def wCall (wf : WFn) (wa : WAs) : WE := fun ρ Q => wa ρ fun as ρ1 => wf as fun d => Q d ρ1
theorem snd_call {c : Cy} {E : XK} {wf : WFn} (ha : Snas c t wt) : Snd c (tCall (spF c wf) [] E t) (wCall wf wt) := fun {b ρ σ F M M0} R Qd Q hw k => by
  refine ha R _ _ hw fun as ρ1 vs F1 M1 M01 q1 A1 r1 => ?_
  rw [List.append_nil]
  refine ⟨b, F1, M1, as, _, rfl, A1.rel.dj, ⟨fun a z => ?_, A1.rel.env.nt⟩, r1, q1, fun d v F' M' q s dj bx mr r => ?_⟩
  · obtain ⟨da, ns, n, h1, h2, h3⟩ := A1.rel.box a z
    exact ⟨da, ns, n, A1.rel.env.sub _ _ h1, h2, h3⟩
  · obtain ⟨M0', A2⟩ := A1.rel.after s dj bx mr
    exact k d ρ1 v F' M' M0' q (A1.trans A2) r
variable {CX : CXT} {k : Nat} {f : Addr} {fd : FuncData} {ps : List Str} {x : Str} {p : Pos}
theorem de_call {wf : WFn} (G : FnOk X.prog X.w X.K X.mg X.base CX0 k f fd ps (spF (cy X) wf)) (hr : Room k X.A) (hg : Gl X x) (hm : X.mg x = some (.ref f)) (hk : PySem.W.keepIn X.K (.ref f) = true) (hb : Binds X.K fd ps [])
    (ha : DAs X (e :: es) t wt) (hdb : (x == ("__debug__" : Str)) = false := by decide) (he : starEach (e :: es) X.env = (false, eval e X.env) :: starEach es X.env := by rfl) (hpl : (backTo pos (starEach es X.env)).any (·.1) = false := by rfl) :
    DE X (.Call (.Name x p) (e :: es) [] pos) (tCall (spF (cy X) wf) [] E0 t) (wCall wf wt) := ⟨pe_call G hr hg hm hk hb .nil pass0 ha.pe hdb he hpl, snd_call ha.sn⟩
end
section
variable {P : Program} {w : World} {K : PySem.W.Frag} {mg : Str → Option Value} {base : Heap}
/-- THE RULE: a def's promise of data by its body's term -/
theorem fun_okD {x qual : Str} {st : Stmt} {f : Addr} {fd : FuncData} {N ps : List Str} {k : Nat} {wf : WFn} (F : Fun K x qual st f fd) (S : FnScope N ps (defScope st)) (len : ∀ as Qd, wf as Qd → as.length = ps.length)
    (hbody : ∀ (cdv : Value) (A : Around) (outer : List Env) (s : Shared) (H : Hp) (E : XK), Room k (A.deeper (envOfC qual (defScope st) s.heap.objs.size f cdv)) →
      letI := Lk.top
      ∃ t ws, DSs (cxOf CX0 P w K mg base N qual (defScope st) f cdv A outer s H E).nox (defBody st) t ws ∧ ∀ as Qd, wf as Qd → ws (startD N as) { nx := fun _ => Qd .non, rt := fun d _ => Qd d }) :
    FnOk P w K mg base CX0 (k + 1) f fd ps (spF ⟨K, mg⟩ wf) := by
  refine F.ok S (fun vs H Q E h => ?_) (fun cdv A outer s H vs Q E hr h => ?_)
  · obtain ⟨b, F, M, as, Qd, _, _, _, ar, hw, _⟩ := h
    rw [ar.length, len as Qd hw]
  · letI := Lk.top
    obtain ⟨b, F, M, as, Qd, rfl, dj, bx, ar, hw, hq⟩ := h
    obtain ⟨t, ws, hd, hp⟩ := hbody cdv A outer s (HH F M) E hr
    refine ⟨t, hd.ps, ?_⟩
    have R : Rel ⟨K, mg⟩ b (startD N as) (L2.start N vs) F M M := by
      refine ⟨dj, ?_, bx.1, trivial⟩
      unfold startD L2.start
      rw [ar.length]
      exact ar.rel bx.2
    refine hd.sn R _ _ (hp as Qd hw) ⟨fun ρ' σ' F' M' M0' e s' R' m' => ?_, fun _ _ _ _ _ z => z.elim, fun _ _ _ _ _ z => z.elim, fun d v ρ' σ' F' M' M0' e s' R' m' r => ?_⟩
    rotate_left
    · obtain ⟨F2, s2, eh, dj2⟩ := R'.env.frzAll R'.dj
      rw [eh]
      exact hq d v F2 M0' e (s'.trans s2) dj2 (fun a z => (R'.box a z).leD (.of s2)) m' (r.up s2)
    obtain ⟨F2, s2, eh, dj2⟩ := R'.env.frzAll R'.dj
    show Q .non (HH F' M')
    rw [eh]
    exact hq .non .non F2 M0' e (s'.trans s2) dj2 (fun a z => (R'.box a z).leD (.of s2)) m' (by simp only [Dr])
end
end DL

/-! Operations on data. -/
namespace DL
open PySem PySem.Spec PyProof.Rows L2
variable [Lk]

/-! ### numbers, texts, lists -/
section
variable {c : Cy} {X : Cx}
theorem Dr.int_of {F : Hp} {v : V} {i : Int} (h : Dr c F v (.int i)) : v = .int i := by simpa only [Dr] using h
theorem Dr.str_of {F : Hp} {v : V} {i : Str} (h : Dr c F v (.str i)) : v = .str i := by simpa only [Dr] using h
theorem Dr.bl_of {F : Hp} {v : V} {i : Bool} (h : Dr c F v (.bl i)) : v = .bl i := by simpa only [Dr] using h
theorem Dr.non_of {F : Hp} {v : V} (h : Dr c F v .non) : v = .non := by simpa only [Dr] using h
theorem Dr.of_int {F : Hp} {i : Int} : Dr c F (.int i) (.int i) := by simp only [Dr]
theorem Dr.of_str {F : Hp} {i : Str} : Dr c F (.str i) (.str i) := by simp only [Dr]
theorem Dr.of_bl {F : Hp} {i : Bool} : Dr c F (.bl i) (.bl i) := by simp only [Dr]
theorem Dr.of_non {F : Hp} : Dr c F .non .non := by simp only [Dr]
theorem Rk.int_of {b : Option Addr} {F M : Hp} {v : V} {i : Int} (h : Rk c b F M v (.int i)) : v = .int i := Dr.int_of (c := c) (F := F) h
theorem Rk.str_of {b : Option Addr} {F M : Hp} {v : V} {i : Str} (h : Rk c b F M v (.str i)) : v = .str i := Dr.str_of (c := c) (F := F) h
theorem Rk.bl_of {b : Option Addr} {F M : Hp} {v : V} {i : Bool} (h : Rk c b F M v (.bl i)) : v = .bl i := Dr.bl_of (c := c) (F := F) h
theorem Rk.non_of {b : Option Addr} {F M : Hp} {v : V} (h : Rk c b F M v .non) : v = .non := Dr.non_of (c := c) (F := F) h
theorem Rk.tup_of {b : Option Addr} {F M : Hp} {v : V} {ds : List D} (h : Rk c b F M v (.tup ds)) : ∃ a vs, v = .ref a ∧ F a = some (.tup vs) ∧ DrL c F vs ds := by
  have h : Dr c F v (.tup ds) := h
  simpa only [Dr] using h
theorem Rk.scr_of {b : Option Addr} {F M : Hp} {v : V} {ds : List D} (h : Rk c b F M v (.scr ds)) : ∃ a vs, v = .ref a ∧ SqL c.K F a vs ∧ DrL c F vs ds := by
  have h : Dr c F v (.scr ds) := h
  simpa only [Dr] using h

def dI2 (g : Int → Int → D) : D → D → (D → Prop) → Prop
  | .int i, .int j, Q => Q (g i j)
  | _, _, _ => False
def qr (C : Int → Int → Prop) (g : Int → Int → D) : D → D → (D → Prop) → Prop
  | .int i, .int j, Q => C i j ∧ Q (g i j)
  | _, _, _ => False
theorem rop_I0 {g : Int → Int → V} {gd : Int → Int → D} (h : ∀ i j F, Dr c F (g i j) (gd i j)) : Rop c (rI0 g) (dI2 gd) := fun {b F M x y d1 d2} Qd Q dj r1 r2 hw k => by
  cases d1 with
  | int i =>
    cases d2 with
    | int j => exact ⟨i, j, r1.int_of, r2.int_of, k _ _ F hw (Same.refl _) dj (fun _ f _ => f) (h i j F)⟩
    | _ => exact hw.elim
  | _ => exact hw.elim
theorem rop_I {C : Int → Int → Prop} {g : Int → Int → V} {gd : Int → Int → D} (h : ∀ i j F, Dr c F (g i j) (gd i j)) : Rop c (rI C g) (qr C gd) := fun {b F M x y d1 d2} Qd Q dj r1 r2 hw k => by
  cases d1 with
  | int i =>
    cases d2 with
    | int j => exact ⟨i, j, r1.int_of, r2.int_of, hw.1, k _ _ F hw.2 (Same.refl _) dj (fun _ f _ => f) (h i j F)⟩
    | _ => exact hw.elim
  | _ => exact hw.elim
abbrev ql := dI2 fun i j => D.int (i - j)
abbrev qm := qr CMul fun i j => D.int (i * j)
abbrev qo := qr (fun _ j => 0 < j) fun i j => D.int (i % j)
abbrev qp := qr CDiv fun i j => D.int (i / j)
abbrev qq := qr CPow fun i j => D.int (i ^ j.toNat)
abbrev dLt := dI2 fun i j => D.bl (decide (i < j))
abbrev dLe := dI2 fun i j => D.bl (decide (i ≤ j))
abbrev dGt := dI2 fun i j => D.bl (decide (j < i))
abbrev dGe := dI2 fun i j => D.bl (decide (j ≤ i))
theorem rop_sub : Rop c (rI0 fun i j => .int (i - j)) ql := rop_I0 fun _ _ _ => .of_int
theorem rop_mul : Rop c (rI CMul fun i j => .int (i * j)) qm := rop_I fun _ _ _ => .of_int
theorem rop_mod : Rop c (rI (fun _ j => 0 < j) fun i j => .int (i % j)) qo := rop_I fun _ _ _ => .of_int
theorem rop_fdiv : Rop c (rI CDiv fun i j => .int (i / j)) qp := rop_I fun _ _ _ => .of_int
theorem rop_pow : Rop c (rI CPow fun i j => .int (i ^ j.toNat)) qq := rop_I fun _ _ _ => .of_int
theorem rop_lt : Rop c (rI0 fun i j => .bl (decide (i < j))) dLt := rop_I0 fun _ _ _ => .of_bl
theorem rop_le : Rop c (rI0 fun i j => .bl (decide (i ≤ j))) dLe := rop_I0 fun _ _ _ => .of_bl
theorem rop_gt : Rop c (rI0 fun i j => .bl (decide (j < i))) dGt := rop_I0 fun _ _ _ => .of_bl
theorem rop_ge : Rop c (rI0 fun i j => .bl (decide (j ≤ i))) dGe := rop_I0 fun _ _ _ => .of_bl
/-- + -/
def qt : D → D → (D → Prop) → Prop
  | .int i, .int j, Q => Q (.int (i + j))
  | .str s, .str t, Q => s.length + t.length ≤ sizeLine ∧ Q (.str (s ++ t))
  | .lst a, .lst b, Q => a.length + b.length ≤ sizeLine ∧ Q (.lst (a ++ b))
  | _, _, _ => False
def rAddU : R2 := fun x y H Q => rI0 (fun i j => .int (i + j)) x y H Q ∨ (fun x y H Q => ∃ i j, x = .str i ∧ y = .str j ∧ i.length + j.length ≤ sizeLine ∧ Q (.str (i ++ j)) H) x y H Q ∨ rCat x y H Q
theorem op_addU : OpR X (binaryOp .Add) rAddU := OpR.or op_add (OpR.or op_add_str op_cat)
theorem Rk.lst_of {b : Option Addr} {F M : Hp} {v : V} {ds : List D} (h : Rk c b F M v (.lst ds)) : ∃ a vs, v = .ref a ∧ b ≠ some a ∧ HH F M a = some (.lst vs) ∧ DrL c F vs ds := h
theorem rop_add : Rop c rAddU qt := fun {b F M x y d1 d2} Qd Q dj r1 r2 hw k => by
  cases d1 with
  | int i =>
    cases d2 with
    | int j => exact .inl ⟨i, j, r1.int_of, r2.int_of, k _ _ F hw (Same.refl _) dj (fun _ f _ => f) .of_int⟩
    | _ => exact hw.elim
  | str i =>
    cases d2 with
    | str j => exact .inr (.inl ⟨i, j, r1.str_of, r2.str_of, hw.1, k _ _ F hw.2 (Same.refl _) dj (fun _ f _ => f) .of_str⟩)
    | _ => exact hw.elim
  | lst ds =>
    cases d2 with
    | lst es =>
      obtain ⟨a, vs, rfl, _, h1, q1⟩ := r1.lst_of
      obtain ⟨a', vs', rfl, _, h2, q2⟩ := r2.lst_of
      refine .inr (.inr ⟨a, a', vs, vs', rfl, rfl, h1, h2, by rw [q1.length, q2.length]; exact hw.1, fun p hp => ?_⟩)
      obtain ⟨hf, hm⟩ := hh_none hp
      rw [hh_updF hm]
      have s : Same F (upd F p (.lst (vs ++ vs'))) := Same.updF hf
      refine k _ _ _ hw.2 s (dj.updF hm) (fun x f m => ?_) ?_
      · by_cases e : x = p
        · rw [e, hm] at m; cases m
        · rw [upd_ne e]; exact f
      · simp only [Dr]
        exact ⟨p, _, rfl, upd_same, (q1.append q2).up s⟩
    | _ => exact hw.elim
  | _ => exact hw.elim

/-! ### equality -/
mutual
def toPy : D → PyData
  | .non => .none
  | .bl b => .bool b
  | .int i => .int i
  | .str s => .str s
  | .lst xs => .list (toPyL xs)
  | .tup xs => .tuple (toPyL xs)
  | .scr xs => .list (toPyL xs)
  | .dk _ _ => .none
  | .dt _ _ => .none
  | .ins _ _ _ => .none
def toPyL : List D → List PyData
  | [] => []
  | d :: ds => toPy d :: toPyL ds
end
mutual
/-- data that == tells apart: no dicts, no instances, texts of signs -/
def okD : D → Bool
  | .non => true
  | .bl _ => true
  | .int _ => true
  | .str s => PyData.strOk s
  | .lst xs => okDL xs
  | .tup xs => okDL xs
  | _ => false
def okDL : List D → Bool
  | [] => true
  | d :: ds => okD d && okDL ds
end
mutual
def depD : D → Nat
  | .lst xs => depDL xs + 1
  | .tup xs => depDL xs + 1
  | _ => 0
def depDL : List D → Nat
  | [] => 0
  | d :: ds => max (depD d) (depDL ds)
end
theorem toPyL_map : ∀ ds : List D, toPyL ds = ds.map toPy
  | [] => by simp only [toPyL, List.map_nil]
  | d :: ds => by simp only [toPyL, List.map_cons, toPyL_map ds]
mutual
theorem okD_lay : ∀ (d : D), okD d = true → (toPy d).canLay0 = true
  | .non, _ => by simp only [toPy, PyData.canLay0]
  | .bl _, _ => by simp only [toPy, PyData.canLay0]
  | .int _, _ => by simp only [toPy, PyData.canLay0]
  | .str s, h => by simpa only [toPy, PyData.canLay0, okD] using h
  | .lst xs, h => by simp only [toPy, PyData.canLay0]; exact okDL_lay xs (by simpa only [okD] using h)
  | .tup xs, h => by simp only [toPy, PyData.canLay0]; exact okDL_lay xs (by simpa only [okD] using h)
  | .scr _, h => by simp [okD] at h
  | .dk _ _, h => by simp [okD] at h
  | .dt _ _, h => by simp [okD] at h
  | .ins _ _ _, h => by simp [okD] at h
theorem okDL_lay : ∀ (ds : List D), okDL ds = true → PyData.canLayAll0 (toPyL ds) = true
  | [], _ => by simp only [toPyL, PyData.canLayAll0]
  | d :: ds, h => by
    simp only [okDL, Bool.and_eq_true] at h
    simp only [toPyL, PyData.canLayAll0, Bool.and_eq_true]
    exact ⟨okD_lay d h.1, okDL_lay ds h.2⟩
end
mutual
theorem depD_py : ∀ (d : D), okD d = true → (toPy d).depth = depD d
  | .non, _ => by simp only [toPy, PyData.depth, depD]
  | .bl _, _ => by simp only [toPy, PyData.depth, depD]
  | .int _, _ => by simp only [toPy, PyData.depth, depD]
  | .str s, h => by simp only [toPy, PyData.depth, depD]
  | .lst xs, h => by simp only [toPy, PyData.depth, depD, depDL_py xs (by simpa only [okD] using h)]
  | .tup xs, h => by simp only [toPy, PyData.depth, depD, depDL_py xs (by simpa only [okD] using h)]
  | .scr _, h => by simp [okD] at h
  | .dk _ _, h => by simp [okD] at h
  | .dt _ _, h => by simp [okD] at h
  | .ins _ _ _, h => by simp [okD] at h
theorem depDL_py : ∀ (ds : List D), okDL ds = true → PyData.depthAll (toPyL ds) = depDL ds
  | [], _ => by simp only [toPyL, PyData.depthAll, depDL]
  | d :: ds, h => by
    simp only [okDL, Bool.and_eq_true] at h
    simp only [toPyL, PyData.depthAll, depDL, depD_py d h.1, depDL_py ds h.2]
end
mutual
theorem Dr.dp {K : PySem.W.Frag} {F H : Hp} (s : Same F H) : ∀ (d : D) {v : V}, okD d = true → Dr c F v d → Dp K H v (toPy d)
  | .non, v, _, h => by rw [h.non_of, toPy]; exact .non
  | .bl _, v, _, h => by rw [h.bl_of, toPy]; exact .bl _
  | .int _, v, _, h => by rw [h.int_of, toPy]; exact .int _
  | .str _, v, _, h => by rw [h.str_of, toPy]; exact .str _
  | .lst xs, v, ok, h => by
    simp only [Dr] at h
    obtain ⟨a, vs, rfl, q, r⟩ := h
    rw [toPy]
    exact .lst (SqL.of (s _ _ q)) (DrL.dp s xs (by simpa only [okD] using ok) r)
  | .tup xs, v, ok, h => by
    simp only [Dr] at h
    obtain ⟨a, vs, rfl, q, r⟩ := h
    rw [toPy]
    exact .tup (SqT.of (s _ _ q)) (DrL.dp s xs (by simpa only [okD] using ok) r)
  | .scr _, v, h, _ => by simp [okD] at h
  | .dk _ _, v, h, _ => by simp [okD] at h
  | .dt _ _, v, h, _ => by simp [okD] at h
  | .ins _ _ _, v, h, _ => by simp [okD] at h
theorem DrL.dp {K : PySem.W.Frag} {F H : Hp} (s : Same F H) : ∀ (ds : List D) {vs : List V}, okDL ds = true → DrL c F vs ds → DpAll K H vs (toPyL ds)
  | [], vs, _, h => by rw [h.nil_iff, toPyL]; exact .nil
  | d :: ds, vs, ok, h => by
    obtain ⟨v, vr, rfl, q, r⟩ := h.cons_iff
    simp only [okDL, Bool.and_eq_true] at ok
    rw [toPyL]
    exact .cons (Dr.dp s d ok.1 q) (DrL.dp s ds ok.2 r)
end
theorem Rk.dp {K : PySem.W.Frag} {b : Option Addr} {F M : Hp} {v : V} {d : D} (dj : Dj F M) (ok : okD d = true) (h : Rk c b F M v d) : Dp K (HH F M) v (toPy d) := by
  cases d with
  | lst ds =>
    obtain ⟨a, vs, rfl, _, q, r⟩ := h
    rw [toPy]
    exact .lst (SqL.of q) (DrL.dp dj.same ds (by simpa only [okD] using ok) r)
  | dk _ _ => simp [okD] at ok
  | dt _ _ => simp [okD] at ok
  | ins _ _ _ => simp [okD] at ok
  | scr _ => simp [okD] at ok
  | non => exact Dr.dp (c := c) dj.same _ ok h
  | bl _ => exact Dr.dp (c := c) dj.same _ ok h
  | int _ => exact Dr.dp (c := c) dj.same _ ok h
  | str _ => exact Dr.dp (c := c) dj.same _ ok h
  | tup _ => exact Dr.dp (c := c) dj.same _ ok h
def shD (d : D) : Prop := okD d = true ∧ depD d ≤ 64
theorem shD.shaped {d : D} (h : shD d) : SeqAt.shaped (toPy d) = true := by
  show ((toPy d).canLay0 && decide ((toPy d).depth ≤ 64)) = true
  rw [Bool.and_eq_true]
  exact ⟨okD_lay d h.1, decide_eq_true (by rw [depD_py d h.1]; exact h.2)⟩
mutual
/-- Python's == on data without dicts -/
def eqD : D → D → Bool
  | .non, .non => true
  | .bl a, .bl b => a == b
  | .bl a, .int j => (if a then 1 else 0) == j
  | .int i, .bl b => i == (if b then 1 else 0)
  | .int i, .int j => i == j
  | .str x, .str y => x == y
  | .lst xs, .lst ys => eqDL xs ys
  | .tup xs, .tup ys => eqDL xs ys
  | _, _ => false
def eqDL : List D → List D → Bool
  | [], [] => true
  | x :: xs, y :: ys => eqD x y && eqDL xs ys
  | _, _ => false
end
mutual
theorem eqD_py : ∀ (d e : D), okD d = true → okD e = true → PyData.eqv (toPy d) (toPy e) = eqD d e := fun d e h1 h2 => by
  cases d <;> cases e <;> first
    | (simp [okD] at h1; done)
    | (simp [okD] at h2; done)
    | (simp only [toPy, PyData.eqv, eqD]; done)
    | (simp only [toPy, PyData.eqv, eqD]; exact eqDL_py _ _ (by simpa only [okD] using h1) (by simpa only [okD] using h2))
theorem eqDL_py : ∀ (ds es : List D), okDL ds = true → okDL es = true → PyData.eqvAll (toPyL ds) (toPyL es) = eqDL ds es
  | [], [], _, _ => by simp only [toPyL, PyData.eqvAll, eqDL]
  | [], _ :: _, _, _ => by simp only [toPyL, PyData.eqvAll, eqDL]
  | _ :: _, [], _, _ => by simp only [toPyL, PyData.eqvAll, eqDL]
  | d :: ds, e :: es, h1, h2 => by
    simp only [okDL, Bool.and_eq_true] at h1 h2
    simp only [toPyL, PyData.eqvAll, eqDL, eqD_py d e h1.1 h2.1, eqDL_py ds es h1.2 h2.2]
end
def rEqU (K : PySem.W.Frag) : R2 := fun x y H Q => rEq x y H Q ∨ rEqD K x y H Q
def rNeU (K : PySem.W.Frag) : R2 := fun x y H Q => rNe x y H Q ∨ rNeD K x y H Q
theorem op_eqU (hu : X.A.units + 64 < cLine) : OpR X (compareOp .Eq) (rEqU X.K) := OpR.or op_eq (op_eqD hu)
theorem op_neU (hu : X.A.units + 64 < cLine) : OpR X (compareOp .NotEq) (rNeU X.K) := OpR.or op_ne (op_neD hu)
def dEqB (g : Bool → Bool) : D → D → (D → Prop) → Prop
  | .int i, .int j, Q => Q (.bl (g (decide (i = j))))
  | .str i, .str j, Q => Q (.bl (g (decide (i = j))))
  | .bl i, .bl j, Q => Q (.bl (g (decide (i = j))))
  | .non, .non, Q => Q (.bl (g true))
  | .non, .int _, Q => Q (.bl (g false))
  | .int _, .non, Q => Q (.bl (g false))
  | .str _, .int _, Q => Q (.bl (g false))
  | .int _, .str _, Q => Q (.bl (g false))
  | d, e, Q => (shD d ∧ shD e) ∧ Q (.bl (g (eqD d e)))
abbrev dEq := dEqB id
abbrev dNe := dEqB not
theorem rop_eqG {g : Bool → Bool} {K : PySem.W.Frag} {r1 r2 : R2} (h1 : ∀ x y H (Q : VK), scal x y = true → Q (.bl (g (decide (x = y)))) H → r1 x y H Q) (h2 : ∀ x y H (Q : VK) d e, Dp K H x d → Dp K H y e → SeqAt.shaped d = true → SeqAt.shaped e = true → Q (.bl (g (PyData.eqv d e))) H → r2 x y H Q) :
    Rop c (fun x y H Q => r1 x y H Q ∨ r2 x y H Q) (dEqB g) := fun {b F M x y d1 d2} Qd Q dj q1 q2 hw k => by
  have deep : (shD d1 ∧ shD d2) ∧ Qd (.bl (g (eqD d1 d2))) → r1 x y (HH F M) Q ∨ r2 x y (HH F M) Q := fun ⟨⟨a, b⟩, q⟩ =>
    .inr (h2 x y _ Q _ _ (q1.dp dj a.1) (q2.dp dj b.1) a.shaped b.shaped (by rw [eqD_py d1 d2 a.1 b.1]; exact k _ _ F q (Same.refl _) dj (fun _ f _ => f) .of_bl))
  cases d1 with
  | int i =>
    cases d2 with
    | int j => rw [q1.int_of, q2.int_of]; exact .inl (h1 _ _ _ _ rfl (by rw [show decide (V.int i = V.int j) = decide (i = j) by simp]; exact k _ _ F hw (Same.refl _) dj (fun _ f _ => f) .of_bl))
    | non => rw [q1.int_of, q2.non_of]; exact .inl (h1 _ _ _ _ rfl (by rw [show decide (V.int i = V.non) = false by simp]; exact k _ _ F hw (Same.refl _) dj (fun _ f _ => f) .of_bl))
    | str j => rw [q1.int_of, q2.str_of]; exact .inl (h1 _ _ _ _ rfl (by rw [show decide (V.int i = V.str j) = false by simp]; exact k _ _ F hw (Same.refl _) dj (fun _ f _ => f) .of_bl))
    | _ => exact deep hw
  | str i =>
    cases d2 with
    | str j => rw [q1.str_of, q2.str_of]; exact .inl (h1 _ _ _ _ rfl (by rw [show decide (V.str i = V.str j) = decide (i = j) by simp]; exact k _ _ F hw (Same.refl _) dj (fun _ f _ => f) .of_bl))
    | int j => rw [q1.str_of, q2.int_of]; exact .inl (h1 _ _ _ _ rfl (by rw [show decide (V.str i = V.int j) = false by simp]; exact k _ _ F hw (Same.refl _) dj (fun _ f _ => f) .of_bl))
    | _ => exact deep hw
  | bl i =>
    cases d2 with
    | bl j => rw [q1.bl_of, q2.bl_of]; exact .inl (h1 _ _ _ _ rfl (by rw [show decide (V.bl i = V.bl j) = decide (i = j) by simp]; exact k _ _ F hw (Same.refl _) dj (fun _ f _ => f) .of_bl))
    | _ => exact deep hw
  | non =>
    cases d2 with
    | non => rw [q1.non_of, q2.non_of]; exact .inl (h1 _ _ _ _ rfl (by rw [show decide (V.non = V.non) = true by simp]; exact k _ _ F hw (Same.refl _) dj (fun _ f _ => f) .of_bl))
    | int j => rw [q1.non_of, q2.int_of]; exact .inl (h1 _ _ _ _ rfl (by rw [show decide (V.non = V.int j) = false by simp]; exact k _ _ F hw (Same.refl _) dj (fun _ f _ => f) .of_bl))
    | _ => exact deep hw
  | _ => exact deep hw
theorem rop_eq : Rop (cy X) (rEqU X.K) dEq := rop_eqG (g := id) (fun x y H Q h q => ⟨h, q⟩) (fun x y H Q d e a b s t q => ⟨d, e, a, b, s, t, q⟩)
theorem rop_ne : Rop (cy X) (rNeU X.K) dNe := rop_eqG (g := not) (fun x y H Q h q => ⟨h, q⟩) (fun x y H Q d e a b s t q => ⟨d, e, a, b, s, t, q⟩)

/-! ### is None, is True -/
def dIsB (g : Bool → Bool) : D → D → (D → Prop) → Prop
  | .bl a, .bl b, Q => Q (.bl (g (decide (a = b))))
  | .non, .non, Q => Q (.bl (g true))
  | _, .non, Q => Q (.bl (g false))
  | _, _, _ => False
def rIsU : R2 := fun x y H Q => (y = .non ∧ Q (.bl (decide (x = .non))) H) ∨ rIsB x y H Q
def rNotU : R2 := fun x y H Q => (y = .non ∧ Q (.bl (!decide (x = .non))) H) ∨ rNotB x y H Q
theorem op_isU : OpR X (compareOp .Is) rIsU := OpR.or op_isN op_isBl
theorem op_notU : OpR X (compareOp .IsNot) rNotU := OpR.or op_notN op_notBl
theorem Rk.ne_non {b : Option Addr} {F M : Hp} {x : V} : ∀ {d : D}, Rk c b F M x d → d ≠ .non → x ≠ .non
  | .non, _, n => (n rfl).elim
  | .bl _, h, _ => by rw [h.bl_of]; exact fun z => nomatch z
  | .int _, h, _ => by rw [h.int_of]; exact fun z => nomatch z
  | .str _, h, _ => by rw [h.str_of]; exact fun z => nomatch z
  | .lst _, h, _ => by obtain ⟨a, vs, rfl, _⟩ := h; exact fun z => nomatch z
  | .tup _, h, _ => by obtain ⟨a, vs, rfl, _⟩ := h.tup_of; exact fun z => nomatch z
  | .scr _, h, _ => by obtain ⟨a, vs, rfl, _⟩ := h.scr_of; exact fun z => nomatch z
  | .dk _ _, h, _ => by obtain ⟨a, vs, rfl, _⟩ := h; exact fun z => nomatch z
  | .dt _ _, h, _ => by obtain ⟨a, vs, rfl, _⟩ := h; exact fun z => nomatch z
  | .ins _ _ _, h, _ => by obtain ⟨a, vs, _, _, rfl, _⟩ := h; exact fun z => nomatch z
theorem rop_isG {g : Bool → Bool} {r1 r2 : R2} (h1 : ∀ x H (Q : VK), Q (.bl (g (decide (x = .non)))) H → r1 x .non H Q) (h2 : ∀ a b H (Q : VK), Q (.bl (g (decide (a = b)))) H → r2 (.bl a) (.bl b) H Q) :
    Rop c (fun x y H Q => r1 x y H Q ∨ r2 x y H Q) (dIsB g) := fun {b F M x y d1 d2} Qd Q dj q1 q2 hw k => by
  have no : d2 = .non → d1 ≠ .non → Qd (.bl (g false)) → r1 x y (HH F M) Q ∨ r2 x y (HH F M) Q := fun e n q => by
    subst e
    rw [q2.non_of]
    refine .inl (h1 _ _ _ ?_)
    rw [decide_eq_false (q1.ne_non n)]
    exact k _ _ F q (Same.refl _) dj (fun _ f _ => f) .of_bl
  cases d2 with
  | non =>
    cases d1 with
    | non =>
      rw [q1.non_of, q2.non_of]
      refine .inl (h1 _ _ _ ?_)
      rw [show decide (V.non = V.non) = true by simp]
      exact k _ _ F hw (Same.refl _) dj (fun _ f _ => f) .of_bl
    | bl _ => exact no rfl (fun z => nomatch z) hw
    | int _ => exact no rfl (fun z => nomatch z) hw
    | str _ => exact no rfl (fun z => nomatch z) hw
    | lst _ => exact no rfl (fun z => nomatch z) hw
    | tup _ => exact no rfl (fun z => nomatch z) hw
    | scr _ => exact no rfl (fun z => nomatch z) hw
    | dk _ _ => exact no rfl (fun z => nomatch z) hw
    | dt _ _ => exact no rfl (fun z => nomatch z) hw
    | ins _ _ _ => exact no rfl (fun z => nomatch z) hw
  | bl j =>
    cases d1 with
    | bl i => rw [q1.bl_of, q2.bl_of]; exact .inr (h2 _ _ _ _ (k _ _ F hw (Same.refl _) dj (fun _ f _ => f) .of_bl))
    | _ => exact hw.elim
  | _ => cases d1 <;> exact hw.elim
abbrev dIs := dIsB id
abbrev qH := dIsB not
theorem rop_is : Rop c rIsU dIs := rop_isG (g := id) (r1 := fun x y H Q => y = .non ∧ Q (.bl (decide (x = .non))) H) (r2 := rIsB) (fun x H Q q => ⟨rfl, q⟩) (fun a b H Q q => ⟨a, b, rfl, rfl, q⟩)
theorem rop_notIs : Rop c rNotU qH := rop_isG (g := not) (r1 := fun x y H Q => y = .non ∧ Q (.bl (!decide (x = .non))) H) (r2 := rNotB) (fun x H Q q => ⟨rfl, q⟩) (fun a b H Q q => ⟨a, b, rfl, rfl, q⟩)
theorem ro1_neg : Ro1 c (rU fun i => .int (-i)) (fun d Q => match d with | .int i => Q (.int (-i)) | _ => False) := fun {b F M x d1} Qd Q dj r1 hw k => by
  cases d1 with
  | int i => exact ⟨i, r1.int_of, k _ _ F hw (Same.refl _) dj .of_int⟩
  | _ => exact hw.elim

/-! ### dicts: what stands at a key -/
section
variable {κ : Type} [DecidableEq κ]
def alD : List κ → List D → κ → Option D
  | k :: ks, d :: ds, x => if k = x then some d else alD ks ds x
  | _, _, _ => none
theorem alD_val {F : Hp} : ∀ {ps : List (κ × V)} {ds : List D} {k : κ}, DrL c F (ps.map (·.2)) ds → (∀ d, alD (ps.map (·.1)) ds k = some d → ∃ v, valV ps k = some v ∧ Dr c F v d) ∧ (alD (ps.map (·.1)) ds k = none → valV ps k = none)
  | [], ds, k, h => by
    have e := h.length
    cases ds with
    | nil => exact ⟨fun d z => by simp [alD] at z, fun _ => rfl⟩
    | cons d ds => simp at e
  | p :: ps, ds, k, h => by
    cases ds with
    | nil => have e := h.length; simp at e
    | cons d ds =>
      obtain ⟨v, vr, e, q, r⟩ := h.cons_iff
      have e1 : p.2 = v := by injection e
      have e2 : ps.map (·.2) = vr := by injection e
      subst e1 e2
      have ih := alD_val (k := k) r
      by_cases z : p.1 = k
      · rw [valV_pos z]
        refine ⟨fun d' hd => ⟨p.2, rfl, ?_⟩, fun hn => ?_⟩
        · rw [List.map_cons, alD, if_pos z] at hd
          rw [← Option.some.inj hd]; exact q
        · rw [List.map_cons, alD, if_pos z] at hn; cases hn
      · rw [valV_neg z, List.map_cons, alD, if_neg z]
        exact ih
end
/-- a key -/
def keyD : D → Option Key
  | .int i => some (.inl i)
  | .str s => some (.inr s)
  | _ => none
def keysD : List D → Option (List Key)
  | [] => some []
  | d :: ds => match keyD d, keysD ds with
    | some k, some ks => some (k :: ks)
    | _, _ => none
theorem keyD_v {F : Hp} {v : V} : ∀ {d : D} {k : Key}, keyD d = some k → Dr c F v d → v = kV k
  | .int i, k, e, h => by rw [h.int_of]; cases e; rfl
  | .str i, k, e, h => by rw [h.str_of]; cases e; rfl
  | .non, k, e, _ => nomatch e
  | .bl _, k, e, _ => nomatch e
  | .lst _, k, e, _ => nomatch e
  | .tup _, k, e, _ => nomatch e
  | .scr _, k, e, _ => nomatch e
  | .dk _ _, k, e, _ => nomatch e
  | .dt _ _, k, e, _ => nomatch e
  | .ins _ _ _, k, e, _ => nomatch e
theorem keysD_v {F : Hp} : ∀ {ds : List D} {vs : List V} {ks : List Key}, keysD ds = some ks → DrL c F vs ds → vs = ks.map kV
  | [], vs, ks, e, h => by rw [h.nil_iff]; cases e; rfl
  | d :: ds, vs, ks, e, h => by
    obtain ⟨v, vr, rfl, q, r⟩ := h.cons_iff
    unfold keysD at e
    cases e1 : keyD d with
    | none => rw [e1] at e; cases e
    | some k =>
      cases e2 : keysD ds with
      | none => rw [e1, e2] at e; cases e
      | some kr =>
        rw [e1, e2] at e; cases e
        rw [keyD_v e1 q, keysD_v e2 r]; rfl
/-- what the dict holds at the key -/
def getD' : D → D → Option (Option D)
  | .dk ks ds, y => (keyD y).map fun k => alD ks ds k
  | .dt ks ds, .tup ys => (keysD ys).map fun k => alD ks ds k
  | _, _ => none
theorem getD_DGet {b : Option Addr} {F M : Hp} {x y : V} {d e : D} {o : Option D} (dj : Dj F M) (r1 : Rk c b F M x d) (r2 : Rk c b F M y e) (h : getD' d e = some o) : ∃ a ov, x = .ref a ∧ DGet (HH F M) a y ov ∧
    (∀ z, o = some z → ∃ v, ov = some v ∧ Dr c F v z) ∧ (o = none → ov = none) := by
  cases d with
  | dk ks ds =>
    obtain ⟨a, ps, rfl, _, q, k, r⟩ := r1
    obtain ⟨kk, hk, e1⟩ := Option.map_eq_some_iff.mp (show (keyD e).map (fun k => alD ks ds k) = some o from h)
    subst k
    have ev : y = kV kk := by
      cases e with
      | int i => rw [r2.int_of]; cases hk; rfl
      | str i => rw [r2.str_of]; cases hk; rfl
      | _ => cases hk
    have al := alD_val (c := c) (k := kk) r
    refine ⟨a, valV ps kk, rfl, .inl ⟨ps, kk, q, ev, rfl⟩, fun z hz => al.1 z (by rw [← hz]; exact e1), fun hn => al.2 (by rw [← hn]; exact e1)⟩
  | dt ks ds =>
    obtain ⟨a, ps, rfl, _, q, k, r⟩ := r1
    cases e with
    | tup ys =>
      obtain ⟨kk, hk, e1⟩ := Option.map_eq_some_iff.mp (show (keysD ys).map (fun k => alD ks ds k) = some o from h)
      subst k
      obtain ⟨bb, vs, rfl, hb, rb⟩ := r2.tup_of
      have ev := keysD_v hk rb
      have al := alD_val (c := c) (k := kk) r
      refine ⟨a, valV ps kk, rfl, .inr ⟨ps, kk, bb, q, rfl, by rw [← ev]; exact dj.f hb, rfl⟩, fun z hz => al.1 z (by rw [← hz]; exact e1), fun hn => al.2 (by rw [← hn]; exact e1)⟩
    | _ => cases h
  | _ => cases h

/-! ### x[i] -/
def rIxD : R2 := fun x y H Q => ∃ a v, x = .ref a ∧ DGet H a y (some v) ∧ Q v H
theorem ix_dict (hu : X.A.units + 1 < cLine) : IxR X rIxD := by
  intro value slice pins s σ H x y v u Q I rx ry h hs
  obtain ⟨a, w, rfl, g, q⟩ := h
  cases rx
  have hT := dict_typeIs I g
  have h₂ : wpAny (model X.prog X.w) X.A (getItem (.ref a) u) (EP X pins σ Q) X.xe s := d_getItem hu I g ry fun w' s' I' rw' => ⟨w, H, I', rw', q⟩
  unfold subscriptTail
  refine wpAny_bind ?_
  rw [getitemInPython_of_ne hT.not_modules]
  refine wpAny_bind (wpAny_specialOf hT PySem.F.slot_dict_getitem.lookup ?_)
  have fin : wpAny (model X.prog X.w) X.A (subscripted slice false (.ref a) u) (fun r s₃ => wpAny (model X.prog X.w) X.A (letTemporaryGo value (.ref a) r >>= fun _ => pure r) (EP X pins σ Q) X.xe s₃) X.xe s := by
    rw [hs]
    exact wpAny_operating (wpAny_mono h₂ (fun r s₃ h₃ => wpAny_bind (wpAny_letTemporaryGo (wpAny_pure h₃))) fun _ _ x => x)
  first
    | exact wpAny_pure (wpAny_bind fin)
    | exact wpAny_bind (wpAny_pure (wpAny_bind fin))
    | exact wpAny_bind fin
def rIxU (K : PySem.W.Frag) : R2 := fun x y H Q => rIx K x y H Q ∨ rIxD x y H Q
theorem ix_U (hu : X.A.units + 1 < cLine) : IxR X (rIxU X.K) := IxR.or ix_seq (ix_dict hu)
def dIx : D → D → (D → Prop) → Prop
  | .lst ds, .int i, Q => ∃ d, atI ds i = some d ∧ Q d
  | .tup ds, .int i, Q => ∃ d, atI ds i = some d ∧ Q d
  | .scr ds, .int i, Q => ∃ d, atI ds i = some d ∧ Q d
  | .str z, .int i, Q => z.length ≤ sizeLine ∧ ∃ n, atI z.cps.toList i = some n ∧ Q (.str ⟨#[n]⟩)
  | x, y, Q => ∃ d, getD' x y = some (some d) ∧ Q d
theorem atI_drl {F : Hp} {vs : List V} {ds : List D} {i : Int} {d : D} (r : DrL c F vs ds) (h : atI ds i = some d) : ∃ v, atI vs i = some v ∧ Dr c F v d := by
  unfold atI at h ⊢
  rw [r.length]
  cases e : ixN ds.length i with
  | none => rw [e] at h; cases h
  | some j =>
    rw [e] at h
    obtain ⟨v, h1, h2⟩ := r.get (i := j) h
    exact ⟨v, h1, h2⟩
theorem rop_ix : Rop (cy X) (rIxU X.K) dIx := fun {b F M x y d1 d2} Qd Q dj q1 q2 hw k => by
  have dict : (∃ d, getD' d1 d2 = some (some d) ∧ Qd d) → rIxU X.K x y (HH F M) Q := fun ⟨d, e, q⟩ => by
    obtain ⟨a, ov, e1, g, h1, _⟩ := getD_DGet dj q1 q2 e
    obtain ⟨v, e2, r⟩ := h1 d rfl
    subst e2
    exact .inr ⟨a, v, e1, g, k _ _ F q (Same.refl _) dj (fun _ f _ => f) r⟩
  cases d1 with
  | lst ds =>
    cases d2 with
    | int i =>
      obtain ⟨d, e, q⟩ := hw
      obtain ⟨a, vs, rfl, _, h1, r⟩ := q1.lst_of
      obtain ⟨v, hv, rv⟩ := atI_drl r e
      exact .inl (.inl ⟨a, vs, i, v, rfl, q2.int_of, SqL.of h1, hv, k _ _ F q (Same.refl _) dj (fun _ f _ => f) rv⟩)
    | _ => exact dict hw
  | tup ds =>
    cases d2 with
    | int i =>
      obtain ⟨d, e, q⟩ := hw
      obtain ⟨a, vs, rfl, h1, r⟩ := q1.tup_of
      obtain ⟨v, hv, rv⟩ := atI_drl r e
      exact .inl (.inr (.inl ⟨a, vs, i, v, rfl, q2.int_of, SqT.of (dj.f h1), hv, k _ _ F q (Same.refl _) dj (fun _ f _ => f) rv⟩))
    | _ => exact dict hw
  | scr ds =>
    cases d2 with
    | int i =>
      obtain ⟨d, e, q⟩ := hw
      obtain ⟨a, vs, rfl, h1, r⟩ := q1.scr_of
      obtain ⟨v, hv, rv⟩ := atI_drl r e
      exact .inl (.inl ⟨a, vs, i, v, rfl, q2.int_of, dj.same.seq h1, hv, k _ _ F q (Same.refl _) dj (fun _ f _ => f) rv⟩)
    | _ => exact dict hw
  | str z =>
    cases d2 with
    | int i =>
      obtain ⟨hz, n, e, q⟩ := hw
      exact .inl (.inr (.inr ⟨z, i, n, q1.str_of, q2.int_of, hz, e, k _ _ F q (Same.refl _) dj (fun _ f _ => f) .of_str⟩))
    | _ => exact dict hw
  | non => exact dict (by cases d2 <;> exact hw)
  | bl _ => exact dict (by cases d2 <;> exact hw)
  | int _ => exact dict (by cases d2 <;> exact hw)
  | dk _ _ => exact dict (by cases d2 <;> exact hw)
  | dt _ _ => exact dict (by cases d2 <;> exact hw)
  | ins _ _ _ => exact dict (by cases d2 <;> exact hw)
theorem de_ix {a b' : Expr} {ta tb : TE} {wa wb : WE} {pos : Pos} (hu : X.A.units + 1 < cLine) (ha : DP X a ta wa) (hb : DP X b' tb wb) (hs : PlainIx b') : DE X (.Subscript a b' pos) (tOp (rIxU X.K) ta tb) (wOp dIx wa wb) :=
  ⟨pe_ix (ix_U hu) ha.pe hb.pe hs, snd_op rop_ix ha.sn hb.sn⟩

/-! ### in -/
def flatD : D → Bool
  | .non => true
  | .bl _ => true
  | .int _ => true
  | .str _ => true
  | _ => false
theorem flatD_v {F : Hp} {v : V} : ∀ {d : D}, flatD d = true → Dr c F v d → flatV v = true
  | .non, _, h => by rw [h.non_of]; rfl
  | .bl _, _, h => by rw [h.bl_of]; rfl
  | .int _, _, h => by rw [h.int_of]; rfl
  | .str _, _, h => by rw [h.str_of]; rfl
  | .lst _, e, _ => nomatch e
  | .tup _, e, _ => nomatch e
  | .scr _, e, _ => nomatch e
  | .dk _ _, e, _ => nomatch e
  | .dt _ _, e, _ => nomatch e
  | .ins _ _ _, e, _ => nomatch e
theorem flatDL_v {F : Hp} : ∀ {ds : List D} {vs : List V}, ds.all flatD = true → DrL c F vs ds → vs.all flatV = true
  | [], vs, _, h => by rw [h.nil_iff]; rfl
  | d :: ds, vs, e, h => by
    obtain ⟨v, vr, rfl, q, r⟩ := h.cons_iff
    rw [List.all_cons, Bool.and_eq_true] at e
    rw [List.all_cons, flatD_v e.1 q, flatDL_v e.2 r]; rfl
theorem eqV_D {F : Hp} {u v : V} {d e : D} (h1 : flatD d = true) (h2 : flatD e = true) (q1 : Dr c F u d) (q2 : Dr c F v e) : eqV u v = eqD d e := by
  cases d with
  | non => rw [q1.non_of]; cases e with
    | non => rw [q2.non_of]; simp only [eqD]; rfl
    | bl _ => rw [q2.bl_of]; simp only [eqD]; rfl
    | int _ => rw [q2.int_of]; simp only [eqD]; rfl
    | str _ => rw [q2.str_of]; simp only [eqD]; rfl
    | _ => cases h2
  | bl _ => rw [q1.bl_of]; cases e with
    | non => rw [q2.non_of]; simp only [eqD]; rfl
    | bl _ => rw [q2.bl_of]; simp only [eqD]; rfl
    | int _ => rw [q2.int_of]; simp only [eqD]; rfl
    | str _ => rw [q2.str_of]; simp only [eqD]; rfl
    | _ => cases h2
  | int _ => rw [q1.int_of]; cases e with
    | non => rw [q2.non_of]; simp only [eqD]; rfl
    | bl _ => rw [q2.bl_of]; simp only [eqD]; rfl
    | int _ => rw [q2.int_of]; simp only [eqD]; rfl
    | str _ => rw [q2.str_of]; simp only [eqD]; rfl
    | _ => cases h2
  | str _ => rw [q1.str_of]; cases e with
    | non => rw [q2.non_of]; simp only [eqD]; rfl
    | bl _ => rw [q2.bl_of]; simp only [eqD]; rfl
    | int _ => rw [q2.int_of]; simp only [eqD]; rfl
    | str _ => rw [q2.str_of]; simp only [eqD]; rfl
    | _ => cases h2
  | _ => cases h1
theorem inV_D {F : Hp} {x : V} {d : D} (hd : flatD d = true) (q : Dr c F x d) : ∀ {ds : List D} {vs : List V}, ds.all flatD = true → DrL c F vs ds → inV x vs = ds.any fun z => eqD z d
  | [], vs, _, h => by rw [h.nil_iff]; rfl
  | e :: ds, vs, f, h => by
    obtain ⟨v, vr, rfl, qe, r⟩ := h.cons_iff
    rw [List.all_cons, Bool.and_eq_true] at f
    have ih := inV_D hd q f.2 r
    unfold inV at ih ⊢
    rw [List.any_cons, List.any_cons, ih, eqV_D f.1 hd qe q]
theorem any_py {d : D} (hd : okD d = true) : ∀ (ds : List D), okDL ds = true → (toPyL ds).any (fun z => PyData.eqv z (toPy d)) = ds.any fun z => eqD z d
  | [], _ => by simp only [toPyL, List.any_nil]
  | e :: ds, h => by
    simp only [okDL, Bool.and_eq_true] at h
    simp only [toPyL, List.any_cons, any_py hd ds h.2, eqD_py e d h.1 hd]
def rInDict (g : Bool → Bool) : R2 := fun x y H Q => ∃ a o, y = .ref a ∧ DGet H a x o ∧ Q (.bl (g o.isSome)) H
theorem op_inDict (hu : X.A.units + 1 < cLine) : OpR X (compareOp .In) (rInDict id) := by
  intro pins s σ H x y v u Q I rx ry h
  obtain ⟨a, o, rfl, g, q⟩ := h
  cases ry
  exact d_in hu I g rx fun s' I' => ⟨.bl _, H, I', rfl, q⟩
theorem op_notInDict (hu : X.A.units + 1 < cLine) : OpR X (compareOp .NotIn) (rInDict not) := by
  intro pins s σ H x y v u Q I rx ry h
  obtain ⟨a, o, rfl, g, q⟩ := h
  cases ry
  exact d_notIn hu I g rx fun s' I' => ⟨.bl _, H, I', rfl, q⟩
/-- x in a list, a tuple, a dict, a text -/
def dInB (g : Bool → Bool) : D → D → (D → Prop) → Prop
  | x, .lst ds, Q => ((flatD x = true ∧ ds.all flatD = true) ∨ (shD x ∧ shD (.lst ds))) ∧ Q (.bl (g (ds.any fun z => eqD z x)))
  | x, .tup ds, Q => (flatD x = true ∧ ds.all flatD = true) ∧ Q (.bl (g (ds.any fun z => eqD z x)))
  | .str s, .str z, Q => ∃ n, s = ⟨#[n]⟩ ∧ Q (.bl (g (decide (n ∈ z.cps.toList))))
  | x, y, Q => ∃ o, getD' y x = some o ∧ Q (.bl (g o.isSome))
def rInG (g : Bool → Bool) (rf rd : R2) : R2 := fun x y H Q => rf x y H Q ∨ rd x y H Q ∨ rInDict g x y H Q ∨ (fun x y H Q => ∃ (n : Nat) (z : Str), x = .str ⟨#[n]⟩ ∧ y = .str z ∧ Q (.bl (g (decide (n ∈ z.cps.toList)))) H) x y H Q
theorem rop_inG {g : Bool → Bool} {rf rd : R2} (hf : ∀ (x : V) (p : Addr) (xs : List V) (H : Hp) (Q : VK), (SqL X.K H p xs ∨ SqT X.K H p xs) → flatV x = true → xs.all flatV = true → Q (.bl (g (inV x xs))) H → rf x (.ref p) H Q)
    (hd : ∀ (x y : V) (H : Hp) (Q : VK) d ds, Dp X.K H x d → Dp X.K H y (.list ds) → SeqAt.shaped d = true → SeqAt.shaped (.list ds) = true → Q (.bl (g (ds.any fun z => PyData.eqv z d))) H → rd x y H Q) : Rop (cy X) (rInG g rf rd) (dInB g) := fun {b F M x y d1 d2} Qd Q dj q1 q2 hw k => by
  have fin : ∀ {t : Bool}, Qd (.bl t) → Q (.bl t) (HH F M) := fun q => k _ _ F q (Same.refl _) dj (fun _ f _ => f) .of_bl
  have dict : (∃ o, getD' d2 d1 = some o ∧ Qd (.bl (g o.isSome))) → rInG g rf rd x y (HH F M) Q := fun ⟨o, e, q⟩ => by
    obtain ⟨a, ov, e1, g1, h1, h2⟩ := getD_DGet dj q2 q1 e
    have es : o.isSome = ov.isSome := by
      cases o with
      | none => rw [h2 rfl]; rfl
      | some z => obtain ⟨v, hv, _⟩ := h1 z rfl; rw [hv]; rfl
    exact .inr (.inr (.inl ⟨a, ov, e1, g1, by rw [← es]; exact fin q⟩))
  have flat : ∀ {a : Addr} {vs : List V} {ds : List D}, y = .ref a → (SqL X.K (HH F M) a vs ∨ SqT X.K (HH F M) a vs) → DrL (cy X) F vs ds → flatD d1 = true → ds.all flatD = true → Qd (.bl (g (ds.any fun z => eqD z d1))) → rInG g rf rd x y (HH F M) Q := fun {a vs ds} e hs r f1 f2 q => by
    subst e
    have q1' : Dr (cy X) F x d1 := by cases d1 <;> first | exact q1 | cases f1
    exact .inl (hf _ _ _ _ _ hs (flatD_v f1 q1') (flatDL_v f2 r) (by rw [inV_D f1 q1' f2 r]; exact fin q))
  cases d2 with
  | lst ds =>
    have hw : ((flatD d1 = true ∧ ds.all flatD = true) ∨ (shD d1 ∧ shD (.lst ds))) ∧ Qd (.bl (g (ds.any fun z => eqD z d1))) := by cases d1 <;> exact hw
    obtain ⟨hc, q⟩ := hw
    obtain ⟨a, vs, e, _, h1, r⟩ := q2.lst_of
    rcases hc with ⟨f1, f2⟩ | ⟨s1, s2⟩
    · exact flat e (.inl (SqL.of h1)) r f1 f2 q
    · have ok2 : okDL ds = true := by simpa only [okD] using s2.1
      refine .inr (.inl (hd _ _ _ _ (toPy d1) (toPyL ds) (q1.dp dj s1.1) ?_ s1.shaped ?_ ?_))
      · have := q2.dp (K := X.K) dj s2.1; rwa [toPy] at this
      · have := s2.shaped; rwa [toPy] at this
      · rw [any_py s1.1 ds ok2]; exact fin q
  | tup ds =>
    have hw : (flatD d1 = true ∧ ds.all flatD = true) ∧ Qd (.bl (g (ds.any fun z => eqD z d1))) := by cases d1 <;> exact hw
    obtain ⟨⟨f1, f2⟩, q⟩ := hw
    obtain ⟨a, vs, e, h1, r⟩ := q2.tup_of
    exact flat e (.inr (SqT.of (dj.f h1))) r f1 f2 q
  | str z =>
    cases d1 with
    | str s =>
      obtain ⟨n, e, q⟩ := hw
      subst e
      exact .inr (.inr (.inr ⟨n, z, q1.str_of, q2.str_of, fin q⟩))
    | _ => exact dict hw
  | non => exact dict (by cases d1 <;> exact hw)
  | bl _ => exact dict (by cases d1 <;> exact hw)
  | int _ => exact dict (by cases d1 <;> exact hw)
  | scr _ => exact dict (by cases d1 <;> exact hw)
  | dk _ _ => exact dict (by cases d1 <;> exact hw)
  | dt _ _ => exact dict (by cases d1 <;> exact hw)
  | ins _ _ _ => exact dict (by cases d1 <;> exact hw)
abbrev dIn := dInB id
abbrev dNotIn := dInB not
def rInU (K : PySem.W.Frag) : R2 := rInG id (rIn K false) (rInD K)
def rNotInU (K : PySem.W.Frag) : R2 := rInG not (rIn K true) (rNotInD K)
theorem op_inU (hu : X.A.units + 65 < cLine) : OpR X (compareOp .In) (rInU X.K) := OpR.or op_in_seq (OpR.or (op_inD hu) (OpR.or (op_inDict (by omega)) op_in_sign))
theorem op_notInU (hu : X.A.units + 65 < cLine) : OpR X (compareOp .NotIn) (rNotInU X.K) := OpR.or op_notIn_seq (OpR.or (op_notInD hu) (OpR.or (op_notInDict (by omega)) op_notIn_sign))
theorem rop_in : Rop (cy X) (rInU X.K) dIn := rop_inG (g := id) (fun x p xs H Q h f1 f2 q => ⟨p, xs, rfl, h, f1, f2, by rw [if_neg Bool.false_ne_true]; exact q⟩) (fun x y H Q d ds a b s t q => ⟨d, ds, a, b, s, t, q⟩)
theorem rop_notIn : Rop (cy X) (rNotInU X.K) dNotIn := rop_inG (g := not) (fun x p xs H Q h f1 f2 q => ⟨p, xs, rfl, h, f1, f2, by rw [if_pos rfl]; exact q⟩) (fun x y H Q d ds a b s t q => ⟨d, ds, a, b, s, t, q⟩)
end
end DL

/-! Defs that use repr: they are called where no repr is under way. The law's own end. -/
namespace DL
open PySem PySem.Spec PyProof.Rows L2
variable [Lk]

/-- as FnOk, where no repr is under way; nothing is raised -/
structure FnG (P : Program) (w : World) (K : PySem.W.Frag) (mg : Str → Option Value) (base : Heap) (k : Nat) (f : Addr) (fd : FuncData) (ps : List Str) (sp : Sp) : Prop where
  len : ∀ vs H Q E, sp vs H Q E → vs.length = ps.length
  run : ∀ (A : Around) (outer : List Env) (s : Shared) (H : Hp) (args : Args) (us : List Value) (vs : List V) (Q : VK),
    Room k A → A.guards = some [] → Env0 P w K mg base A outer s H → BindsTo s fd args (ps.zip us) → Vals vs us → sp vs H Q E0 →
    codeAny (model P w) A (.call (.ref f) args) (fun r s' => ∃ u, r = .ok (.ret u) ∧ CE outer P w H s Q u s') s
theorem FnG.of {P : Program} {w : World} {K : PySem.W.Frag} {mg : Str → Option Value} {base : Heap} {k : Nat} {f : Addr} {fd : FuncData} {ps : List Str} {sp : Sp} (h : FnOk P w K mg base CX0 k f fd ps sp) : FnG P w K mg base k f fd ps sp := by
  refine ⟨h.len, fun A outer s H args us vs Q hr _ e0 hb hv hs => ?_⟩
  refine codeAny_mono (h.run A outer s H args us vs Q E0 hr e0 hb hv hs) fun r s' q => ?_
  match r, q with
  | .ok (.ret u), q => exact ⟨u, rfl, q⟩
theorem FnG.mono {P : Program} {w : World} {K : PySem.W.Frag} {mg : Str → Option Value} {base : Heap} {j k : Nat} {f : Addr} {fd : FuncData} {ps : List Str} {sp : Sp} (h : FnG P w K mg base j f fd ps sp) (hjk : j ≤ k) : FnG P w K mg base k f fd ps sp :=
  ⟨h.len, fun A outer s H args us vs Q hr => h.run A outer s H args us vs Q (hr.mono hjk)⟩

section
variable {P : Program} {w : World} {K : PySem.W.Frag} {mg : Str → Option Value} {base : Heap}
/-- a def of the text by its body, no repr under way -/
theorem fnG_of {x qual : Str} {st : Stmt} {f : Addr} {fd : FuncData} {N ps : List Str} {k : Nat} {sp : Sp} (F : Fun K x qual st f fd) (S : FnScope N ps (defScope st)) (len : ∀ vs H Q E, sp vs H Q E → vs.length = ps.length)
    (body : ∀ (cdv : Value) (A : Around) (outer : List Env) (s : Shared) (H : Hp) (vs : List V) (Q : VK), Room k (A.deeper (envOfC qual (defScope st) s.heap.objs.size f cdv)) → (A.deeper (envOfC qual (defScope st) s.heap.objs.size f cdv)).guards = some [] → sp vs H Q E0 →
      ∃ t, PSs (cxOf CX0 P w K mg base N qual (defScope st) f cdv A outer s H E0).nox (defBody st) t ∧ t { nx := fun _ H' => Q .non H', rt := Q } (L2.start N vs) H) : FnG P w K mg base (k + 1) f fd ps sp := by
  obtain ⟨oc, od, kV, doc, pm, an, cdv, ct, osl, rfl, look, hcode⟩ := F.ex
  refine ⟨len, fun A outer s H args us vs Q hr hgd e0 hb rv hsp => ?_⟩
  have hlen := len vs H Q E0 hsp
  have kin : K.In s.heap := e0.mod.kin.keeps fun y o q => (e0.bs y o q).1
  have lim : s.heap.NoLimit := e0.mod.nolimit.keeps fun y o q => (e0.bs y o q).1
  have kinds : ∀ y ∈ ps.zip us, (defScope st).names.lookup y.1 = some .local ∨
      ((defScope st).names.lookup y.1 = some .cell ∧ ((cellsFrom (s.heap.objs.size + 1) (defScope st).names []).lookup y.1).isSome = true) := by
    rintro ⟨n, v⟩ hy
    have hn := (List.of_mem_zip hy).1
    exact (S.par n hn).elim (fun q => .inl q) fun q => .inr ⟨q, PySem.W.cellsFrom_some _ _ _ (.inl q)⟩
  refine codeAny_call_function hr.depth (kin _ _ look) rfl S.co S.gen rfl
    (PySem.W.codeRec_of kin hcode) (hb _ _ _ _ ?_)
  refine wpAny_newFunctionEnv_cells S.kind kinds
    fun env he s1 x => ?_
  subst he
  refine ⟨lim.keeps x.toInCall.keep, codeAny_func ?_⟩
  obtain ⟨t, ht, hq⟩ := body cdv A outer s H vs Q (hr.deeper _) hgd hsp
  have I0 := inv_start (CX := CX0) (E := E0) (P := P) (w := w) (mg := mg) (base := base) (f := f) (cd := cdv) (qual := qual) (A := A) (outer := outer) S hr.hd e0 hlen rv x
  refine wpAny_mono (ht.run [] s1 _ H _ (I0.wish _) hq) (fun fl s' hs => ?_)
    fun _ _ z => z.elim
  match fl, hs with
  | .ret u, ⟨v, σ', H', J, r, q⟩ => exact ⟨u, rfl, v, H', J.os, J.bare, J.base, J.hok, r, q⟩
  | .next, ⟨σ', H', J, q⟩ => exact ⟨.none, rfl, .non, H', J.os, J.bare, J.base, J.hok, rfl, q⟩
  | .brk, ⟨_, _, _, q⟩ => exact q.elim
  | .cont, ⟨_, _, _, q⟩ => exact q.elim
end
section
variable {X : Cx} {k : Nat} {f : Addr} {fd : FuncData} {ps : List Str} {sp : Sp} {x : Str} {p pos : Pos} {e : Expr} {es : List Expr} {t : TA}
theorem peG_call (G : FnG X.prog X.w X.K X.mg X.base k f fd ps sp) (hr : Room k X.A) (hgd : X.A.guards = some []) (hg : Gl X x) (hm : X.mg x = some (.ref f)) (hk : PySem.W.keepIn X.K (.ref f) = true) (hb : Binds X.K fd ps [])
    (ha : PA X (e :: es) t) (hdb : (x == ("__debug__" : Str)) = false := by decide) (he : starEach (e :: es) X.env = (false, eval e X.env) :: starEach es X.env := by rfl) (hpl : (backTo pos (starEach es X.env)).any (·.1) = false := by rfl) :
    PE X (.Call (.Name x p) (e :: es) [] pos) (tCall sp [] E0 t) := by
  refine ⟨fun pins s σ H Q I h => wpAny_Call_Name_kw (ld_glob I hg hm ?_ hdb)⟩
  refine PySem.W.callWith_K (h₀ := X.base) I.ok.mod.kin hk
    (thn (ha.run pos pins s σ H _ I h) fun us s1 ⟨vs, H1, I1, r, q⟩ => ⟨I1.kIn, ?_⟩) he hpl
  have q : sp (vs ++ []) H1 Q E0 := q
  rw [List.append_nil] at q
  have hl : (us ++ []).length = ps.length := by
    rw [List.append_nil, ← r.length]
    exact G.len _ _ _ _ q
  have hb1 := hb s1 us I1.kIn hl
  rw [List.append_nil] at hb1
  refine wpAny_call (codeAny_mono (G.run X.A X.stack s1 H1 ⟨us, []⟩ us vs Q hr hgd I1.env0 hb1 r q) ?_)
  rintro res s' ⟨u, rfl, hq⟩
  exact I1.after hq
theorem de_callG {wt : WAs} {wf : WFn} (G : FnG X.prog X.w X.K X.mg X.base k f fd ps (spF (cy X) wf)) (hr : Room k X.A) (hgd : X.A.guards = some []) (hg : Gl X x) (hm : X.mg x = some (.ref f)) (hk : PySem.W.keepIn X.K (.ref f) = true) (hb : Binds X.K fd ps [])
    (ha : DAs X (e :: es) t wt) (hdb : (x == ("__debug__" : Str)) = false := by decide) (he : starEach (e :: es) X.env = (false, eval e X.env) :: starEach es X.env := by rfl) (hpl : (backTo pos (starEach es X.env)).any (·.1) = false := by rfl) :
    DE X (.Call (.Name x p) (e :: es) [] pos) (tCall (spF (cy X) wf) [] E0 t) (wCall wf wt) := ⟨peG_call G hr hgd hg hm hk hb ha.pe hdb he hpl, snd_call ha.sn⟩
end
section
variable {P : Program} {w : World} {K : PySem.W.Frag} {mg : Str → Option Value} {base : Heap}
/-- what a body's reading over data asks at its start -/
theorem start_rel {N : List Str} {b : Option Addr} {F M : Hp} {as : List Sl} {vs : List V} (dj : Dj F M) (bx : (∀ a, b = some a → Box F M a) ∧ NT M) (ar : ArgsD ⟨K, mg⟩ b F as vs) (hl : Lk.lk b F M) : Rel ⟨K, mg⟩ b (startD N as) (L2.start N vs) F M M := by
  refine ⟨dj, ?_, bx.1, hl⟩
  unfold startD L2.start
  rw [ar.length]
  exact ar.rel bx.2
theorem fin_rt {c : Cy} {b : Option Addr} {F M : Hp} {Q : VK} {Qd : D → Prop} (hq : ∀ d v F' M', Qd d → Same F F' → Dj F' M' → (∀ a, b = some a → Box F' M' a) → MR b M M' → Dr c F' v d → Q v (HH F' M')) :
    Fin c b F M { nx := fun _ => Qd .non, rt := fun d _ => Qd d } { nx := fun _ H' => Q .non H', rt := Q } := by
  refine ⟨fun ρ' σ' F' M' M0' e s' R' m' => ?_, fun _ _ _ _ _ z => z.elim, fun _ _ _ _ _ z => z.elim, fun d v ρ' σ' F' M' M0' e s' R' m' r => ?_⟩
  rotate_left
  · obtain ⟨F2, s2, eh, dj2⟩ := R'.env.frzAll R'.dj
    rw [eh]
    exact hq d v F2 M0' e (s'.trans s2) dj2 (fun a z => (R'.box a z).leD (.of s2)) m' (r.up s2)
  obtain ⟨F2, s2, eh, dj2⟩ := R'.env.frzAll R'.dj
  show Q .non (HH F' M')
  rw [eh]
  exact hq .non .non F2 M0' e (s'.trans s2) dj2 (fun a z => (R'.box a z).leD (.of s2)) m' .of_non
theorem fun_okG {x qual : Str} {st : Stmt} {f : Addr} {fd : FuncData} {N ps : List Str} {k : Nat} {wf : WFn} (F : Fun K x qual st f fd) (S : FnScope N ps (defScope st)) (len : ∀ as Qd, wf as Qd → as.length = ps.length)
    (hbody : ∀ (cdv : Value) (A : Around) (outer : List Env) (s : Shared) (H : Hp), Room k (A.deeper (envOfC qual (defScope st) s.heap.objs.size f cdv)) → (A.deeper (envOfC qual (defScope st) s.heap.objs.size f cdv)).guards = some [] →
      letI := Lk.top
      ∃ t ws, DSs (cxOf CX0 P w K mg base N qual (defScope st) f cdv A outer s H E0).nox (defBody st) t ws ∧ ∀ as Qd, wf as Qd → ws (startD N as) { nx := fun _ => Qd .non, rt := fun d _ => Qd d }) :
    FnG P w K mg base (k + 1) f fd ps (spF ⟨K, mg⟩ wf) := by
  refine fnG_of F S (fun vs H Q E h => ?_) (fun cdv A outer s H vs Q hr hgd h => ?_)
  · obtain ⟨b, F, M, as, Qd, _, _, _, ar, hw, _⟩ := h
    rw [ar.length, len as Qd hw]
  · obtain ⟨b, F, M, as, Qd, rfl, dj, bx, ar, hw, hq⟩ := h
    letI := Lk.top
    obtain ⟨t, ws, hd, hp⟩ := hbody cdv A outer s (HH F M) hr hgd
    exact ⟨t, hd.ps, hd.sn (start_rel dj bx ar trivial) _ _ (hp as Qd hw) (fin_rt hq)⟩
end

/-! ### the law's end -/
/-- the law's promise: a list of at most 63 ints, True -/
def spLaw (K : PySem.W.Frag) : Sp := fun vs H Q _ => ∃ (a : Addr) (ns : List Int), vs = [.ref a] ∧ SqL K H a (ns.map V.int) ∧ ns.length ≤ 63 ∧ ∀ H', Q (.bl true) H'
theorem ints_vals {ns : List Int} : ∀ {us : List Value}, IntsAre us ns → Vals (ns.map V.int) us := by
  induction ns with
  | nil => intro us h; cases h; exact .nil
  | cons n ns ih => intro us h; cases h with | cons _ t r => exact .cons ⟨t, rfl⟩ (ih r)
theorem lawG_call {P : Program} {w : World} {K : PySem.W.Frag} {mg mb : Str → Option Value} {k : Nat} {fa a : Addr} {fd : FuncData} {x : Str} {s₁ : Shared} {vs : List Value} {ns : List Int}
    (KX : K.In s₁.heap) (hns : s₁.heap.Ns mainGlobals mg) (hb : s₁.heap.Ns builtinsNs mb) (hbb : ∀ x : Str, x ≠ "__name__" → mb x = bootBuiltins x) (hlim : s₁.heap.NoLimit) (hg : s₁.gens = #[])
    (ha : s₁.heap.get? a = some { cls := .type "list", data := .seq vs.toArray }) (hi : IntsAre vs ns) (hl : ns.length ≤ 63) (hr : Room k callerA)
    (F : ∀ base : Heap, K.In base → base.Ns mainGlobals mg → FnG P w K mg base k fa fd [x] (spLaw K)) (hbind : ∀ (s : Shared) (u : Value), BindsTo s fd ⟨[u], []⟩ [(x, u)]) :
    codeAny (model P w) callerA (.call (.ref fa) ⟨[.ref a], []⟩) (fun r s' => r = .ok (.ret (.bool true)) ∧ OldK s₁.heap s'.heap ∧ s'.os = s₁.os ∧ AllBare s'.gens) s₁ := by
  have rv := ints_vals hi
  have hz : ns.length ≤ sizeLine := Nat.le_trans hl (by decide)
  -- what may be tracked: the script alone
  have main : ∀ H : Hp, (∀ b u, H b = some u → b = a ∧ ∃ o xs, u = .frz o (.lst xs)) → SqL K H a (ns.map V.int) → HOk P w H s₁.heap → ((H a).isSome = true → K.lookup a = none) →
      codeAny (model P w) callerA (.call (.ref fa) ⟨[.ref a], []⟩) (fun r s' => r = .ok (.ret (.bool true)) ∧ OldK s₁.heap s'.heap ∧ s'.os = s₁.os ∧ AllBare s'.gens) s₁ := by
    intro H only hS hok hK
    have isDict : ∀ {b : Addr} {o : Obj} {es : Array DictEntry} {ep : Nat}, s₁.heap.get? b = some o → o.data = .dict es ep → H b = none := by
      intro b o es ep e d
      cases q : H b with
      | none => rfl
      | some u =>
        rw [(only b u q).1, ha] at e
        cases e
        exact absurd (show Data.seq vs.toArray _ = Data.dict es ep from d) (fun z => nomatch z)
    have ns2 : ∀ {b : Addr} {m : Str → Option Value}, s₁.heap.Ns b m → (hidT s₁.heap H).Ns b m := by
      rintro b m ⟨o, es, ep, e, d, r⟩
      exact ⟨o, es, ep, hidT_get e (isDict e d), d, r⟩
    have kin2 : K.In (hidT s₁.heap H) := by
      intro b o e
      refine hidT_get (KX b o e) ?_
      cases q : H b with
      | none => rfl
      | some u =>
        have eb := (only b u q).1
        rw [eb] at q e
        rw [hK (by rw [q]; rfl)] at e
        cases e
    have hM : Mod K mg (hidT s₁.heap H) := by
      obtain ⟨mc, l1, l2⟩ := hlim
      exact ⟨kin2, ns2 hns, ⟨mb, ns2 hb, hbb⟩, ⟨mc, ns2 l1, l2⟩⟩
    have noFr : ∀ b : Addr, b ∉ frs ([] : List Env) := fun b z => by cases z
    have e0 : Env0 P w K mg (hidT s₁.heap H) callerA [] s₁ H :=
      ⟨rfl, hM, fun b o e => of_hidT e, Nat.le_of_eq (hidT_size _ _), trivial, fun b z => absurd z (noFr b), hok, .of_eq hg⟩
    refine codeAny_mono ((F _ kin2 (ns2 hns)).run callerA [] s₁ H ⟨[.ref a], []⟩ [.ref a] [.ref a] (fun v _ => v = .bl true) hr rfl e0 (hbind s₁ (.ref a)) (.cons rfl .nil) ⟨a, ns, rfl, hS, hl, fun _ => rfl⟩) ?_
    rintro r s' ⟨u, rfl, v, H', os, bare, un, hok', r', q⟩
    have q : v = .bl true := q
    subst q
    have eu : u = Value.bool true := r'
    subst eu
    refine ⟨rfl, OldK.of_keep fun b o e => ?_, os, bare⟩
    cases q : H b with
    | none => exact un.keep b o e q (noFr b) (by simp)
    | some u =>
      obtain ⟨_, ob, xs, rfl⟩ := only b u q
      have k1 := (hok b _ q).1
      have k2 := (hok' b _ (un.frzs b ob _ q)).1
      rw [e] at k1
      cases k1
      exact k2
  cases hk : K.lookup a with
  | some o =>
    have e := KX a o hk
    rw [ha] at e
    cases e
    refine main (fun _ => none) (fun b u z => nomatch z) ?_ (fun b u z => nomatch z) (fun z => nomatch z)
    refine .inr ⟨_, vs.toArray, _, hk, rfl, rfl, rfl, ?_, by simpa using rv⟩
    rw [List.size_toArray, ← rv.length, List.length_map]
    exact hz
  | none =>
    refine main (upd (fun _ => none) a (.frz { cls := .type "list", data := .seq vs.toArray } (.lst (ns.map V.int)))) (fun b u z => ?_) (.inl (.inr ⟨_, upd_same⟩)) (fun b u z => ?_) (fun _ => hk)
    · by_cases e : b = a
      · subst e
        rw [upd_same] at z
        exact ⟨rfl, _, _, (Option.some.inj z).symm⟩
      · rw [upd_ne e] at z; cases z
    · by_cases e : b = a
      · subst e
        rw [upd_same] at z
        cases z
        exact ⟨ha, by rw [List.length_map]; exact hz, vs, _, rv, ha⟩
      · rw [upd_ne e] at z; cases z
theorem walkG {l : PySem.W.OpenLaw} {k : Nat} {q : Program} {loose : List Str} {XP : (Str → Option Value) → Heap → Prop} {YP : World → Heap → Prop} {d : DefRec} {K : Params → PySem.W.Frag} {x : Str}
    (hn : l.most = some 63) (hdf : d.params.defaults = []) (hr : Room k callerA) (hY : ∀ (w : World) (h : Heap), YP w h → (K w.params).In h)
    (F : ∀ (w : World) (mg : Str → Option Value) (fa : Addr) (h : Heap), (K w.params).In h → h.Ns mainGlobals mg → mg d.name = some (.ref fa) →
      ∃ fd : FuncData, (∀ (s : Shared) (u : Value), BindsTo s fd ⟨[u], []⟩ [(x, u)]) ∧
        ∀ base : Heap, (K w.params).In base → base.Ns mainGlobals mg → FnG l.prog w (K w.params) mg base k fa fd [x] (spLaw (K w.params))) :
    PySem.W.WalkO q loose XP YP l.row.toRowW d [] (fun f vs => PySem.call f vs) := by
  refine Att.attach_call hn hdf fun w s₀ s₁ mg mb fa o pm cd doc a vs ns G Y ho hd hcd hmg hobj hints hlen hg => ?_
  have kin := hY w _ Y
  obtain ⟨fd, hb, hF⟩ := F w mg fa _ kin G.T.g hmg
  exact lawG_call kin G.T.g G.T.b G.T.builtins G.T.nolimit hg hobj hints hlen hr hF hb
end DL

/-! Built-ins, methods, own objects that change, the box of digits. -/
namespace DL
open PySem PySem.Spec PyProof.Rows L2
variable [Lk]

section
variable {c : Cy} {X : Cx} {e a a' : Expr} {te ta tb : TE} {w wa wb : WE} {x : Str} {p pos : Pos}
/-! ### built-ins of one value -/
theorem de_b1 {id : String} {r : List V → Hp → VK → Prop} {wr : D → (D → Prop) → Prop} (hc : CallR X (.builtin id) r) (hr : Ro1 (cy X) (fun x H Q => r [x] H Q) wr) (hg : Gl X x) (hm : X.mg x = none) (hv : bootBuiltins x = some (.builtin id)) (ha : DP X a ta wa)
    (hn : x ≠ "__name__" := by decide) (hdb : (x == ("__debug__" : Str)) = false := by decide) (he : starEach (a :: []) X.env = (false, eval a X.env) :: starEach [] X.env := by rfl) (hpl : (backTo pos (starEach [] X.env)).any (·.1) = false := by rfl) :
    DE X (.Call (.Name x p) [a] [] pos) (tCB r (tCons ta tNil)) (wUn wr wa) := ⟨pe_callB hc hg hm hv (pa_cons ha.pe pa_nil he) hn hdb he hpl, fun {b ρ σ F M M0} R Qd Q hw k => snd_un (c := cy X) hr ha.sn R Qd Q hw k⟩
theorem de_t1 {T : String} {r : List V → Hp → VK → Prop} {wr : D → (D → Prop) → Prop} (hc : CallR X (.type T) r) (hr : Ro1 (cy X) (fun x H Q => r [x] H Q) wr) (hg : Gl X x) (hm : X.mg x = none) (hv : bootBuiltins x = some (.type T)) (ha : DP X a ta wa)
    (hn : x ≠ "__name__" := by decide) (hdb : (x == ("__debug__" : Str)) = false := by decide) (he : starEach (a :: []) X.env = (false, eval a X.env) :: starEach [] X.env := by rfl) (hpl : (backTo pos (starEach [] X.env)).any (·.1) = false := by rfl) :
    DE X (.Call (.Name x p) [a] [] pos) (tCB r (tCons ta tNil)) (wUn wr wa) := ⟨pe_callTy hc hg hm hv (pa_cons ha.pe pa_nil he) hn hdb he hpl, fun {b ρ σ F M M0} R Qd Q hw k => snd_un (c := cy X) hr ha.sn R Qd Q hw k⟩
theorem de_b2 {id : String} {r : List V → Hp → VK → Prop} {wr : D → D → (D → Prop) → Prop} (hc : CallR X (.builtin id) r) (hr : Rop (cy X) (fun x y H Q => r [x, y] H Q) wr) (hg : Gl X x) (hm : X.mg x = none) (hv : bootBuiltins x = some (.builtin id)) (ha : DP X a ta wa) (hb : DP X a' tb wb)
    (hn : x ≠ "__name__" := by decide) (hdb : (x == ("__debug__" : Str)) = false := by decide) (he : starEach (a :: [a']) X.env = (false, eval a X.env) :: starEach [a'] X.env := by rfl) (hpl : (backTo pos (starEach [a'] X.env)).any (·.1) = false := by rfl)
    (he2 : starEach (a' :: []) X.env = (false, eval a' X.env) :: starEach [] X.env := by rfl) :
    DE X (.Call (.Name x p) [a, a'] [] pos) (tCB r (tCons ta (tCons tb tNil))) (wOp wr wa wb) := ⟨pe_callB hc hg hm hv (pa_cons ha.pe (pa_cons hb.pe pa_nil he2) he) hn hdb he hpl, fun {b ρ σ F M M0} R Qd Q hw k => snd_op (c := cy X) hr ha.sn hb.sn R Qd Q hw k⟩
/-- len -/
def qu : D → (D → Prop) → Prop
  | .lst ds, Q => Q (.int ds.length)
  | .tup ds, Q => Q (.int ds.length)
  | .scr ds, Q => Q (.int ds.length)
  | .str z, Q => z.length ≤ sizeLine ∧ Q (.int z.length)
  | .dk ks _, Q => Q (.int ks.length)
  | _, _ => False
theorem call_lenR : CallR X (.builtin "len") (fun xs H Q => ∃ a kvs, xs = [V.ref a] ∧ Rd H a (.dK kvs) ∧ Q (.int kvs.length) H) := by
  intro pins s σ H xs us Q I r h
  obtain ⟨a, kvs, rfl, ha, q⟩ := h
  obtain ⟨u, rfl, ru⟩ := vals1 r
  cases ru
  exact d_len I ha fun t s' I' => ⟨.int kvs.length, H, I', ⟨t, rfl⟩, q⟩
def rLenU (K : PySem.W.Frag) : List V → Hp → VK → Prop := fun xs H Q => (∃ x n, xs = [x] ∧ LenV K x H n ∧ Q (.int n) H) ∨ ∃ a kvs, xs = [V.ref a] ∧ Rd H a (.dK kvs) ∧ Q (.int kvs.length) H
theorem call_lenU : CallR X (.builtin "len") (rLenU X.K) := CallR.or call_len call_lenR
theorem ro1_len : Ro1 (cy X) (fun x H Q => rLenU X.K [x] H Q) qu := fun {b F M x d1} Qd Q dj r1 hw k => by
  cases d1 with
  | lst ds =>
    obtain ⟨a, vs, rfl, _, h, r⟩ := r1.lst_of
    exact .inl ⟨_, ds.length, rfl, .inl ⟨vs, SqL.of h, by rw [r.length]⟩, k _ _ F hw (Same.refl _) dj .of_int⟩
  | tup ds =>
    obtain ⟨a, vs, rfl, h, r⟩ := r1.tup_of
    exact .inl ⟨_, ds.length, rfl, .inr ⟨vs, SqT.of (dj.f h), by rw [r.length]⟩, k _ _ F hw (Same.refl _) dj .of_int⟩
  | scr ds =>
    obtain ⟨a, vs, rfl, h, r⟩ := r1.scr_of
    exact .inl ⟨_, ds.length, rfl, .inl ⟨vs, dj.same.seq h, by rw [r.length]⟩, k _ _ F hw (Same.refl _) dj .of_int⟩
  | str z => rw [r1.str_of]; exact .inl ⟨_, z.length, rfl, ⟨hw.1, rfl⟩, k _ _ F hw.2 (Same.refl _) dj .of_int⟩
  | dk ks ds =>
    obtain ⟨a, ps, rfl, _, h, e, r⟩ := r1
    refine .inr ⟨a, ps, rfl, h, ?_⟩
    have el : ps.length = ks.length := by rw [← e, List.length_map]
    rw [el]
    exact k _ _ F hw (Same.refl _) dj .of_int
  | _ => exact hw.elim
/-- int(n), int(flag) -/
def qv : D → (D → Prop) → Prop
  | .int i, Q => Q (.int i)
  | .bl b, Q => Q (.int (if b then 1 else 0))
  | _, _ => False
theorem ro1_int : Ro1 (cy X) (fun x H Q => (∃ i, [x] = [V.int i] ∧ Q (.int i) H) ∨ ∃ k, [x] = [V.bl k] ∧ Q (.int (if k then 1 else 0)) H) qv := fun {b F M x d1} Qd Q dj r1 hw k => by
  cases d1 with
  | int i => rw [r1.int_of]; exact .inl ⟨i, rfl, k _ _ F hw (Same.refl _) dj .of_int⟩
  | bl i => rw [r1.bl_of]; exact .inr ⟨i, rfl, k _ _ F hw (Same.refl _) dj .of_int⟩
  | _ => exact hw.elim
/-- sum, max, min of a list of ints -/
def q8 : D → (D → Prop) → Prop
  | .lst ds, Q => ∃ ns : List Int, ds = ns.map D.int ∧ Q (.int ns.sum)
  | _, _ => False
theorem Rk.ints {b : Option Addr} {F M : Hp} {v : V} {ns : List Int} (h : Rk c b F M v (.lst (ns.map D.int))) : ∃ a, v = .ref a ∧ HH F M a = some (.lst (ns.map V.int)) := by
  obtain ⟨a, vs, rfl, _, q, r⟩ := h.lst_of
  rw [r.ints] at q
  exact ⟨a, rfl, q⟩
theorem ro1_sum : Ro1 (cy X) (fun x H Q => rSum X.K [x] H Q) q8 := fun {b F M x d1} Qd Q dj r1 hw k => by
  cases d1 with
  | lst ds =>
    obtain ⟨ns, rfl, q⟩ := hw
    obtain ⟨a, rfl, h⟩ := r1.ints
    exact ⟨a, ns, rfl, SqL.of h, k _ _ F q (Same.refl _) dj .of_int⟩
  | _ => exact hw.elim
def dMaxL : D → (D → Prop) → Prop
  | .lst ds, Q => ∃ ns : List Int, ds = ns.map D.int ∧ 0 < ns.length ∧ ∀ m, m ∈ ns → (∀ y, y ∈ ns → y ≤ m) → Q (.int m)
  | _, _ => False
theorem ro1_maxL : Ro1 (cy X) (fun x H Q => rMax X.K [x] H Q) dMaxL := fun {b F M x d1} Qd Q dj r1 hw k => by
  cases d1 with
  | lst ds =>
    obtain ⟨ns, rfl, hn, q⟩ := hw
    obtain ⟨a, rfl, h⟩ := r1.ints
    exact ⟨a, ns, rfl, SqL.of h, hn, fun m hm hle => k _ _ F (q m hm hle) (Same.refl _) dj .of_int⟩
  | _ => exact hw.elim
def dMinL : D → (D → Prop) → Prop
  | .lst ds, Q => ∃ ns : List Int, ds = ns.map D.int ∧ 0 < ns.length ∧ ∀ m, m ∈ ns → (∀ y, y ∈ ns → m ≤ y) → Q (.int m)
  | _, _ => False
theorem ro1_minL : Ro1 (cy X) (fun x H Q => rMin X.K [x] H Q) dMinL := fun {b F M x d1} Qd Q dj r1 hw k => by
  cases d1 with
  | lst ds =>
    obtain ⟨ns, rfl, hn, q⟩ := hw
    obtain ⟨a, rfl, h⟩ := r1.ints
    exact ⟨a, ns, rfl, SqL.of h, hn, fun m hm hle => k _ _ F (q m hm hle) (Same.refl _) dj .of_int⟩
  | _ => exact hw.elim
def dAny : D → (D → Prop) → Prop
  | .lst ds, Q => ∃ bs : List Bool, ds = bs.map D.bl ∧ Q (.bl (bs.any id))
  | _, _ => False
theorem DrL.bls {F : Hp} : ∀ {ns : List Bool} {vs : List V}, DrL c F vs (ns.map D.bl) → vs = ns.map V.bl
  | [], vs, h => h.nil_iff
  | n :: ns, vs, h => by
    obtain ⟨u, vr, rfl, r, t⟩ := h.cons_iff
    rw [r.bl_of, DrL.bls t]; rfl
theorem ro1_any : Ro1 (cy X) (fun x H Q => rAny X.K [x] H Q) dAny := fun {b F M x d1} Qd Q dj r1 hw k => by
  cases d1 with
  | lst ds =>
    obtain ⟨ns, rfl, q⟩ := hw
    obtain ⟨a, vs, rfl, _, h, r⟩ := r1.lst_of
    rw [r.bls] at h
    exact ⟨a, ns, rfl, SqL.of h, k _ _ F q (Same.refl _) dj .of_bl⟩
  | _ => exact hw.elim
/-- abs, max, min of two -/
def dAbs : D → (D → Prop) → Prop
  | .int i, Q => Q (.int (if i < 0 then -i else i))
  | _, _ => False
theorem ro1_abs : Ro1 c (fun x H Q => ∃ i, [x] = [V.int i] ∧ Q (.int (if i < 0 then -i else i)) H) dAbs := fun {b F M x d1} Qd Q dj r1 hw k => by
  cases d1 with
  | int i => rw [r1.int_of]; exact ⟨i, rfl, k _ _ F hw (Same.refl _) dj .of_int⟩
  | _ => exact hw.elim
abbrev qD := dI2 fun i j => D.int (if j > i then j else i)
abbrev qE := dI2 fun i j => D.int (if j < i then j else i)
theorem rop_max2 : Rop c (fun x y H Q => ∃ i j, [x, y] = [V.int i, V.int j] ∧ Q (.int (if j > i then j else i)) H) qD := fun {b F M x y d1 d2} Qd Q dj r1 r2 hw k => by
  cases d1 with
  | int i =>
    cases d2 with
    | int j => rw [r1.int_of, r2.int_of]; exact ⟨i, j, rfl, k _ _ F hw (Same.refl _) dj (fun _ f _ => f) .of_int⟩
    | _ => exact hw.elim
  | _ => exact hw.elim
theorem rop_min2 : Rop c (fun x y H Q => ∃ i j, [x, y] = [V.int i, V.int j] ∧ Q (.int (if j < i then j else i)) H) qE := fun {b F M x y d1 d2} Qd Q dj r1 r2 hw k => by
  cases d1 with
  | int i =>
    cases d2 with
    | int j => rw [r1.int_of, r2.int_of]; exact ⟨i, j, rfl, k _ _ F hw (Same.refl _) dj (fun _ f _ => f) .of_int⟩
    | _ => exact hw.elim
  | _ => exact hw.elim
/-- ord -/
def dOrd : D → (D → Prop) → Prop
  | .str z, Q => z.length = 1 ∧ Q (.int (z.cps.getD 0 0 : Nat))
  | _, _ => False
theorem ro1_ord : Ro1 c (fun x H Q => ∃ z, [x] = [V.str z] ∧ z.length = 1 ∧ Q (.int (z.cps.getD 0 0 : Nat)) H) dOrd := fun {b F M x d1} Qd Q dj r1 hw k => by
  cases d1 with
  | str z => rw [r1.str_of]; exact ⟨z, rfl, hw.1, k _ _ F hw.2 (Same.refl _) dj .of_int⟩
  | _ => exact hw.elim
/-- str(n) -/
def dStrI : D → (D → Prop) → Prop
  | .int i, Q => i.natAbs.log2 < 1920 ∧ Q (.str (toString i))
  | .str s, Q => Q (.str s)
  | _, _ => False
theorem ro1_strI : Ro1 c (fun x H Q => (∃ i, [x] = [V.int i] ∧ i.natAbs.log2 < 1920 ∧ Q (.str (toString i)) H) ∨ ∃ s, [x] = [V.str s] ∧ Q (.str s) H) dStrI := fun {b F M x d1} Qd Q dj r1 hw k => by
  cases d1 with
  | int i => rw [r1.int_of]; exact .inl ⟨i, rfl, hw.1, k _ _ F hw.2 (Same.refl _) dj .of_str⟩
  | str i => rw [r1.str_of]; exact .inr ⟨i, rfl, k _ _ F hw (Same.refl _) dj .of_str⟩
  | _ => exact hw.elim
theorem call_strU : CallR X (.type "str") (fun xs H Q => (∃ i, xs = [V.int i] ∧ i.natAbs.log2 < 1920 ∧ Q (.str (toString i)) H) ∨ ∃ s, xs = [V.str s] ∧ Q (.str s) H) := CallR.or call_str_int SkE.call_str_str
/-- a new list, frozen -/
theorem new_lst {F M : Hp} {vs : List V} {ds : List D} {p : Addr} {Q : VK} {Qd : D → Prop} (dj : Dj F M) (r : DrL c F vs ds) (hp : HH F M p = none) (q : Qd (.lst ds)) (k : ∀ d v F', Qd d → Same F F' → Dj F' M → Dr c F' v d → Q v (HH F' M)) :
    Q (.ref p) (upd (HH F M) p (.lst vs)) := by
  obtain ⟨hf, hm⟩ := hh_none hp
  rw [hh_updF hm]
  refine k _ _ _ q (Same.updF hf) (dj.updF hm) ?_
  simp only [Dr]
  exact ⟨p, vs, rfl, upd_same, r.up (Same.updF hf)⟩
theorem new_tup {F M : Hp} {vs : List V} {ds : List D} {p : Addr} {Q : VK} {Qd : D → Prop} (dj : Dj F M) (r : DrL c F vs ds) (hp : HH F M p = none) (q : Qd (.tup ds)) (k : ∀ d v F', Qd d → Same F F' → Dj F' M → Dr c F' v d → Q v (HH F' M)) :
    Q (.ref p) (upd (HH F M) p (.tup vs)) := by
  obtain ⟨hf, hm⟩ := hh_none hp
  rw [hh_updF hm]
  refine k _ _ _ q (Same.updF hf) (dj.updF hm) ?_
  simp only [Dr]
  exact ⟨p, vs, rfl, upd_same, r.up (Same.updF hf)⟩
/-- list(x): a list or tuple -/
def qz : D → (D → Prop) → Prop
  | .lst ds, Q => Q (.lst ds)
  | .tup ds, Q => Q (.lst ds)
  | .scr ds, Q => Q (.lst ds)
  | _, _ => False
theorem ro1_list : Ro1 (cy X) (fun x H Q => ∃ p ys, [x] = [V.ref p] ∧ (SqL X.K H p ys ∨ SqT X.K H p ys) ∧ ∀ l, H l = none → Q (.ref l) (upd H l (.lst ys))) qz := fun {b F M x d1} Qd Q dj r1 hw k => by
  cases d1 with
  | lst ds =>
    obtain ⟨a, vs, rfl, _, h, r⟩ := r1.lst_of
    exact ⟨a, vs, rfl, .inl (SqL.of h), fun l hl => new_lst dj r hl hw k⟩
  | tup ds =>
    obtain ⟨a, vs, rfl, h, r⟩ := r1.tup_of
    exact ⟨a, vs, rfl, .inr (SqT.of (dj.f h)), fun l hl => new_lst dj r hl hw k⟩
  | scr ds =>
    obtain ⟨a, vs, rfl, h, r⟩ := r1.scr_of
    exact ⟨a, vs, rfl, .inl (dj.same.seq h), fun l hl => new_lst dj r hl hw k⟩
  | _ => exact hw.elim
/-- sorted of ints -/
def dSortI : D → (D → Prop) → Prop
  | .lst ds, Q => ∃ ns : List Int, ds = ns.map D.int ∧ ∀ ms : List Int, ms.Perm ns → ms.Pairwise (· ≤ ·) → Q (.lst (ms.map D.int))
  | _, _ => False
theorem ro1_sortI : Ro1 (cy X) (fun x H Q => rSortedI X.K [x] H Q) dSortI := fun {b F M x d1} Qd Q dj r1 hw k => by
  cases d1 with
  | lst ds =>
    obtain ⟨ns, rfl, q⟩ := hw
    obtain ⟨a, rfl, h⟩ := r1.ints
    exact ⟨a, ns, rfl, SqL.of h, fun ms p hp hs hn => new_lst (c := cy X) dj (DrL.of_ints ms) hn (q ms hp hs) k⟩
  | _ => exact hw.elim
/-- repr, where none is under way -/
def rRepr (K : PySem.W.Frag) : List V → Hp → VK → Prop := fun xs H Q => ∃ x d, xs = [x] ∧ Dp K H x d ∧ d.showable = true ∧ d.hasDict = false ∧ d.depth ≤ 60 ∧ d.shown.length ≤ sizeLine ∧ Q (.str d.shown) H
theorem call_repr (hgd : X.A.guards = some []) (hu : X.A.units + 64 < cLine) : CallR X (.builtin "repr") (rRepr X.K) := by
  intro pins s σ H xs us Q I r h
  obtain ⟨x, d, rfl, hd, hs, hn, hdp, hz, q⟩ := h
  obtain ⟨u, rfl, ru⟩ := vals1 r
  have fin : ∀ (h' : Heap) (t : Tok) (tk : Nat), (∀ b o, s.heap.get? b = some o → h'.get? b = some o) → EP X pins σ Q (.str d.shown t) { s with heap := h', toks := tk } := fun h' t tk hk => ⟨.str d.shown, H, I.kept hk, ⟨t, rfl⟩, q⟩
  cases hd with
  | non => cases ru; exact PySem.P.repr_of_none (fin _ _ _ fun _ _ e => e)
  | bl b => cases ru; exact PySem.P.repr_of_bool (fin _ _ _ fun _ _ e => e)
  | int i =>
    obtain ⟨t, rfl⟩ := ru
    exact PySem.P.repr_of_int (by simpa [PyData.showable] using hs) (fin _ _ _ fun _ _ e => e)
  | str z =>
    obtain ⟨t, rfl⟩ := ru
    exact PySem.P.repr_of_str (fin _ _ _ fun _ _ e => e) (by simpa only [PyData.shown] using hz)
  | lst h1 h2 =>
    obtain ⟨as, hr⟩ := Dp.reads I _ _ u (.lst h1 h2) ru
    cases ru
    exact repr_of_reads' hr hs (PyData.noDict_hsm hn) hgd (by omega) (fun _ _ e => e) (fun h' t tk hk => fin h' t tk hk) hz
  | tup h1 h2 =>
    obtain ⟨as, hr⟩ := Dp.reads I _ _ u (.tup h1 h2) ru
    cases ru
    exact repr_of_reads' hr hs (PyData.noDict_hsm hn) hgd (by omega) (fun _ _ e => e) (fun h' t tk hk => fin h' t tk hk) hz
/-- data that repr shows -/
structure Shw (d : D) : Prop where
  ok : okD d = true
  dep : depD d ≤ 60
  sh : (toPy d).showable = true
  sz : (toPy d).shown.length ≤ sizeLine
def dRepr : D → (D → Prop) → Prop := fun d Q => Shw d ∧ Q (.str (toPy d).shown)
theorem ro1_repr : Ro1 (cy X) (fun x H Q => rRepr X.K [x] H Q) dRepr := fun {b F M x d1} Qd Q dj r1 hw k => by
  obtain ⟨s, q⟩ := hw
  exact ⟨x, toPy d1, rfl, r1.dp dj s.ok, s.sh, PyData.hasDict_of_canLay _ (okD_lay d1 s.ok), by rw [depD_py d1 s.ok]; exact s.dep, s.sz, k _ _ F q (Same.refl _) dj .of_str⟩

/-! ### methods of texts -/
def dJoin : D → D → (D → Prop) → Prop
  | .str s, .lst ds, Q => ∃ ys : List Str, ds = ys.map D.str ∧ (ys.map (·.length)).sum + ys.length * s.length ≤ 16777216 ∧ Q (.str (Txt.join s ys))
  | _, _, _ => False
theorem DrL.strs {F : Hp} : ∀ {ns : List Str} {vs : List V}, DrL c F vs (ns.map D.str) → vs = ns.map V.str
  | [], vs, h => h.nil_iff
  | n :: ns, vs, h => by
    obtain ⟨u, vr, rfl, r, t⟩ := h.cons_iff
    rw [r.str_of, DrL.strs t]; rfl
theorem DrL.of_strs {F : Hp} : ∀ (ns : List Str), DrL c F (ns.map V.str) (ns.map D.str)
  | [] => .nil
  | n :: ns => .cons .of_str (DrL.of_strs ns)
theorem snd_m1 {r : V → List V → Hp → VK → Prop} {wr : D → D → (D → Prop) → Prop} (hs : ∀ d1 d2 Qd, wr d1 d2 Qd → ∃ s, d1 = .str s) (hr : Rop c (fun x y H Q => r x [y] H Q) wr) (ha : Snp c ta wa) (hb : Snp c tb wb)
    : Snd c (tM1 r ta tb) (fun ρ Q => wa ρ fun d1 ρ1 => (∃ s, d1 = .str s) ∧ wb ρ1 fun d2 ρ2 => wr d1 d2 fun d => Q d ρ2) := fun {b ρ σ F M M0} R Qd Q hw k => by
  refine ha R _ _ hw fun d1 ρ1 x F1 M1 M01 q1 A1 r1 => ?_
  obtain ⟨⟨s, rfl⟩, q1⟩ := q1
  refine ⟨⟨s, r1.str_of⟩, ?_⟩
  refine hb A1.rel _ _ q1 fun d2 ρ2 y F2 M2 M02 q2 A2 r2 => ?_
  refine hr (b := b) _ _ A2.rel.dj (r1.stay A2.same A2.ext) r2 q2 fun d v F' q s dj nf rv => ?_
  exact k d ρ2 v F' M2 M02 q ((A1.trans A2).trans (A2.rel.grow s dj)) rv
def wM1 (wr : D → D → (D → Prop) → Prop) (wa wb : WE) : WE := fun ρ Q => wa ρ fun d1 ρ1 => (∃ s, d1 = .str s) ∧ wb ρ1 fun d2 ρ2 => wr d1 d2 fun d => Q d ρ2
def rJoinU (K : PySem.W.Frag) : V → List V → Hp → VK → Prop := fun x xs H Q => ∃ (a : Str) (p : Addr), ∃ ys : List Str, x = .str a ∧ xs = [.ref p] ∧ (SqL K H p (ys.map V.str) ∨ SqT K H p (ys.map V.str)) ∧
  (ys.map (·.length)).sum + ys.length * a.length ≤ 16777216 ∧ Q (.str (Txt.join a ys)) H
def rSIndex : V → List V → Hp → VK → Prop := fun x xs H Q => ∃ (a b : Str) (i : Nat) (rest : List Nat), x = .str a ∧ xs = [.str b] ∧ Builtin.Str.occurrences a b 0 a.length 1 = i :: rest ∧ Q (.int (i : Nat)) H
theorem rop_join : Rop (cy X) (fun x y H Q => rJoinU X.K x [y] H Q) dJoin := fun {b F M x y d1 d2} Qd Q dj r1 r2 hw k => by
  cases d1 with
  | str s =>
    cases d2 with
    | lst ds =>
      obtain ⟨ys, rfl, hz, q⟩ := hw
      obtain ⟨a, vs, rfl, _, h, r⟩ := r2.lst_of
      rw [r.strs] at h
      exact ⟨s, a, ys, r1.str_of, rfl, .inl (SqL.of h), hz, k _ _ F q (Same.refl _) dj (fun _ f _ => f) .of_str⟩
    | _ => exact hw.elim
  | _ => exact hw.elim
theorem de_join {apos : Pos} (ho : DP X a ta wa) (he : DP X a' tb wb) (hs : starEach [a'] X.env = [(false, eval a' X.env)] := by rfl) (hbase : attributeBase a "join" X.env (eval a X.env) = eval a X.env := by rfl) (hline : (apos.endLine == pos.line) = true := by rfl) :
    DE X (.Call (.Attribute a "join" apos) [a'] [] pos) (tM1 (rJoinU X.K) ta tb) (wM1 dJoin wa wb) := ⟨pe_join ho.pe he.pe hs hbase hline, snd_m1 (fun d1 d2 Qd h => by cases d1 <;> first | exact ⟨_, rfl⟩ | exact h.elim) rop_join ho.sn he.sn⟩
def dSIndex : D → D → (D → Prop) → Prop
  | .str s, .str t, Q => ∃ i rest, Builtin.Str.occurrences s t 0 s.length 1 = i :: rest ∧ Q (.int (i : Nat))
  | _, _, _ => False
theorem rop_sindex : Rop c (fun x y H Q => rSIndex x [y] H Q) dSIndex := fun {b F M x y d1 d2} Qd Q dj r1 r2 hw k => by
  cases d1 with
  | str s =>
    cases d2 with
    | str t =>
      obtain ⟨i, rest, h, q⟩ := hw
      rw [r2.str_of]
      exact ⟨s, t, i, rest, r1.str_of, rfl, h, k _ _ F q (Same.refl _) dj (fun _ f _ => f) .of_int⟩
    | _ => exact hw.elim
  | _ => exact hw.elim
theorem de_sindex {apos : Pos} (ho : DP X a ta wa) (he : DP X a' tb wb) (hs : starEach [a'] X.env = [(false, eval a' X.env)] := by rfl) (hbase : attributeBase a "index" X.env (eval a X.env) = eval a X.env := by rfl) (hline : (apos.endLine == pos.line) = true := by rfl) :
    DE X (.Call (.Attribute a "index" apos) [a'] [] pos) (tM1 rSIndex ta tb) (wM1 dSIndex wa wb) := ⟨pe_m1 PySem.F.slot_str_index PySem.F.type_str_index mt_sindex ho.pe he.pe hs hbase hline, snd_m1 (fun d1 d2 Qd h => by cases d1 <;> first | exact ⟨_, rfl⟩ | exact h.elim) rop_sindex ho.sn he.sn⟩

/-! ### slices -/
abbrev WO := List Sl → (Option Int → List Sl → Prop) → Prop
def Sno (c : Cy) (to : TO) (w : WO) : Prop := ∀ {b : Option Addr} {ρ : List Sl} {σ : L2.St} {F M M0 : Hp}, Rel c b ρ σ F M M0 → ∀ (Qd : Option Int → List Sl → Prop) (Q : Option Int → Hp → Prop), w ρ Qd →
  (∀ o ρ' F' M' M0', Qd o ρ' → Aft c b F M M0 ρ' σ F' M' M0' → Q o (HH F' M')) → to σ (HH F M) Q
structure DO (X : Cx) (e : Option Expr) (t : TO) (w : WO) : Prop where
  po : PO X e t
  sn : Sno (cy X) t w
def woNone : WO := fun ρ Q => Q none ρ
def woSome (w : WE) : WO := fun ρ Q => w ρ fun d ρ1 => match d with
  | .int i => Q (some i) ρ1
  | _ => False
theorem do_none : DO X none tNoPart woNone := ⟨po_none, fun {b ρ σ F M M0} R Qd Q hw k => k none ρ F M M0 hw R.aft⟩
theorem do_some (h : DE X e te w) : DO X (some e) (tPart te) (woSome w) := ⟨po_some h.pe, fun {b ρ σ F M M0} R Qd Q hw k => by
  refine h.sn R _ _ hw fun d ρ1 v F1 M1 M01 q A r => ?_
  cases d with
  | int i => exact ⟨i, r.int_of, k _ ρ1 F1 M1 M01 q A⟩
  | _ => exact q.elim⟩
/-- x[lo:hi] of data -/
def cutD {α : Type} (xs : List α) (lo hi : Option Int) : List α := (xs.drop (HT.sIx xs.length 0 lo)).take (HT.sIx xs.length xs.length hi - HT.sIx xs.length 0 lo)
def q9 (lo hi : Option Int) : D → (D → Prop) → Prop
  | .lst ds, Q => Q (.lst (cutD ds lo hi))
  | .str z, Q => z.length ≤ sizeLine ∧ Q (.str (cutS z lo hi))
  | _, _ => False
def rSlU (K : PySem.W.Frag) : V → Option Int → Option Int → Hp → VK → Prop := fun x lo hi H Q => rSlL K x lo hi H Q ∨ rSlS x lo hi H Q
theorem sl_U : SlR X (rSlU X.K) := SlR.or sl_list sl_str
def wCut (w : WE) (wl wh : WO) : WE := fun ρ Q => w ρ fun d ρ1 => wl ρ1 fun lo ρ2 => wh ρ2 fun hi ρ3 => q9 lo hi d fun d' => Q d' ρ3
theorem de_cut {lo hi : Option Expr} {tl th : TO} {wl wh : WO} {p2 : Pos} (he : DP X e te w) (hl : DO X lo tl wl) (hh : DO X hi th wh) : DE X (.Subscript e (.Slice lo hi none p2) pos) (tSl (rSlU X.K) te tl th) (wCut w wl wh) :=
  ⟨pe_slice sl_U he.pe hl.po hh.po, fun {b ρ σ F M M0} R Qd Q hw k => by
    refine he.sn R _ _ hw fun d ρ1 v F1 M1 M01 q1 A1 r1 => ?_
    refine hl.sn A1.rel _ _ q1 fun lo ρ2 F2 M2 M02 q2 A2 => ?_
    refine hh.sn A2.rel _ _ q2 fun hi ρ3 F3 M3 M03 q3 A3 => ?_
    have r3 := (r1.stay A2.same A2.ext).stay A3.same A3.ext
    have A := (A1.trans A2).trans A3
    cases d with
    | lst ds =>
      obtain ⟨a, vs, rfl, _, h, r⟩ := r3.lst_of
      refine .inl ⟨a, vs, rfl, SqL.of h, fun p hp => ?_⟩
      have e : DrL (cy X) F3 (cutV vs lo hi) (cutD ds lo hi) := by
        unfold cutV cutD
        rw [r.length]
        exact (r.drop _).take _
      refine new_lst (Qd := fun d => Qd d ρ3) A.rel.dj e hp q3 fun d v F' q s dj rv => k d ρ3 v F' M3 M03 q (A.trans (A.rel.grow s dj)) rv
    | str z =>
      exact .inr ⟨z, r3.str_of, q3.1, k _ ρ3 _ F3 M3 M03 q3.2 A .of_str⟩
    | _ => exact q3.elim⟩

/-! ### truth -/
def qC : D → (Bool → Prop) → Prop
  | .non, Q => Q false
  | .bl b, Q => Q b
  | .int i, Q => Q (i != 0)
  | .str z, Q => z.length ≤ sizeLine ∧ Q ((z.length : Int) != 0)
  | .lst ds, Q => Q (!ds.isEmpty)
  | .tup ds, Q => Q (!ds.isEmpty)
  | _, _ => False
def wTru (w : WE) : WT := fun ρ Q => w ρ fun d ρ1 => qC d fun k => Q k ρ1
theorem DrL.empty {F : Hp} {vs : List V} {ds : List D} (r : DrL c F vs ds) : vs.isEmpty = ds.isEmpty := by
  cases ds with
  | nil => rw [r.nil_iff]; rfl
  | cons d ds => obtain ⟨v, vr, rfl, _⟩ := r.cons_iff; rfl
theorem dt_truth (h : DP X e te w) (he : ∀ whole, isTrue e X.env whole = (do let v ← whole; standAt e.pos; holding [v] (truthy v)) := by intro _; rfl) : DT X e (fun σ H Q => te σ H fun x H' => ∃ k, TruV X.K x H' k ∧ Q k H') (wTru w) :=
  ⟨pt_truth h.pe he, fun {b ρ σ F M M0} R Qd Q hw k => by
    refine h.sn R _ _ hw fun d ρ1 v F1 M1 M01 q A r => ?_
    cases d with
    | non => rw [r.non_of]; exact ⟨false, rfl, k _ _ _ _ _ q A⟩
    | bl j => rw [r.bl_of]; exact ⟨j, rfl, k _ _ _ _ _ q A⟩
    | int i => rw [r.int_of]; exact ⟨_, rfl, k _ _ _ _ _ q A⟩
    | str z => rw [r.str_of]; exact ⟨_, ⟨q.1, rfl⟩, k _ _ _ _ _ q.2 A⟩
    | lst ds =>
      obtain ⟨a, vs, rfl, _, hq, rl⟩ := r.lst_of
      exact ⟨!vs.isEmpty, .inl ⟨vs, SqL.of hq, rfl⟩, by rw [rl.empty]; exact k _ _ _ _ _ q A⟩
    | tup ds =>
      obtain ⟨a, vs, rfl, hq, rl⟩ := r.tup_of
      exact ⟨!vs.isEmpty, .inr (.inl ⟨vs, SqT.of (A.rel.dj.f hq), rfl⟩), by rw [rl.empty]; exact k _ _ _ _ _ q A⟩
    | _ => exact q.elim⟩

/-! ### over a text, with enumerate, zip -/
def signsD (z : Str) : List D := z.cps.toList.map fun n => D.str ⟨#[n]⟩
def wItS (w : WE) : WA := fun ρ Q => w ρ fun d ρ1 => match d with
  | .str z => Q (signsD z) ρ1
  | _ => False
theorem its_ok {F : Hp} (z : Str) : ItOk c (Its z) F (signsD z) := fun F' M' s dj _ i => by
  refine ⟨fun d hd => ?_, fun e => ?_⟩
  · unfold signsD at hd
    rw [List.getElem?_map] at hd
    cases e : z.cps.toList[i]? with
    | none => rw [e] at hd; cases hd
    | some n =>
      rw [e] at hd
      have ed : D.str ⟨#[n]⟩ = d := Option.some.inj hd
      subst ed
      have hi : i < z.cps.size := by
        have := (List.getElem?_eq_some_iff.mp e).1
        simpa using this
      refine ⟨hi, fun x H3 hy => ?_⟩
      obtain ⟨rfl, n', hn', rfl⟩ := hy
      have e2 : z.cps[i]? = some n := by simpa using e
      rw [hn'] at e2
      rw [Option.some.inj e2]
      exact ⟨F', rfl, Same.refl _, dj, .of_str⟩
  · show z.cps.size ≤ i
    unfold signsD at e
    simp at e
    omega
theorem di_str {tg : Expr} (h : DE X e te w) : DI X tg e (iStr te) (wItS w) := ⟨pi_str h.pe, fun {b ρ σ F M M0} R Qd Q hw k => by
  refine h.sn R _ _ hw fun d ρ1 v F1 M1 M01 q A r => ?_
  cases d with
  | str z => exact ⟨z, r.str_of, k _ ρ1 _ F1 M1 M01 q A (its_ok z)⟩
  | _ => exact q.elim⟩

/-! ### own objects change -/
/-- name.append(e) -/
def wApp (i : Nat) (w : WE) : WS := fun ρ E => match ρ[i]? with
  | some (.ol _) => w ρ fun d ρ1 => match ρ1[i]? with
    | some (.ol ds) => ds.length < sizeLine ∧ E.nx (ρ1.set i (.ol (ds ++ [d])))
    | _ => False
  | _ => False
/-- an own slot keeps its address -/
theorem Rel.ownL {b : Option Addr} {ρ : List Sl} {σ : L2.St} {F M M0 : Hp} {i : Nat} {ds : List D} (R : Rel c b ρ σ F M M0) (e : ρ[i]? = some (.ol ds)) :
    ∃ a vs, σ[i]? = some (some (.ref a)) ∧ DrL c F vs ds ∧ F a = none ∧ HH F M a = some (.lst vs) ∧ ∀ ds' vs', DrL c F vs' ds' → Rel c b (ρ.set i (.ol ds')) σ F (upd M a (.lst vs')) M0 := by
  obtain ⟨a, o, M', h1, h2, h3, h4, h5, h6, h7, h8⟩ := R.env.own e trivial
  obtain ⟨vs, rfl, r⟩ := h2
  refine ⟨a, vs, h1, r, h3, hh_m (by rw [h5]; exact upd_same), fun ds' vs' r' => ⟨R.dj.updM h3, ?_, R.box, R.lk⟩⟩
  have t := h8 (.ol ds') (.lst vs') trivial ⟨vs', rfl, r'⟩
  rw [h5, upd_upd]
  exact t
theorem Rel.fixed {b : Option Addr} {ρ' : List Sl} {σ : L2.St} {F M M0 F' M' M0' : Hp} {i : Nat} {a : Addr} {ds' : List D} (_ : Aft c b F M M0 ρ' σ F' M' M0') (h : σ[i]? = some (some (.ref a))) (R : Rel c b ρ' σ F' M' M0') (e : ρ'[i]? = some (.ol ds')) :
    ∃ vs, DrL c F' vs ds' ∧ F' a = none ∧ HH F' M' a = some (.lst vs) ∧ ∀ ds' vs', DrL c F' vs' ds' → Rel c b (ρ'.set i (.ol ds')) σ F' (upd M' a (.lst vs')) M0' := by
  obtain ⟨a', vs, h1, h2, h3, h4, h5⟩ := R.ownL e
  rw [h] at h1
  have ea : a = a' := by injection h1 with h1; injection h1 with h1; injection h1
  subst ea
  exact ⟨vs, h2, h3, h4, h5⟩
theorem sns_app {i : Nat} (he : Snd c te w) : Sns c (tDrop (tBM c.K "list" rAppend (tVar i) (tCons te tNil))) (wApp i w) := fun {b ρ σ F M M0} R E Dn hw f => by
  unfold wApp at hw
  cases e0 : ρ[i]? with
  | none => simp only [e0] at hw
  | some s0 =>
    simp only [e0] at hw
    cases s0 with
    | ol ds0 =>
      obtain ⟨a, vs0, h1, h2, h3, h4, h5⟩ := R.ownL e0
      refine ⟨.ref a, h1, .inl ⟨rfl, vs0, SqL.of h4⟩, ?_⟩
      refine he R _ _ hw fun d ρ1 v F1 M1 M01 q A r => ?_
      cases e1 : ρ1[i]? with
      | none => simp only [e1] at q
      | some sl =>
        simp only [e1] at q
        cases sl with
        | ol ds =>
          obtain ⟨vs, k2, k3, k4, k5⟩ := A.rel.fixed A h1 e1
          refine ⟨a, vs, v, rfl, rfl, k4, by rw [k2.length]; exact q.1, ?_⟩
          rw [hh_updM]
          exact f.nx _ _ F1 _ M01 q.2 A.same (k5 (ds ++ [d]) (vs ++ [v]) (k2.append (.cons r .nil))) A.mr
        | _ => exact q.elim
    | _ => exact hw.elim
theorem ds_append {i : Nat} {xn : Str} {np apos cpos spos : Pos} (he : DE X e te w) (hN : X.N[i]? = some xn := by rfl) (hv : Vis X.env.scope xn := by first | exact Or.inl rfl | exact Or.inr (Or.inl rfl) | exact Or.inr (Or.inr rfl))
    (hd : (xn == ("__debug__" : Str)) = false := by decide) (hcd : (xn == ("__classdict__" : Str)) = false := by decide)
    (hbase : attributeBase (.Name xn np) "append" X.env (eval (.Name xn np) X.env) = eval (.Name xn np) X.env := by rfl)
    (hfew : ((backTo cpos (starEach (e :: []) X.env)).all (fun x => !x.1) && (backToKw cpos (keywordEach [] X.env)).all (fun x => x.1.isSome)
      && decide ((e :: []).length + ([] : List Keyword).length + (if ([] : List Keyword).isEmpty then 0 else 1) < 30)) = true := by rfl)
    (hline : (apos.endLine == cpos.line) = true := by rfl) (hs : starEach (e :: []) X.env = (false, eval e X.env) :: starEach [] X.env := by rfl) (hplain : (backTo cpos (starEach [] X.env)).any (·.1) = false := by rfl)
    (hsw : swapsWith (.Call (.Attribute (.Name xn np) "append" apos) [e] [] cpos) none spos.line X.env = pure false := by rfl) :
    DS X (.Expr (.Call (.Attribute (.Name xn np) "append" apos) [e] [] cpos) spos) (tDrop (tBM X.K "list" rAppend (tVar i) (tCons te tNil))) (wApp i w) :=
  ⟨ps_expr (pe_bm PySem.F.plainAttrs_list PySem.F.slot_list_append PySem.F.type_list_append mt_append (pe_var hN hv hd hcd) (pa_cons he.pe pa_nil hs) hbase hfew hline hs hplain) hsw, sns_app (c := cy X) he.sn⟩
end
end DL

/-! The box of digits; the law's first statement; small things. -/
namespace DL
open PySem PySem.Spec PyProof.Rows L2
variable [Lk]

theorem hu65 {A : Around} {k : Nat} (hr : Room k A) : A.units + 65 < cLine := by have := hr.un; omega
def dNeg : D → (D → Prop) → Prop := fun d Q => match d with | .int i => Q (.int (-i)) | _ => False
section
variable {c : Cy} {X : Cx} {e a b' : Expr} {te ta tb : TE} {w wa wb : WE} {pos : Pos}
theorem ro1_dNeg : Ro1 c (rU fun i => .int (-i)) dNeg := ro1_neg
theorem dt_chain {op op' : CmpOp} {c' : Expr} {tc : TE} {wc : WE} {r r' : R2} {wr wr' : D → D → (D → Prop) → Prop} (ho : OpR X (compareOp op) r) (ho' : OpR X (compareOp op') r') (hr : Rop (cy X) r wr) (hr' : Rop (cy X) r' wr') (ha : DP X a ta wa) (hb : DP X b' tb wb) (hc : DP X c' tc wc)
    (h : PE X a ta → PE X b' tb → PE X c' tc → PT X (.Compare a [op, op'] [b', c'] pos) (tTest (tChain r r' ta tb tc))) : DT X (.Compare a [op, op'] [b', c'] pos) (tTest (tChain r r' ta tb tc)) (wTst (wChain wr wr' wa wb wc)) :=
  ⟨h ha.pe hb.pe hc.pe, snt_test (snd_chain hr hr' ha.sn hb.sn hc.sn)⟩

/-! ### the box -/
theorem Rel.bx {b : Option Addr} {ρ : List Sl} {σ : L2.St} {F M M0 : Hp} {i : Nat} (R : Rel c b ρ σ F M M0) (e : ρ[i]? = some .bx) :
    ∃ (x da : Addr) (ns : List Int) (n : Int), b = some x ∧ σ[i]? = some (some (.ref x)) ∧ HH F M x = some (.lst [.ref da, .int n]) ∧ F da = some (.lst (ns.map V.int)) ∧ 0 ≤ n ∧ (M0 x).isSome = true ∧ M x = some (.lst [.ref da, .int n]) := by
  obtain ⟨x, h1, h2⟩ := R.env.getB e
  obtain ⟨da, ns, n, q1, q2, q3⟩ := R.box x h1
  have q4 := R.env.sub _ _ q1
  exact ⟨x, da, ns, n, h1, h2, hh_m q4, q2, q3, by rw [q1]; rfl, q4⟩
/-- box[1], box[0] -/
def wBx1 (i : Nat) : WE := fun ρ Q => ρ[i]? = some .bx ∧ ∀ n : Int, 0 ≤ n → Q (.int n) ρ
def wBx0 (i : Nat) : WE := fun ρ Q => ρ[i]? = some .bx ∧ ∀ ns : List Int, Q (.lst (ns.map D.int)) ρ
theorem snd_bx1 {i : Nat} : Snd (cy X) (tOp (rIxU X.K) (tVar i) (tC (.int 1))) (wBx1 i) := fun {b ρ σ F M M0} R Qd Q hw k => by
  obtain ⟨x, da, ns, n, h1, h2, h3, h4, h5, h6⟩ := R.bx hw.1
  exact ⟨.ref x, h2, .inl (.inl ⟨x, _, 1, .int n, rfl, rfl, SqL.of h3, rfl, k _ ρ _ F M M0 (hw.2 n h5) R.aft .of_int⟩)⟩
theorem snd_bx0 {i : Nat} : Snd (cy X) (tOp (rIxU X.K) (tVar i) (tC (.int 0))) (wBx0 i) := fun {b ρ σ F M M0} R Qd Q hw k => by
  obtain ⟨x, da, ns, n, h1, h2, h3, h4, h5, h6⟩ := R.bx hw.1
  refine ⟨.ref x, h2, .inl (.inl ⟨x, _, 0, .ref da, rfl, rfl, SqL.of h3, rfl, k _ ρ _ F M M0 (hw.2 ns) R.aft ?_⟩)⟩
  simp only [Dr]
  exact ⟨da, _, rfl, h4, .of_ints ns⟩
theorem de_bx1 (i : Nat) {x : Str} {np p1 pos : Pos} {j} (hu : X.A.units + 1 < cLine) (hN : X.N[i]? = some x := by rfl) (hv : Vis X.env.scope x := by first | exact Or.inl rfl | exact Or.inr (Or.inl rfl) | exact Or.inr (Or.inr rfl)) (hd : (x == ("__debug__" : Str)) = false := by decide)
    (hcd : (x == ("__classdict__" : Str)) = false := by decide) : DE X (.Subscript (.Name x np) (.Constant (.int 1) j p1) pos) (tOp (rIxU X.K) (tVar i) (tC (.int 1))) (wBx1 i) :=
  ⟨pe_ix (ix_U hu) (pe_var hN hv hd hcd) pe_int (fun _ _ => rfl), snd_bx1⟩
theorem de_bx0 (i : Nat) {x : Str} {np p1 pos : Pos} {j} (hu : X.A.units + 1 < cLine) (hN : X.N[i]? = some x := by rfl) (hv : Vis X.env.scope x := by first | exact Or.inl rfl | exact Or.inr (Or.inl rfl) | exact Or.inr (Or.inr rfl)) (hd : (x == ("__debug__" : Str)) = false := by decide)
    (hcd : (x == ("__classdict__" : Str)) = false := by decide) : DE X (.Subscript (.Name x np) (.Constant (.int 0) j p1) pos) (tOp (rIxU X.K) (tVar i) (tC (.int 0))) (wBx0 i) :=
  ⟨pe_ix (ix_U hu) (pe_var hN hv hd hcd) pe_int (fun _ _ => rfl), snd_bx0⟩
/-- box[1] = e -/
def wBxPut (i : Nat) (w : WE) : WS := fun ρ E => w ρ fun d ρ1 => ρ1[i]? = some .bx ∧ match d with
  | .int n => 0 ≤ n ∧ E.nx ρ1
  | _ => False
theorem ds_bxPut (i : Nat) {x : Str} {np p1 sp pos : Pos} {j} (he : DE X e te w) (hs : swapsWithSole [.Subscript (.Name x np) (.Constant (.int 1) j p1) sp] e pos.line X.env = pure false := by rfl) (hw : swappedStores [.Subscript (.Name x np) (.Constant (.int 1) j p1) sp] e X.env = pure none := by rfl)
    (h1 : (assignEach [.Subscript (.Name x np) (.Constant (.int 1) j p1) sp] X.env).map (·.2) = [assign (.Subscript (.Name x np) (.Constant (.int 1) j p1) sp) X.env] := by rfl)
    (hN : X.N[i]? = some x := by rfl) (hv : Vis X.env.scope x := by first | exact Or.inl rfl | exact Or.inr (Or.inl rfl) | exact Or.inr (Or.inr rfl)) (hd : (x == ("__debug__" : Str)) = false := by decide)
    (hcd : (x == ("__classdict__" : Str)) = false := by decide) : DS X (.Assign [.Subscript (.Name x np) (.Constant (.int 1) j p1) sp] e pos) (tAsg te (gSub (tVar i) (tC (.int 1)) rSetL)) (wBxPut i w) :=
  ⟨ps_asg he.pe (pg_sub (pe_var hN hv hd hcd) pe_int set_list) hs hw h1, fun {b ρ σ F M M0} R E Dn hw f => by
    refine he.sn R _ _ hw fun d ρ1 v F1 M1 M01 q A r => ?_
    obtain ⟨e1, q⟩ := q
    cases d with
    | int m =>
      obtain ⟨x, da, ns, n, h1, h2, h3, h4, h5, h6, h7⟩ := A.rel.bx e1
      refine ⟨.ref x, h2, x, _, 1, 1, rfl, rfl, h3, rfl, ?_⟩
      rw [r.int_of]
      show Dn.nx σ (upd (HH F1 M1) x (.lst [.ref da, .int m]))
      rw [hh_updM]
      have fx := A.rel.dj _ _ h7
      refine f.nx ρ1 σ F1 _ (upd M01 x (.lst [.ref da, .int m])) q.2 A.same ⟨A.rel.dj.updM fx, RelE.frame (fun xs z => by cases z) A.rel.env (.inr h6), fun y hy => ?_, A.rel.lkM (.refl _) fun y hy => upd_ne fun ey => hy (by rw [ey]; exact h1)⟩ (A.mr.trans fun y hy => ?_)
      · have ey : y = x := by rw [h1] at hy; exact (Option.some.inj hy).symm
        subst ey
        exact ⟨da, ns, m, upd_same, h4, q.1⟩
      · refine upd_ne fun ey => hy ?_
        rw [ey]; exact h1
    | _ => exact q.elim⟩
/-- the draw: if at < len(box[0]): return int(box[0][at]) % many -/
def wDraw (i j k : Nat) : WS := fun ρ E => ρ[i]? = some .bx ∧ ∃ a n : Int, ρ[j]? = some (.sh (.int a)) ∧ ρ[k]? = some (.sh (.int n)) ∧ 0 ≤ a ∧ 0 < n ∧ (∀ r : Int, 0 ≤ r → r < n → E.rt (.int r) ρ) ∧ E.nx ρ
abbrev tBx0 (X : Cx) (i : Nat) : TE := tOp (rIxU X.K) (tVar i) (tC (.int 0))
abbrev tDraw (X : Cx) (i j k : Nat) : TS := tIfS (tTest (tOp (rI0 fun i j => .bl (decide (i < j))) (tVar j) (tCB (rLenU X.K) (tCons (tBx0 X i) tNil)))) (tRet (tOp (rI (fun _ j => 0 < j) fun i j => .int (i % j))
      (tCB (fun xs H Q => (∃ i, xs = [V.int i] ∧ Q (.int i) H) ∨ ∃ k, xs = [V.bl k] ∧ Q (.int (if k then 1 else 0)) H) (tCons (tOp (rIxU X.K) (tBx0 X i) (tVar j)) tNil)) (tVar k))) tNext
theorem ds_drawIf (i j k : Nat) {st : Stmt} {w0 : WS} (h : DS X st (tDraw X i j k) w0) : DS X st (tDraw X i j k) (wDraw i j k) := ⟨h.ps, fun {b ρ σ F M M0} R E Dn hw f => by
  obtain ⟨e1, at', n, e2, e3, h0, hn, q1, q2⟩ := hw
  obtain ⟨x, da, ns, n1, b1, b2, b3, b4, b5, b6, b7⟩ := R.bx e1
  obtain ⟨va, a1, a2⟩ := R.env.get e2
  obtain ⟨vn, n1', n2⟩ := R.env.get e3
  rw [a2.int_of] at a1
  rw [n2.int_of] at n1'
  have hda := SqL.of (K := X.K) (R.dj.f b4)
  have bx0 : ∀ Q : VK, Q (.ref da) (HH F M) → tBx0 X i σ (HH F M) Q := fun Q q => ⟨.ref x, b2, .inl (.inl ⟨x, _, 0, .ref da, rfl, rfl, SqL.of b3, rfl, q⟩)⟩
  refine ⟨.int at', a1, ?_⟩
  refine bx0 _ (.inl ⟨_, ns.length, rfl, .inl ⟨_, hda, by rw [List.length_map]⟩, at', _, rfl, rfl, _, rfl, ?_⟩)
  by_cases hc : at' < ns.length
  · show (if decide (at' < (ns.length : Int)) = true then _ else _)
    rw [if_pos (decide_eq_true hc)]
    refine bx0 _ ⟨.int at', a1, ?_⟩
    have hl : at'.toNat < ns.length := by omega
    refine .inl (.inl ⟨da, _, at', .int ns[at'.toNat], rfl, rfl, hda, ?_, .inl ⟨_, rfl, .int n, n1', _, n, rfl, rfl, hn, ?_⟩⟩)
    · unfold atI ixN
      rw [if_pos h0, if_pos (by rw [List.length_map]; exact hc)]
      show (ns.map V.int)[at'.toNat]? = _
      rw [List.getElem?_map, List.getElem?_eq_getElem hl]; rfl
    · exact f.rt _ _ ρ σ F M M0 (q1 _ (Int.emod_nonneg _ (by omega)) (Int.emod_lt_of_pos _ hn)) (Same.refl _) R (MR.refl _ _) .of_int
  · show (if decide (at' < (ns.length : Int)) = true then _ else _)
    rw [if_neg (by rw [decide_eq_false hc]; exact Bool.false_ne_true)]
    exact f.nx ρ σ F M M0 q2 (Same.refl _) R (MR.refl _ _)⟩
end

/-! ### the law -/
section
variable {c : Cy} {b : Option Addr} {F M0 : Hp}
theorem RelE.setBx {x : Addr} (q : b = some x) : ∀ {ρ : List Sl} {σ : L2.St} {M : Hp} {i : Nat} {sl : Sl}, RelE c b F M0 ρ σ M → ρ[i]? = some sl → ¬ isOwn sl → RelE c b F M0 (ρ.set i .bx) (σ.set i (some (.ref x))) M
  | [], σ, M, i, sl, h, e, _ => by simp at e
  | s1 :: ρ, σ, M, 0, sl, h, e, hs => by
    obtain ⟨v, σr, e1, h⟩ := h
    simp at e; subst e; subst e1
    refine ⟨some (.ref x), σr, rfl, ⟨x, q, rfl⟩, ?_⟩
    cases s1 <;> first | exact h | exact h.2 | exact (hs trivial).elim
  | s1 :: ρ, σ, M, i + 1, sl, h, e, hs => by
    obtain ⟨v, σr, e1, h⟩ := h
    subst e1
    have e' : ρ[i]? = some sl := by simpa using e
    refine ⟨v, σr.set i (some (.ref x)), rfl, ?_⟩
    have own : ∀ s2 : Sl, (∃ a o M', v = some (.ref a) ∧ ObR c F s2 o ∧ F a = none ∧ M' a = none ∧ M = upd M' a o ∧ RelE c b F M0 ρ σr M') →
        ∃ a o M', v = some (.ref a) ∧ ObR c F s2 o ∧ F a = none ∧ M' a = none ∧ M = upd M' a o ∧ RelE c b F M0 (ρ.set i .bx) (σr.set i (some (.ref x))) M' := fun s2 h => by
      obtain ⟨a, o, M', k1, k2, k3, k4, k5, t⟩ := h
      exact ⟨a, o, M', k1, k2, k3, k4, k5, RelE.setBx q t e' hs⟩
    cases s1 with
    | no => exact RelE.setBx q h e' hs
    | sh d => exact ⟨h.1, RelE.setBx q h.2 e' hs⟩
    | bx => exact ⟨h.1, RelE.setBx q h.2 e' hs⟩
    | ol ds => exact own (.ol ds) h
    | ok ks ds => exact own (.ok ks ds) h
    | ot ks ds => exact own (.ot ks ds) h
    | oi n fs ds => exact own (.oi n fs ds) h
    | od y t0 =>
      obtain ⟨Mo, M', k1, k2, k3, k4, t⟩ := h
      exact ⟨Mo, M', k1, k2, k3, k4, RelE.setBx q t e' hs⟩
theorem ints_ref {ns : List Int} {x : Addr} {r : List V} (h : ns.map V.int = .ref x :: r) : False := by
  cases ns with
  | nil => cases h
  | cons n ns => cases h
end
section
variable {P : Program} {w : World} {K : PySem.W.Frag} {mg : Str → Option Value} {base : Heap}
def scrD (ns : List Int) : Sl := .sh (.scr (ns.map D.int))
/-- THE LAW: its first statement makes the box; the rest has it -/
theorem law_boxE {x0 qual x : Str} {st : Stmt} {f : Addr} {fd : FuncData} {N : List Str} {k i n : Nat} (FF : Fun K x0 qual st f fd) (S : FnScope N [x] (defScope st)) (hN : N.length = n + 1) (hi : i < n + 1) {y : Str} {py spos : Pos} {e0 : Expr} {rest : List Stmt} (hsp : defBody st = .Assign [.Name y py] e0 spos :: rest)
    (hbody : ∀ (cdv : Value) (A : Around) (outer : List Env) (s : Shared) (H : Hp), Room k (A.deeper (envOfC qual (defScope st) s.heap.objs.size f cdv)) → (A.deeper (envOfC qual (defScope st) s.heap.objs.size f cdv)).guards = some [] →
      letI := Lk.top
      ∃ (t0 : TE) (w0 : WE) (t1 : TS) (w1 : WS), DE (cxOf CX0 P w K mg base N qual (defScope st) f cdv A outer s H E0).nox e0 t0 w0 ∧ DSs (cxOf CX0 P w K mg base N qual (defScope st) f cdv A outer s H E0).nox rest t1 w1 ∧
        (PE (cxOf CX0 P w K mg base N qual (defScope st) f cdv A outer s H E0).nox e0 t0 → PSs (cxOf CX0 P w K mg base N qual (defScope st) f cdv A outer s H E0).nox rest t1 →
          PSs (cxOf CX0 P w K mg base N qual (defScope st) f cdv A outer s H E0).nox (defBody st) (tSeq (tAsg t0 (gName i)) t1)) ∧
        (∀ ns : List Int, w0 (scrD ns :: List.replicate n .no) fun d ρ => ρ = scrD ns :: List.replicate n .no ∧ ∃ ms : List Int, d = .lst [.lst (ms.map D.int), .int 0]) ∧
        ∀ ns : List Int, w1 ((scrD ns :: List.replicate n .no).set i .bx) { nx := fun _ => False, rt := fun d _ => d = .bl true }) :
    FnG P w K mg base (k + 1) f fd [x] (spLaw K) := by
  refine fnG_of FF S (fun vs H Q E h => ?_) (fun cdv A outer s H vs Q hr hgd h => ?_)
  · obtain ⟨a, ns, rfl, _⟩ := h; rfl
  · obtain ⟨a, ns, rfl, hS, hl, hQ⟩ := h
    letI := Lk.top
    obtain ⟨t0, w0, t1, w1, h0, h1, hp, p0, p1⟩ := hbody cdv A outer s H hr hgd
    refine ⟨_, hp h0.pe h1.ps, ?_⟩
    have eH : H = HH H (fun _ => none) := funext fun y => (hh_n rfl).symm
    have eS : startD N [scrD ns] = scrD ns :: List.replicate n .no := by unfold startD; rw [hN]; rfl
    have ar : ArgsD ⟨K, mg⟩ none H [scrD ns] [.ref a] := ⟨_, _, rfl, by show Dr _ _ _ (.scr _); simp only [Dr]; exact ⟨a, _, rfl, hS, .of_ints ns⟩, rfl⟩
    have R := start_rel (N := N) (K := K) (mg := mg) (b := none) (F := H) (M := fun _ => none) (fun x u q => nomatch q) ⟨(fun x q => nomatch q), (fun _ _ z => nomatch z)⟩ ar trivial
    rw [eS] at R
    show t0 (L2.start N [.ref a]) H _
    rw [eH]
    refine h0.sn R _ _ (p0 ns) fun d ρ' v F' M' M0' q AA r => ?_
    obtain ⟨rfl, ms, rfl⟩ := q
    simp only [Dr] at r
    obtain ⟨x, us, rfl, hx, r⟩ := r
    obtain ⟨u1, us, rfl, r1, r⟩ := r.cons_iff
    obtain ⟨u2, us, rfl, r2, r⟩ := r.cons_iff
    have eu := r.nil_iff
    subst eu
    have eu2 := r2.int_of
    subst eu2
    simp only [Dr] at r1
    obtain ⟨da, uu, rfl, hda, r1⟩ := r1
    have euu := r1.ints
    subst euu
    have eM0 : M0' = fun _ => none := funext fun y => AA.mr y (fun z => nomatch z)
    have key : M' = M0' ∧ SqL K F' a (ns.map V.int) := by
      obtain ⟨v0, σr, e1, ⟨⟨y, e2, hy⟩, t⟩⟩ := AA.rel.env
      have nos : ∀ (m : Nat) (τ : L2.St) (N1 : Hp), RelE ⟨K, mg⟩ none F' M0' (List.replicate m .no) τ N1 → N1 = M0' := fun m => by
        induction m with
        | zero => intro τ N1 h; exact h.2.1
        | succ m ih => intro τ N1 h; obtain ⟨_, τr, _, h⟩ := h; exact ih τr N1 h
      refine ⟨nos n σr M' t, ?_⟩
      have e3 : L2.start N [.ref a] = some (.ref a) :: List.replicate n none := by unfold L2.start; rw [hN]; rfl
      rw [e3] at e1
      cases e1
      cases e2
      simp only [Dr] at hy
      obtain ⟨a', vs', ea, hs, hr'⟩ := hy
      cases ea
      rw [hr'.ints] at hs
      exact hs
    obtain ⟨eM', hS'⟩ := key
    rw [eM0] at eM'
    have ndx : da ≠ x := fun z => by
      rw [z, hx] at hda
      cases hda' : ms with
      | nil => rw [hda'] at hda; cases hda
      | cons m ms => rw [hda'] at hda; cases hda
    have eH2 : HH F' M' = HH (del F' x) (upd (fun _ => none) x (.lst [.ref da, .int 0])) := by
      rw [eM', ← hh_updM]
      funext y
      by_cases z : y = x
      · subst z; rw [upd_same, hh_n rfl, hx]
      · rw [upd_ne z, hh_n rfl, hh_n rfl, del_ne z]
    show t1 _ ((L2.start N [.ref a]).set i (some (.ref x))) (HH F' M')
    rw [eH2]
    have hS2 : SqL K (del F' x) a (ns.map V.int) := by
      rcases hS' with q | q
      · rcases q with q | ⟨o, q⟩
        · refine .inl (.inl ?_)
          rw [del_ne fun z => ?_]
          · exact q
          · rw [z, hx] at q
            have q := Option.some.inj q
            injection q with q
            exact ints_ref q.symm
        · refine .inl (.inr ⟨o, ?_⟩)
          rw [del_ne fun z => ?_]
          · exact q
          · rw [z, hx] at q; cases q
      · exact .inr q
    have ar2 : ArgsD ⟨K, mg⟩ (some x) (del F' x) [scrD ns] [.ref a] := ⟨_, _, rfl, by show Dr _ _ _ (.scr _); simp only [Dr]; exact ⟨a, _, rfl, hS2, .of_ints ns⟩, rfl⟩
    have R2 := start_rel (N := N) (K := K) (mg := mg) (b := some x) (F := del F' x) (M := upd (fun _ => none) x (.lst [.ref da, .int 0])) (fun y u q => by
        by_cases z : y = x
        · subst z; exact del_same
        · rw [upd_ne z] at q; cases q) ⟨fun y q => by
        have z : x = y := Option.some.inj q
        subst z
        exact ⟨da, ms, 0, upd_same, by rw [del_ne ndx]; exact hda, Int.le_refl 0⟩, NT.upd NT.emp fun xs z => nomatch z⟩ ar2 trivial
    rw [eS] at R2
    have hns : ∃ sl, (scrD ns :: List.replicate n Sl.no)[i]? = some sl ∧ ¬ isOwn sl := by
      cases i with
      | zero => exact ⟨_, rfl, fun z => z⟩
      | succ j => exact ⟨.no, by rw [List.getElem?_cons_succ, List.getElem?_replicate, if_pos (by omega)], fun z => z⟩
    obtain ⟨sl, e1, e2⟩ := hns
    refine h1.sn ⟨R2.dj, R2.env.setBx (x := x) rfl e1 e2, R2.box, R2.lk⟩ _ _ (p1 ns) ⟨fun _ _ _ _ _ z => z.elim, fun _ _ _ _ _ z => z.elim, fun _ _ _ _ _ z => z.elim, fun d v ρ5 σ5 F' M' M0' e s' R' m' r => ?_⟩
    subst e
    rw [r.bl_of]
    exact hQ _
end
end DL

/-! Plain facts: sizes of shown data, loops over data, cuts. No program in sight. -/
namespace DL
open PySem PySem.Spec PyProof.Rows L2
variable [Lk]

/-! ### data that repr shows -/
mutual
/-- small leaves -/
def smD : D → Bool
  | .non => true
  | .bl _ => true
  | .int i => decide (-999999999999 ≤ i) && decide (i ≤ 999999999999)
  | .str s => PyData.strOk s
  | .lst xs => smDL xs
  | .tup xs => smDL xs
  | _ => false
def smDL : List D → Bool
  | [] => true
  | d :: ds => smD d && smDL ds
end
mutual
def szD : D → Nat
  | .int _ => 41
  | .str s => s.cps.size
  | .lst xs => szDL xs
  | .tup xs => szDL xs
  | _ => 0
def szDL : List D → Nat
  | [] => 0
  | d :: ds => szD d + 1 + szDL ds
end
theorem log2_small {i : Int} (h1 : -999999999999 ≤ i) (h2 : i ≤ 999999999999) : i.natAbs.log2 ≤ 40 := by
  have h : i.natAbs < 2 ^ 41 := by
    have e : (2 : Nat) ^ 41 = 2199023255552 := by decide
    omega
  rcases Nat.eq_zero_or_pos i.natAbs with z | z
  · rw [z]; decide
  · have := (Nat.log2_lt (by omega)).mpr h
    omega
mutual
theorem smD_all : ∀ (d : D), smD d = true → okD d = true ∧ (toPy d).showable = true ∧ (toPy d).intsShort 13 = true ∧ (toPy d).weight ≤ szD d
  | .non, _ => ⟨by simp only [okD], by simp only [toPy, PyData.showable], by simp only [toPy, PyData.intsShort], by simp only [toPy, PyData.weight, szD]; omega⟩
  | .bl _, _ => ⟨by simp only [okD], by simp only [toPy, PyData.showable], by simp only [toPy, PyData.intsShort], by simp only [toPy, PyData.weight, szD]; omega⟩
  | .int i, h => by
    simp only [smD, Bool.and_eq_true, decide_eq_true_eq] at h
    have l := log2_small h.1 h.2
    refine ⟨by simp only [okD], by simp only [toPy, PyData.showable, decide_eq_true_eq]; omega, by
      simp only [toPy]
      exact intsShort_of_noneOrInC (lo := -999999999999) (hi := 999999999999) (by decide) (by decide) _ (by simp only [noneOrInC, Bool.and_eq_true, Bool.not_eq_true', decide_eq_false_iff_not]; omega), ?_⟩
    simp only [toPy, PyData.weight, szD]
    split <;> omega
  | .str s, h => ⟨by simpa only [okD, smD] using h, by simp only [toPy, PyData.showable], by simp only [toPy, PyData.intsShort], by simp only [toPy, PyData.weight, szD]; omega⟩
  | .lst xs, h => by
    have q := smDL_all xs (by simpa only [smD] using h)
    exact ⟨by simpa only [okD] using q.1, by simpa only [toPy, PyData.showable] using q.2.1, by simpa only [toPy, PyData.intsShort] using q.2.2.1, by simpa only [toPy, PyData.weight, szD] using q.2.2.2⟩
  | .tup xs, h => by
    have q := smDL_all xs (by simpa only [smD] using h)
    exact ⟨by simpa only [okD] using q.1, by simpa only [toPy, PyData.showable] using q.2.1, by simpa only [toPy, PyData.intsShort] using q.2.2.1, by simpa only [toPy, PyData.weight, szD] using q.2.2.2⟩
  | .scr _, h => by simp [smD] at h
  | .dk _ _, h => by simp [smD] at h
  | .dt _ _, h => by simp [smD] at h
  | .ins _ _ _, h => by simp [smD] at h
theorem smDL_all : ∀ (ds : List D), smDL ds = true → okDL ds = true ∧ PyData.showableAll (toPyL ds) = true ∧ PyData.intsShortAll 13 (toPyL ds) = true ∧ PyData.weightAll (toPyL ds) ≤ szDL ds
  | [], _ => ⟨by simp only [okDL], by simp only [toPyL, PyData.showableAll], by simp only [toPyL, PyData.intsShortAll], by simp only [toPyL, PyData.weightAll, szDL]; omega⟩
  | d :: ds, h => by
    simp only [smDL, Bool.and_eq_true] at h
    have q1 := smD_all d h.1
    have q2 := smDL_all ds h.2
    refine ⟨by simp only [okDL, Bool.and_eq_true]; exact ⟨q1.1, q2.1⟩, by simp only [toPyL, PyData.showableAll, Bool.and_eq_true]; exact ⟨q1.2.1, q2.2.1⟩, by simp only [toPyL, PyData.intsShortAll, Bool.and_eq_true]; exact ⟨q1.2.2.1, q2.2.2.1⟩, ?_⟩
    have := q1.2.2.2
    have := q2.2.2.2
    simp only [toPyL, PyData.weightAll, szDL]
    omega
end
theorem Shw.of {d : D} (h : smD d = true) (hd : depD d ≤ 60) (hz : szD d ≤ 1048576) : Shw d := by
  have q := smD_all d h
  refine ⟨q.1, hd, q.2.1, ?_⟩
  exact PyData.shown_fits (B := 13) (by decide) (by decide) (PyData.leavesShort_of_canLay0 13 _ (okD_lay d q.1) q.2.2.1) (by
    have := q.2.2.2
    have e : (2 : Nat) ^ 20 = 1048576 := by decide
    omega)
theorem smDL_of {ds : List D} (h : ∀ d ∈ ds, smD d = true) : smDL ds = true := by
  induction ds with
  | nil => simp only [smDL]
  | cons d ds ih =>
    simp only [smDL, Bool.and_eq_true]
    exact ⟨h d List.mem_cons_self, ih fun x hx => h x (List.mem_cons_of_mem _ hx)⟩
theorem szDL_of {ds : List D} {B : Nat} (h : ∀ d ∈ ds, szD d ≤ B) : szDL ds ≤ ds.length * (B + 1) := by
  induction ds with
  | nil => simp only [szDL]; omega
  | cons d ds ih =>
    have h1 := h d List.mem_cons_self
    have h2 := ih fun x hx => h x (List.mem_cons_of_mem _ hx)
    simp only [szDL, List.length_cons, Nat.add_mul]
    omega
theorem depDL_of {ds : List D} {B : Nat} (h : ∀ d ∈ ds, depD d ≤ B) : depDL ds ≤ B := by
  induction ds with
  | nil => simp only [depDL]; omega
  | cons d ds ih =>
    have h1 := h d List.mem_cons_self
    have h2 := ih fun x hx => h x (List.mem_cons_of_mem _ hx)
    simp only [depDL]
    omega
theorem okDL_of {ds : List D} (h : ∀ d ∈ ds, okD d = true) : okDL ds = true := by
  induction ds with
  | nil => simp only [okDL]
  | cons d ds ih =>
    simp only [okDL, Bool.and_eq_true]
    exact ⟨h d List.mem_cons_self, ih fun x hx => h x (List.mem_cons_of_mem _ hx)⟩
theorem shD_ints (ns : List Int) : shD (.lst (ns.map D.int)) := by
  refine ⟨?_, ?_⟩
  · simp only [okD]
    refine okDL_of fun d hd => ?_
    obtain ⟨n, _, rfl⟩ := List.mem_map.mp hd
    simp only [okD]
  · simp only [depD]
    have := depDL_of (ds := ns.map D.int) (B := 0) fun d hd => by
      obtain ⟨n, _, rfl⟩ := List.mem_map.mp hd
      simp only [depD]; omega
    omega
theorem eqDL_ints : ∀ (ns ms : List Int), eqDL (ns.map D.int) (ms.map D.int) = decide (ns = ms)
  | [], [] => by simp [eqDL]
  | [], m :: ms => by simp [eqDL]
  | n :: ns, [] => by simp [eqDL]
  | n :: ns, m :: ms => by
    simp only [List.map_cons, eqDL, eqD, eqDL_ints ns ms]
    by_cases h : n = m
    · subst h; simp
    · simp [h]
theorem dEqB_ints {g : Bool → Bool} {ns ms : List Int} {Q : D → Prop} (q : Q (.bl (g (decide (ns = ms))))) : dEqB g (.lst (ns.map D.int)) (.lst (ms.map D.int)) Q := by
  refine ⟨⟨shD_ints ns, shD_ints ms⟩, ?_⟩
  simp only [eqD, eqDL_ints]
  exact q

/-! ### places, cuts -/
theorem atI_nat {α : Type} {xs : List α} {i : Int} {d : α} (h0 : 0 ≤ i) (h : xs[i.toNat]? = some d) : atI xs i = some d := by
  have hl := (List.getElem?_eq_some_iff.mp h).1
  unfold atI ixN
  rw [if_pos h0, if_pos (by omega)]
  exact h
theorem atI_map {α β : Type} {f : α → β} {xs : List α} {i : Int} (h0 : 0 ≤ i) (h1 : i < xs.length) : ∃ x, x ∈ xs ∧ xs[i.toNat]? = some x ∧ atI (xs.map f) i = some (f x) := by
  have hl : i.toNat < xs.length := by omega
  exact ⟨xs[i.toNat], List.getElem_mem _, List.getElem?_eq_getElem hl, atI_nat h0 (by rw [List.getElem?_map, List.getElem?_eq_getElem hl]; rfl)⟩
theorem sIx_pos {n d : Nat} {i : Int} (h : 0 ≤ i) : HT.sIx n d (some i) = min i.toNat n := by
  show (if i < 0 then (i + (n : Int)).toNat else min i.toNat n) = _
  rw [if_neg (by omega)]
theorem cutD_to {α : Type} (xs : List α) {n : Int} (h : 0 ≤ n) : cutD xs none (some n) = xs.take n.toNat := by
  unfold cutD
  rw [sIx_pos h]
  show (xs.drop 0).take (min n.toNat xs.length - 0) = _
  rw [List.drop_zero, Nat.sub_zero]
  rcases Nat.le_total n.toNat xs.length with q | q
  · rw [Nat.min_eq_left q]
  · rw [Nat.min_eq_right q, List.take_length, List.take_of_length_le q]
theorem cutD_from {α : Type} (xs : List α) {n : Int} (h : 0 ≤ n) : cutD xs (some n) none = xs.drop n.toNat := by
  unfold cutD
  rw [sIx_pos h]
  show ((xs.drop (min n.toNat xs.length)).take (xs.length - min n.toNat xs.length)) = _
  rcases Nat.le_total n.toNat xs.length with q | q
  · rw [Nat.min_eq_left q, List.take_of_length_le (by rw [List.length_drop]; omega)]
  · rw [Nat.min_eq_right q, List.drop_length, List.drop_eq_nil_of_le q]; simp
theorem cutD_mid {α : Type} (xs : List α) {i j : Int} (h0 : 0 ≤ i) (h1 : i ≤ j) (h2 : j ≤ xs.length) : cutD xs (some i) (some j) = (xs.drop i.toNat).take (j - i).toNat := by
  unfold cutD
  rw [sIx_pos h0, sIx_pos (by omega), Nat.min_eq_left (by omega), Nat.min_eq_left (by omega)]
  congr 1
  omega

/-! ### loops -/
theorem wForL_rule {wg : WG} {wb : WS} {E : EnD} (I : List D → List Sl → Prop) (step : ∀ d r ρ, I (d :: r) ρ → ∀ K : List Sl → Prop, (∀ ρ', I r ρ' → K ρ') → wg d ρ fun ρ1 => wb ρ1 { nx := K, ct := K, bk := E.nx, rt := E.rt }) (fin : ∀ ρ, I [] ρ → E.nx ρ) :
    ∀ ds ρ, I ds ρ → wForL wg wb ds ρ E
  | [], ρ, h => fin ρ h
  | d :: ds, ρ, h => step d ds ρ h (fun ρ2 => wForL wg wb ds ρ2 E) fun ρ' h' => wForL_rule I step fin ds ρ' h'
theorem wWhile_rule {wc : WT} {wb : WS} {E : EnD} {ρ : List Sl} (W : Nat → List Sl → Prop) (m0 : Nat) (h0 : W m0 ρ)
    (turn : ∀ m ρ, W m ρ → wc ρ fun k ρ1 => (k = true → wb ρ1 { nx := fun ρ2 => ∃ m', m' < m ∧ W m' ρ2, ct := fun ρ2 => ∃ m', m' < m ∧ W m' ρ2, bk := E.nx, rt := E.rt }) ∧ (k = false → E.nx ρ1)) : wWhile wc wb ρ E := by
  refine ⟨W, ⟨m0, h0⟩, fun m ρ' h => ?_⟩
  have fix : ∀ (A B : List Sl → Prop), (fun (k : Bool) (ρ2 : List Sl) => (k = true → A ρ2) ∧ (k = false → B ρ2)) = fun (k : Bool) (ρ2 : List Sl) => match k with | true => A ρ2 | false => B ρ2 := fun A B => by funext k ρ2; cases k <;> simp
  have go := turn m ρ' h
  rw [fix] at go
  exact go
/-- what a comprehension may yield -/
def Outs (R : D → Option D → Prop) : List D → List D → Prop
  | [], ys => ys = []
  | d :: ds, ys => (∃ y r, R d (some y) ∧ ys = y :: r ∧ Outs R ds r) ∨ (R d none ∧ Outs R ds ys)
theorem wLcL_rule {vs : List Nat} {wg : WG} {wt : WT} {we : WE} {ρ : List Sl} (S : D → Prop) (R : D → Option D → Prop)
    (step : ∀ d, S d → ∀ (Kt : D → List Sl → Prop) (Kf : List Sl → Prop), (∀ y, R d (some y) → Kt y ρ) → (R d none → Kf ρ) →
      wg d ρ fun ρ1 => wt ρ1 fun k ρ2 => (k = true → we ρ2 fun y ρ3 => noOwnB ρ3 vs = true ∧ Kt y (wipeD ρ3 vs)) ∧ (k = false → noOwnB ρ2 vs = true ∧ Kf (wipeD ρ2 vs))) : ∀ (ds acc : List D) (Q : List D → List Sl → Prop), (∀ d ∈ ds, S d) → (∀ ys, Outs R ds ys → Q (acc ++ ys) ρ) → wLcL vs wg wt we ds ρ acc Q
  | [], acc, Q, _, h => by
    have := h [] rfl
    rw [List.append_nil] at this
    exact this
  | d :: ds, acc, Q, hS, h => by
    have fix : ∀ (A B : List Sl → Prop), (fun (k : Bool) (ρ2 : List Sl) => (k = true → A ρ2) ∧ (k = false → B ρ2)) = fun (k : Bool) (ρ2 : List Sl) => match k with | true => A ρ2 | false => B ρ2 := fun A B => by funext k ρ2; cases k <;> simp
    have go := step d (hS d List.mem_cons_self) (fun y ρ' => wLcL vs wg wt we ds ρ' (acc ++ [y]) Q) (fun ρ' => wLcL vs wg wt we ds ρ' acc Q) (fun y hy => wLcL_rule S R step ds (acc ++ [y]) Q (fun x hx => hS x (List.mem_cons_of_mem _ hx)) fun ys hys => by
        rw [List.append_assoc]
        exact h (y :: ys) (.inl ⟨y, ys, hy, rfl, hys⟩))
      (fun hy => wLcL_rule S R step ds acc Q (fun x hx => hS x (List.mem_cons_of_mem _ hx)) fun ys hys => h ys (.inr ⟨hy, hys⟩))
    simp only [fix] at go
    exact go
theorem Outs.map {g : D → D} : ∀ {ds ys : List D}, Outs (fun d o => o = some (g d)) ds ys → ys = ds.map g
  | [], ys, h => h
  | d :: ds, ys, h => by
    rcases h with ⟨y, r, e, rfl, h⟩ | ⟨e, _⟩
    · rw [Outs.map h, Option.some.inj e]; rfl
    · cases e
theorem Outs.filter {p : D → Bool} : ∀ {ds ys : List D}, Outs (fun d o => o = if p d = true then some d else none) ds ys → ys = ds.filter p
  | [], ys, h => h
  | d :: ds, ys, h => by
    rcases h with ⟨y, r, e, rfl, h⟩ | ⟨e, h⟩
    · by_cases z : p d = true
      · rw [if_pos z] at e
        rw [List.filter_cons_of_pos z, Outs.filter h, Option.some.inj e]
      · rw [if_neg z] at e; cases e
    · by_cases z : p d = true
      · rw [if_pos z] at e; cases e
      · rw [List.filter_cons_of_neg z, Outs.filter h]
/-- each turn yields one thing of the kind T -/
theorem Outs.all {T : D → Prop} : ∀ {ds ys : List D}, Outs (fun _ o => ∃ y, o = some y ∧ T y) ds ys → ys.length = ds.length ∧ ∀ y ∈ ys, T y
  | [], ys, h => by rw [show ys = [] from h]; exact ⟨rfl, fun y hy => by cases hy⟩
  | d :: ds, ys, h => by
    rcases h with ⟨y, r, ⟨y', e, t⟩, rfl, h⟩ | ⟨⟨y', e, t⟩, _⟩
    · cases e
      obtain ⟨h1, h2⟩ := Outs.all h
      exact ⟨by rw [List.length_cons, List.length_cons, h1], fun z hz => by
        rcases List.mem_cons.mp hz with rfl | hz
        · exact t
        · exact h2 z hz⟩
    · cases e
theorem rangeD_length (lo hi : Int) : (rangeD lo hi).length = (hi - lo).toNat := by unfold rangeD; rw [List.length_map, List.length_range]
theorem rangeD_mem {lo hi : Int} {d : D} (h : d ∈ rangeD lo hi) : ∃ i : Int, d = .int i ∧ lo ≤ i ∧ i < hi := by
  unfold rangeD at h
  obtain ⟨i, hi, rfl⟩ := List.mem_map.mp h
  have := List.mem_range.mp hi
  exact ⟨_, rfl, by omega, by omega⟩
/-- a list whose things are all ints -/
theorem ints_of : ∀ {ds : List D} {P : Int → Prop}, (∀ d ∈ ds, ∃ i, d = .int i ∧ P i) → ∃ ns : List Int, ds = ns.map D.int ∧ (∀ n ∈ ns, P n) ∧ ns.length = ds.length
  | [], P, _ => ⟨[], rfl, (fun n hn => by cases hn), rfl⟩
  | d :: ds, P, h => by
    obtain ⟨i, rfl, hi⟩ := h d List.mem_cons_self
    obtain ⟨ns, rfl, h2, h3⟩ := ints_of (ds := ds) (P := P) fun x hx => h x (List.mem_cons_of_mem _ hx)
    refine ⟨i :: ns, rfl, fun n hn => ?_, by simp⟩
    rcases List.mem_cons.mp hn with rfl | hn
    · exact hi
    · exact h2 n hn

/-! ### the readings, applied -/
section
variable {ρ : List Sl} {E : EnD} {w1 w2 wb wt' : WS} {wc t u : WT} {w wa wb' wc' : WE} {wl : WA} {was : WAs} {wg : WG} {Qb : Bool → List Sl → Prop} {Qd : D → List Sl → Prop} {Ql : List D → List Sl → Prop} {Qs : Sl → List Sl → Prop} {Qa : List Sl → List Sl → Prop} {i : Nat} {d : D}
theorem za : wSeq w1 w2 ρ E = w1 ρ { E with nx := fun ρ' => w2 ρ' E } := rfl
theorem zf : wNext ρ E = E.nx ρ := rfl
theorem zg : wBreak ρ E = E.bk ρ := rfl
theorem zh : wCont ρ E = E.ct ρ := rfl
theorem zi : wRet w ρ E = w ρ fun d ρ1 => E.rt d ρ1 := rfl
theorem zj : wRetN ρ E = E.rt .non ρ := rfl
theorem zk : wDrop w ρ E = w ρ fun _ ρ1 => E.nx ρ1 := rfl
theorem boolM {k : Bool} {A B : Prop} : (match k with | true => A | false => B) = ((k = true → A) ∧ (k = false → B)) := by cases k <;> simp
theorem zl : wIf wc w1 w2 ρ E = wc ρ fun k ρ1 => (k = true → w1 ρ1 E) ∧ (k = false → w2 ρ1 E) := by
  unfold wIf
  congr 1
  funext k ρ1
  cases k <;> simp
theorem zm : wAnd t u ρ Qb = t ρ fun k ρ1 => (k = true → u ρ1 Qb) ∧ (k = false → Qb false ρ1) := by
  unfold wAnd
  congr 1
  funext k ρ1
  cases k <;> simp
theorem zn : wOr t u ρ Qb = t ρ fun k ρ1 => (k = true → Qb true ρ1) ∧ (k = false → u ρ1 Qb) := by
  unfold wOr
  congr 1
  funext k ρ1
  cases k <;> simp
theorem zo : wNot t ρ Qb = t ρ fun k ρ1 => Qb (!k) ρ1 := rfl
theorem zp : wTst w ρ Qb = w ρ fun d ρ' => ∃ k, d = .bl k ∧ Qb k ρ' := by
  unfold wTst
  congr 1
  funext d ρ'
  cases d <;> simp
theorem bl2 {d : D} {A B : Prop} : (match d with | .bl true => A | .bl false => B | _ => False) = ∃ k, d = .bl k ∧ (k = true → A) ∧ (k = false → B) := by
  cases d with
  | bl k => cases k <;> simp
  | _ => simp
theorem zq : wAndV wa wb' ρ Qd = wa ρ fun d ρ1 => ∃ k, d = .bl k ∧ (k = true → wb' ρ1 Qd) ∧ (k = false → Qd (.bl false) ρ1) := by
  unfold wAndV
  congr 1
  funext d ρ1
  exact bl2
theorem zr : wOrV wa wb' ρ Qd = wa ρ fun d ρ1 => ∃ k, d = .bl k ∧ (k = true → Qd (.bl true) ρ1) ∧ (k = false → wb' ρ1 Qd) := by
  unfold wOrV
  congr 1
  funext d ρ1
  exact bl2
theorem zt : wNotV wa ρ Qd = wa ρ fun d ρ1 => ∃ k, d = .bl k ∧ Qd (.bl (!k)) ρ1 := by
  unfold wNotV
  congr 1
  funext d ρ'
  cases d <;> simp
theorem zu : wIfE t wa wb' ρ Qd = t ρ fun k ρ1 => (k = true → wa ρ1 Qd) ∧ (k = false → wb' ρ1 Qd) := by
  unfold wIfE
  congr 1
  funext k ρ1
  cases k <;> simp
theorem zv {wr wr' : D → D → (D → Prop) → Prop} : wChain wr wr' wa wb' wc' ρ Qd = wa ρ fun d1 ρ1 => wb' ρ1 fun d2 ρ2 => wr d1 d2 fun d => ∃ k, d = .bl k ∧ (k = true → wc' ρ2 fun d3 ρ3 => wr' d2 d3 fun d' => Qd d' ρ3) ∧ (k = false → Qd (.bl false) ρ2) := by
  unfold wChain
  congr 1; funext d1 ρ1; congr 1; funext d2 ρ2; congr 1; funext d
  exact bl2
theorem zC : wVar i ρ Qd = match ρ[i]? with
  | some (.sh d) => Qd d ρ
  | some .no => False
  | some .bx => False
  | some sl => Qd (obD sl) (ρ.set i (.sh (obD sl)))
  | none => False := rfl
theorem zD : wPk i ρ Qd = match ρ[i]? with
  | some (.od _ _) => False
  | some (.sh d) => Qd d ρ
  | some .no => False
  | some .bx => False
  | some sl => Qd (obD sl) ρ
  | none => False := rfl
theorem zE : wC d ρ Qd = Qd d ρ := rfl
theorem zF {wr : D → D → (D → Prop) → Prop} : wOp wr wa wb' ρ Qd = wa ρ fun d1 ρ1 => wb' ρ1 fun d2 ρ2 => wr d1 d2 fun d => Qd d ρ2 := rfl
theorem zG {wr : D → (D → Prop) → Prop} : wUn wr wa ρ Qd = wa ρ fun d1 ρ1 => wr d1 fun d => Qd d ρ1 := rfl
theorem zH {wr : D → D → (D → Prop) → Prop} : wM1 wr wa wb' ρ Qd = wa ρ fun d1 ρ1 => (∃ s, d1 = .str s) ∧ wb' ρ1 fun d2 ρ2 => wr d1 d2 fun d => Qd d ρ2 := rfl
theorem zI : wTup wl ρ Qd = wl ρ fun ds ρ1 => ds.length ≤ sizeLine ∧ Qd (.tup ds) ρ1 := rfl
theorem zJ : wfLst wl ρ Qs = wl ρ fun ds ρ1 => ds.length ≤ sizeLine ∧ Qs (.ol ds) ρ1 := rfl
theorem zK {wf : List Sl → (Sl → List Sl → Prop) → Prop} : wFz wf ρ Qd = wf ρ fun sl ρ1 => Qd (obD sl) ρ1 := rfl
theorem zL : waNil ρ Ql = Ql [] ρ := rfl
theorem zM : waCons w wl ρ Ql = w ρ fun d ρ1 => wl ρ1 fun ds ρ2 => Ql (d :: ds) ρ2 := rfl
theorem zN : asNil ρ Qa = Qa [] ρ := rfl
theorem zO : asCons w was ρ Qa = w ρ fun d ρ1 => was ρ1 fun as ρ2 => Qa (.sh d :: as) ρ2 := rfl
theorem zP : asBox i was ρ Qa = (ρ[i]? = some .bx ∧ was ρ fun as ρ2 => Qa (.bx :: as) ρ2) := rfl
theorem zQ {wf : WFn} : wCall wf was ρ Qd = was ρ fun as ρ1 => wf as fun d => Qd d ρ1 := rfl
theorem zR : wAsg w wg ρ E = w ρ fun d ρ1 => wg d ρ1 E.nx := rfl
theorem zS {Q : List Sl → Prop} : wSt i d ρ Q = match ρ[i]? with
  | some _ => Q (ρ.set i (.sh d))
  | none => False := rfl
theorem zT {wf : List Sl → (Sl → List Sl → Prop) → Prop} : wAsgO wf i ρ E = wf ρ fun sl ρ1 => match ρ1[i]? with
  | some _ => E.nx (ρ1.set i sl)
  | none => False := rfl
theorem zU {is : List Nat} {Q : List Sl → Prop} {ds : List D} : wTp is (.tup ds) ρ Q = (ds.length = is.length ∧ wStL is ds ρ Q) := rfl
theorem zX {Q : List Sl → Prop} : wStL [] [] ρ Q = Q ρ := rfl
theorem zY {Q : List Sl → Prop} {r : List Nat} {ds : List D} : wStL (i :: r) (d :: ds) ρ Q = wSt i d ρ fun ρ1 => wStL r ds ρ1 Q := rfl
theorem zZ : wFor wl wg wb ρ E = wl ρ fun ds ρ1 => wForL wg wb ds ρ1 E := rfl
theorem xa : wRg1 wl ρ Ql = wl ρ fun ds ρ1 => match ds with
  | [.int j] => (-(2 ^ 62) ≤ j ∧ j < 2 ^ 62) ∧ Ql (rangeD 0 j) ρ1
  | _ => False := rfl
theorem xb : wRg2 wl ρ Ql = wl ρ fun ds ρ1 => match ds with
  | [.int i, .int j] => (-(2 ^ 62) ≤ i ∧ i < 2 ^ 62 ∧ -(2 ^ 62) ≤ j ∧ j < 2 ^ 62) ∧ Ql (rangeD i j) ρ1
  | _ => False := rfl
theorem xf : wItL w ρ Ql = w ρ fun d ρ1 => match d with
  | .lst ds => Ql ds ρ1
  | _ => False := rfl
theorem xg : wItT w ρ Ql = w ρ fun d ρ1 => match d with
  | .tup ds => Ql ds ρ1
  | _ => False := rfl
theorem xh : wItS w ρ Ql = w ρ fun d ρ1 => match d with
  | .str z => Ql (signsD z) ρ1
  | _ => False := rfl
theorem xi : wApp i w ρ E = match ρ[i]? with
  | some (.ol _) => w ρ fun d ρ1 => match ρ1[i]? with
    | some (.ol ds) => ds.length < sizeLine ∧ E.nx (ρ1.set i (.ol (ds ++ [d])))
    | _ => False
  | _ => False := rfl
theorem xj {Q : Option Int → List Sl → Prop} : woNone ρ Q = Q none ρ := rfl
theorem xk {Q : Option Int → List Sl → Prop} : woSome w ρ Q = w ρ fun d ρ1 => match d with
  | .int i => Q (some i) ρ1
  | _ => False := rfl
theorem xl {w1 w2 : WO} : wCut w w1 w2 ρ Qd = w ρ fun d ρ1 => w1 ρ1 fun lo ρ2 => w2 ρ2 fun hi ρ3 => q9 lo hi d fun d' => Qd d' ρ3 := rfl
theorem xm : wBx1 i ρ Qd = (ρ[i]? = some .bx ∧ ∀ n : Int, 0 ≤ n → Qd (.int n) ρ) := rfl
theorem xo : wBx0 i ρ Qd = (ρ[i]? = some .bx ∧ ∀ ns : List Int, Qd (.lst (ns.map D.int)) ρ) := rfl
theorem xq : wBxPut i w ρ E = w ρ fun d ρ1 => ρ1[i]? = some .bx ∧ match d with
  | .int n => 0 ≤ n ∧ E.nx ρ1
  | _ => False := rfl
theorem qh : wTru w ρ Qb = w ρ fun d ρ1 => qC d fun k => Qb k ρ1 := rfl
theorem qi {vs : List Nat} {we : WE} : wLc vs wl wg t we ρ Qs = wl ρ fun ds ρ1 => ds.length ≤ sizeLine ∧ noOwnB ρ1 vs = true ∧ wLcL vs wg t we ds (wipeD ρ1 vs) [] fun acc ρ2 => noOwnB ρ2 vs = true ∧ Qs (.ol acc) (wipeD ρ2 vs.reverse) := rfl
theorem qj : wYes ρ Qb = Qb true ρ := rfl
theorem qk {wr : D → D → (D → Prop) → Prop} : wAug i wr w ρ E = match ρ[i]? with
  | some (.sh d0) => w ρ fun d ρ1 => wr d0 d fun d' => wSt i d' ρ1 E.nx
  | _ => False := rfl
theorem xt {j k : Nat} : wDraw i j k ρ E = (ρ[i]? = some .bx ∧ ∃ a n : Int, ρ[j]? = some (.sh (.int a)) ∧ ρ[k]? = some (.sh (.int n)) ∧ 0 ≤ a ∧ 0 < n ∧ (∀ r : Int, 0 ≤ r → r < n → E.rt (.int r) ρ) ∧ E.nx ρ) := rfl
end
theorem qL : sizeLine = 16777216 := rfl
theorem qA {α : Type} {a : α} {l : List α} : atI (a :: l) 0 = some a := atI_nat (by decide) rfl
theorem qB {α : Type} {a b : α} {l : List α} : atI (a :: b :: l) 1 = some b := atI_nat (by decide) rfl
theorem joinL_one : ∀ cs : List Nat, TL.joinL [] (cs.map fun c => [c]) = cs
  | [] => rfl
  | [c] => rfl
  | c :: d :: cs => by
    have := joinL_one (d :: cs)
    simp only [List.map_cons] at this
    simp only [List.map_cons, TL.joinL, this]
    rfl
theorem join_one (cs : List Nat) : Txt.join "" (cs.map fun c => (⟨#[c]⟩ : Str)) = ⟨cs.toArray⟩ := by
  have h := SX.join_S [] (cs.map fun c => [c])
  rw [joinL_one, List.map_map] at h
  exact h
theorem one_sum : ∀ cs : List Nat, ((cs.map fun c => (⟨#[c]⟩ : Str)).map (·.length)).sum = cs.length
  | [] => rfl
  | c :: cs => by
    have := one_sum cs
    simp only [List.map_cons, List.sum_cons, List.length_cons, this]
    show 1 + cs.length = _
    omega
theorem dJoin_one {cs : List Nat} {Q : D → Prop} (hl : cs.length ≤ 1000000) (q : Q (.str ⟨cs.toArray⟩)) : dJoin (.str "") (.lst (cs.map fun c => D.str ⟨#[c]⟩)) Q := by
  refine ⟨cs.map fun c => (⟨#[c]⟩ : Str), by rw [List.map_map]; rfl, ?_, by rw [join_one]; exact q⟩
  have e := one_sum cs
  rw [e, List.length_map]
  have : Str.length "" = 0 := by decide
  rw [this]
  omega
theorem signs_mk (cs : List Nat) : signsD ⟨cs.toArray⟩ = cs.map fun c => D.str ⟨#[c]⟩ := rfl
/-- things that are single signs -/
theorem signs_of : ∀ {ds : List D} {P : Nat → Prop}, (∀ d ∈ ds, ∃ c, d = D.str ⟨#[c]⟩ ∧ P c) → ∃ cs : List Nat, ds = cs.map (fun c => D.str ⟨#[c]⟩) ∧ (∀ c ∈ cs, P c) ∧ cs.length = ds.length
  | [], P, _ => ⟨[], rfl, (fun n hn => by cases hn), rfl⟩
  | d :: ds, P, h => by
    obtain ⟨i, rfl, hi⟩ := h d List.mem_cons_self
    obtain ⟨ns, rfl, h2, h3⟩ := signs_of (ds := ds) (P := P) fun x hx => h x (List.mem_cons_of_mem _ hx)
    refine ⟨i :: ns, rfl, fun n hn => ?_, by simp⟩
    rcases List.mem_cons.mp hn with rfl | hn
    · exact hi
    · exact h2 n hn
theorem strOk_small {cs : List Nat} (h : ∀ c ∈ cs, c < 1000) : PyData.strOk ⟨cs.toArray⟩ = true := by
  unfold PyData.strOk
  rw [← Array.all_toList]
  simp only [List.all_eq_true]
  intro c hc
  have := h c hc
  simp
  omega
def az : Str := "abcdefghijklmnopqrstuvwxyz"
theorem az_occ : ∀ z : _root_.Fin 26, Builtin.Str.occurrences "abcdefghijklmnopqrstuvwxyz" ⟨#[97 + z.1]⟩ 0 (Str.length "abcdefghijklmnopqrstuvwxyz") 1 = [z.1] := by decide +kernel
theorem az_at : ∀ z : _root_.Fin 26, (Str.cps "abcdefghijklmnopqrstuvwxyz").toList[z.1]? = some (97 + z.1) := by decide +kernel
theorem az_len : Str.length "abcdefghijklmnopqrstuvwxyz" = 26 := by decide +kernel
theorem dSIndex_az {c : Nat} {Q : D → Prop} (h1 : 97 ≤ c) (h2 : c ≤ 122) (q : Q (.int ((c - 97 : Nat) : Int))) : dSIndex (.str "abcdefghijklmnopqrstuvwxyz") (.str ⟨#[c]⟩) Q := by
  have e := az_occ ⟨c - 97, by omega⟩
  have e2 : 97 + (c - 97) = c := by omega
  simp only [e2] at e
  exact ⟨_, _, e, q⟩
theorem dIx_az {i : Int} {Q : D → Prop} (h1 : 0 ≤ i) (h2 : i < 26) (q : Q (.str ⟨#[97 + i.toNat]⟩)) : dIx (.str "abcdefghijklmnopqrstuvwxyz") (.int i) Q :=
  ⟨by rw [az_len]; decide, _, atI_nat h1 (az_at ⟨i.toNat, by omega⟩), q⟩
theorem atI_mem {α : Type} {l : List α} {i : Int} (h0 : 0 ≤ i) (h1 : i < l.length) : ∃ d, d ∈ l ∧ atI l i = some d := by
  have hl : i.toNat < l.length := by omega
  exact ⟨l[i.toNat], List.getElem_mem _, atI_nat h0 (List.getElem?_eq_getElem hl)⟩
theorem qw {ds : List D} {i : Int} {Q : D → Prop} : dIx (.lst ds) (.int i) Q = ∃ d, atI ds i = some d ∧ Q d := rfl
theorem qx {ds : List D} {i : Int} {Q : D → Prop} : dIx (.tup ds) (.int i) Q = ∃ d, atI ds i = some d ∧ Q d := rfl
theorem qy {ds : List D} {i : Int} {Q : D → Prop} : dIx (.scr ds) (.int i) Q = ∃ d, atI ds i = some d ∧ Q d := rfl
theorem shD_lit1 {a : Int} : shD (.lst [.int a]) := shD_ints [a]
theorem eqDL_lit1 {ns : List Int} {a : Int} : eqDL (ns.map D.int) [.int a] = decide (ns = [a]) := eqDL_ints ns [a]
theorem str_m_u : (("move" : Str) = "undo") = False := eq_false (by decide +kernel)
theorem str_y_u : (("year" : Str) = "undo") = False := eq_false (by decide +kernel)
theorem str_y_m : (("year" : Str) = "move") = False := eq_false (by decide +kernel)
end DL

/-! Objects: fields, methods, defs with an own argument, making. Dicts: calls, stores. -/
namespace DL
open PySem PySem.Spec PyProof.Rows L2
variable [Lk]

/-! ### fields -/
def lookD : List Str → List D → Str → Option D
  | g :: fs, d :: ds, f => if f = g then some d else lookD fs ds f
  | _, _, _ => none
section
variable {c : Cy} {X : Cx} {e : Expr} {te : TE} {t : TA} {w : WE} {wt : WAs} {pos : Pos}
theorem lookD_v {F : Hp} {f : Str} : ∀ {ps : List (Str × V)} {ds : List D} {d : D}, DrL c F (ps.map (·.2)) ds → lookD (ps.map (·.1)) ds f = some d → ∃ v, ps.lookup f = some v ∧ Dr c F v d
  | [], ds, d, r, h => by cases ds <;> simp [lookD] at h
  | (g, v) :: ps, [], d, r, h => by simp [lookD] at h
  | (g, v) :: ps, d0 :: ds, d, r, h => by
    obtain ⟨u, vr, e, q, t⟩ := r.cons_iff
    simp only [List.map_cons] at e
    cases e
    simp only [List.map_cons, lookD] at h
    by_cases z : f = g
    · rw [if_pos z] at h
      cases h
      exact ⟨v, by rw [z, List.lookup_cons_self], q⟩
    · rw [if_neg z] at h
      obtain ⟨x, h1, h2⟩ := lookD_v t h
      exact ⟨x, by rw [List.lookup_cons, show (f == g) = false by simpa using z]; exact h1, h2⟩
theorem lookup_no {f : Str} : ∀ {ps : List (Str × V)}, f ∉ ps.map (·.1) → ps.lookup f = none
  | [], _ => rfl
  | (g, v) :: ps, h => by
    simp only [List.map_cons, List.mem_cons, not_or] at h
    rw [List.lookup_cons, show (f == g) = false by simpa using h.1]
    exact lookup_no h.2
def wFld (n f : Str) (w : WE) : WE := fun ρ Q => w ρ fun d ρ1 => match d with
  | .ins n' fs ds => n' = n ∧ ∃ d', lookD fs ds f = some d' ∧ Q d' ρ1
  | _ => False
theorem de_fld {n f : Str} {C : Addr} (hm : X.mg n = some (.ref C)) (hc : Cls X.K C) (hn : NoAttr X.K C f) (he : DP X e te w) (hb : attributeBase e f X.env (eval e X.env) = eval e X.env := by rfl) : DE X (.Attribute e f pos) (tFld X.K te f) (wFld n f w) :=
  ⟨pe_fld he.pe hb, fun {b ρ σ F M M0} R Qd Q hw k => by
    refine he.sn R _ _ hw fun d ρ1 v F1 M1 M01 q A r => ?_
    cases d with
    | ins n' fs ds =>
      obtain ⟨rfl, d', hl, q⟩ := q
      obtain ⟨a, C', dx, ps, rfl, _, hH, hg, rfl, rl⟩ := r
      have eC : C' = C := by
        have hg : X.mg n' = some (.ref C') := hg
        rw [hm] at hg
        cases hg; rfl
      subst eC
      obtain ⟨v, h1, h2⟩ := lookD_v rl hl
      exact ⟨a, _, dx, ps, v, rfl, hH, hc, hn, h1, k d' ρ1 v F1 M1 M01 q A h2⟩
    | _ => exact q.elim⟩

/-! ### a method of a shared object -/
def wMeth (n m : Str) (wf : WFn) (w : WE) (wa : WAs) : WE := fun ρ Q => w ρ fun d ρ1 => match d with
  | .ins n' fs ds => (n' = n ∧ m ∉ fs) ∧ wa ρ1 fun as ρ2 => wf (.sh (.ins n' fs ds) :: as) fun r => Q r ρ2
  | _ => False
theorem snd_meth {n m : Str} {C : Addr} {wf : WFn} {E : XK} (hm : c.mg n = some (.ref C)) (he : Snd c te w) (ha : Snas c t wt) : Snd c (tMeth C m (spF c wf) [] E te t) (wMeth n m wf w wt) := fun {b ρ σ F M M0} R Qd Q hw k => by
  refine he R _ _ hw fun d ρ1 v F1 M1 M01 q A r => ?_
  cases d with
  | ins n' fs ds =>
    obtain ⟨⟨rfl, hn⟩, q⟩ := q
    have r0 := r
    simp only [Dr] at r
    obtain ⟨a, C', dx, ps, rfl, hH, hg, rfl, rl⟩ := r
    have eC : C' = C := by rw [hm] at hg; cases hg; rfl
    subst eC
    refine ⟨a, dx, ps, rfl, A.rel.dj.f hH, lookup_no hn, ?_⟩
    refine ha A.rel _ _ q fun as ρ2 vs F2 M2 M02 q2 A2 r2 => ?_
    rw [List.append_nil]
    refine ⟨b, F2, M2, .sh (.ins n' (ps.map (·.1)) ds) :: as, _, rfl, A2.rel.dj, ⟨fun a z => ?_, A2.rel.env.nt⟩, ⟨_, vs, rfl, r0.up A2.same, r2⟩, q2, fun d v F' M' q s dj bx mr r => ?_⟩
    · obtain ⟨da, ns, n, h1, h2, h3⟩ := A2.rel.box a z
      exact ⟨da, ns, n, A2.rel.env.sub _ _ h1, h2, h3⟩
    · obtain ⟨M0', A3⟩ := A2.rel.after s dj bx mr
      exact k d ρ2 v F' M' M0' q ((A.trans A2).trans A3) r
  | _ => exact q.elim
end
section
variable {X : Cx} {o e : Expr} {es : List Expr} {te : TE} {t : TA} {w : WE} {wt : WAs} {pos apos : Pos} {k : Nat} {f C : Addr} {fd : FuncData} {ps : List Str} {n m : Str}
theorem de_meth0 {wf : WFn} {pl : Sem Bool} (G : FnOk X.prog X.w X.K X.mg X.base CX0 k f fd ps (spF (cy X) wf)) (hr : Room k X.A) (hn : X.mg n = some (.ref C)) (hc : Cls X.K C) (hm : Meth X.K C m f) (hb : Binds X.K fd ps []) (he : DE X o te w)
    (ht : eval (.Call (.Attribute o m apos) [] [] pos) X.env = (do
      let ov ← eval o X.env
      standAt apos.atName
      let (f, first) ← holding [ov] (getMethod ov m pl)
      callWith pos f first (backTo pos (starEach [] X.env)) (backToKw pos (keywordEach [] X.env))) := by rfl) :
    DE X (.Call (.Attribute o m apos) [] [] pos) (tMeth C m (spF (cy X) wf) [] E0 te tNil) (wMeth n m wf w asNil) := ⟨pe_meth0 he.pe hc hm G hr hb .nil pass0 ht, snd_meth hn he.sn das_nil.sn⟩
end

/-! ### defs with own arguments -/
abbrev WFo := List Sl → (D → List Sl → Prop) → Prop
def spO (c : Cy) (wf : WFo) : Sp := fun vs H Q _ => ∃ (b : Option Addr) (F M M1 : Hp) (as : List Sl) (Qd : D → List Sl → Prop), H = HH F M ∧ Rel0 c b as (vs.map some) F M M1 ∧ wf as Qd ∧
  ∀ d v as' F' M' M1', Qd d as' → Same F F' → Rel0 c b as' (vs.map some) F' M' M1' → MR b M1 M1' → Dr c F' v d → Q v (HH F' M')
/-- what is handed back -/
def back : List Sl → List Sl → List Sl → Prop
  | [], _, as' => as' = []
  | a :: as, s :: ρ, s' :: as' => (match a with
    | .od x _ => s' = s ∧ ∃ t, s = .od x t
    | .sh d => s' = .sh d
    | .bx => s' = .bx
    | _ => False) ∧ back as ρ as'
  | _, _, _ => False
section
variable {c : Cy} {b : Option Addr} {F M M0 : Hp}
theorem relE_nos {n : Nat} : ∀ {as : List Sl} {τ : L2.St} {M : Hp}, RelE c b F M0 as τ M → RelE c b F M0 (as ++ List.replicate n .no) (τ ++ List.replicate n none) M
  | [], τ, M, h => by
    obtain ⟨rfl, rfl, nt⟩ := h
    exact rel_nos nt n
  | s1 :: as, τ, M, h => by
    obtain ⟨v, σr, rfl, h⟩ := h
    refine ⟨v, σr ++ List.replicate n none, rfl, ?_⟩
    have own : ∀ s2 : Sl, (∃ a o M', v = some (.ref a) ∧ ObR c F s2 o ∧ F a = none ∧ M' a = none ∧ M = upd M' a o ∧ RelE c b F M0 as σr M') →
        ∃ a o M', v = some (.ref a) ∧ ObR c F s2 o ∧ F a = none ∧ M' a = none ∧ M = upd M' a o ∧ RelE c b F M0 (as ++ List.replicate n .no) (σr ++ List.replicate n none) M' := fun s2 h => by
      obtain ⟨a, o, M', k1, k2, k3, k4, k5, t⟩ := h
      exact ⟨a, o, M', k1, k2, k3, k4, k5, relE_nos t⟩
    cases s1 with
    | no => exact relE_nos h
    | sh d => exact ⟨h.1, relE_nos h.2⟩
    | bx => exact ⟨h.1, relE_nos h.2⟩
    | ol ds => exact own (.ol ds) h
    | ok ks ds => exact own (.ok ks ds) h
    | ot ks ds => exact own (.ot ks ds) h
    | oi n fs ds => exact own (.oi n fs ds) h
    | od y t0 =>
      obtain ⟨Mo, M', k1, k2, k3, k4, t⟩ := h
      exact ⟨Mo, M', k1, k2, k3, k4, relE_nos t⟩
/-- the first slot is given up -/
theorem relE_pop {s1 : Sl} {ρ : List Sl} {v : Option V} {σ : L2.St} (h : RelE c b F M0 (s1 :: ρ) (v :: σ) M) (dj : Dj F M) :
    ∃ F' M', Same F F' ∧ HH F M = HH F' M' ∧ Dj F' M' ∧ (∀ a o, F' a = some o → F a = some o ∨ M a = some o) ∧ (∀ a o, M' a = some o → M a = some o) ∧ RelE c b F' M0 ρ σ M' := by
  obtain ⟨v', σr, e, h⟩ := h
  cases e
  have plain : RelE c b F M0 ρ σ M → ∃ F' M', Same F F' ∧ HH F M = HH F' M' ∧ Dj F' M' ∧ (∀ a o, F' a = some o → F a = some o ∨ M a = some o) ∧ (∀ a o, M' a = some o → M a = some o) ∧ RelE c b F' M0 ρ σ M' := fun t =>
    ⟨F, M, Same.refl _, rfl, dj, fun a o q => .inl q, fun a o q => q, t⟩
  have own : ∀ sl : Sl, (∃ a o M', v = some (.ref a) ∧ ObR c F sl o ∧ F a = none ∧ M' a = none ∧ M = upd M' a o ∧ RelE c b F M0 ρ σ M') →
      ∃ F' M', Same F F' ∧ HH F M = HH F' M' ∧ Dj F' M' ∧ (∀ a o, F' a = some o → F a = some o ∨ M a = some o) ∧ (∀ a o, M' a = some o → M a = some o) ∧ RelE c b F' M0 ρ σ M' := fun sl h => by
    obtain ⟨a, o, M', e1, r, f, m, rfl, t⟩ := h
    have dj' : Dj F M' := fun x u q => dj x u (by rw [upd_ne (ne_of_none q m)]; exact q)
    have s : Same F (upd F a o) := Same.updF f
    refine ⟨upd F a o, M', s, hh_freeze m, dj'.updF m, fun x u q => ?_, fun x u q => by rw [upd_ne (ne_of_none q m)]; exact q, t.leD (.of s) (fun x u q z => by rw [upd_ne (ne_of_none (t.sub _ _ q) m)]; exact z) (fun x u q z => by rw [upd_ne (ne_of_none q m)]; exact z)⟩
    by_cases z : x = a
    · rw [z, upd_same] at q
      right; rw [z, upd_same]; exact q
    · rw [upd_ne z] at q; exact .inl q
  cases s1 with
  | no => exact plain h
  | sh d => exact plain h.2
  | bx => exact plain h.2
  | ol ds => exact own (.ol ds) h
  | ok ks ds => exact own (.ok ks ds) h
  | ot ks ds => exact own (.ot ks ds) h
  | oi n fs ds => exact own (.oi n fs ds) h
  | od y t0 =>
    obtain ⟨Mo, M', k1, k2, k3, rfl, t⟩ := h
    have dF : Dj F Mo := OTR.dj t0 k2
    have s : Same F (HH F Mo) := dF.same
    refine ⟨HH F Mo, M', s, by rw [hh_comm k3, hh_assoc], fun a o q => ?_, fun a o q => ?_, fun a o q => k3.f q, t.leD (.of s) (fun y u q z => by rw [hh_n (k3.mn (t.sub _ _ q))]; exact z) (fun y u q z => by rw [hh_n (k3.mn q)]; exact z)⟩
    · rw [hh_n (k3.mn q)]; exact dj a o (k3.f q)
    · rcases hh_some q with z | ⟨_, z⟩
      · exact .inr (hh_m z)
      · exact .inl z
/-- the arguments as they are handed back; all else is given up -/
theorem relE_back : ∀ {as ρ as' : List Sl} {vs : List V} {σ : L2.St} {F G M M2 : Hp} {N0 : Hp}, RelE c b G N0 as (vs.map some) M2 → Same G F → RelE c b F M0 ρ σ M → Dj F M → back as ρ as' →
    ∃ F' M', Same F F' ∧ HH F M = HH F' M' ∧ Dj F' M' ∧ (∀ a o, F' a = some o → F a = some o ∨ M a = some o) ∧ (∀ a o, M' a = some o → M a = some o) ∧ RelE c b F' M0 as' (vs.map some) M'
  | [], ρ, as', vs, σ, F, G, M, M2, N0, h0, sg, h, dj, hb => by
    have e : as' = [] := hb
    subst e
    have ev : vs = [] := by
      have := h0.1
      cases vs with
      | nil => rfl
      | cons => cases this
    subst ev
    obtain ⟨F', s, eh, dj'⟩ := h.frzAll dj
    have key : ∀ a o, F' a = some o → F a = some o ∨ M a = some o := fun a o q => by
      have := dj'.f q
      rw [← eh] at this
      rcases hh_some this with z | ⟨_, z⟩
      · exact .inr z
      · exact .inl z
    exact ⟨F', M0, s, eh, dj', key, h.sub, rfl, rfl, h.nt0⟩
  | a :: as, [], as', vs, σ, F, G, M, M2, N0, h0, sg, h, dj, hb => by cases as' <;> exact hb.elim
  | a :: as, s :: ρ, [], vs, σ, F, G, M, M2, N0, h0, sg, h, dj, hb => hb.elim
  | a :: as, s :: ρ, s' :: as', vs, σ, F, G, M, M2, N0, h0, sg, h, dj, hb => by
    obtain ⟨v0, τ0, e0, h0⟩ := h0
    cases vs with
    | nil => cases e0
    | cons v vs =>
      cases e0
      obtain ⟨hb1, hb⟩ := hb
      have h' := h
      obtain ⟨v1, σr, e1, h1⟩ := h'
      subst e1
      cases a with
      | sh d =>
        have e : s' = .sh d := hb1
        subst e
        obtain ⟨⟨y, ey, hy⟩, h0⟩ := h0
        cases ey
        obtain ⟨F1, M1, s1, eh1, dj1, f1, m1, t1⟩ := relE_pop h dj
        obtain ⟨F2, M3, s2, eh2, dj2, f2, m2, t2⟩ := relE_back h0 (sg.trans s1) t1 dj1 hb
        refine ⟨F2, M3, s1.trans s2, eh1.trans eh2, dj2, fun x o q => ?_, fun x o q => m1 x o (m2 x o q), some v, vs.map some, rfl, ⟨v, rfl, hy.up ((sg.trans s1).trans s2)⟩, t2⟩
        rcases f2 x o q with z | z
        · exact f1 x o z
        · exact .inr (m1 x o z)
      | bx =>
        have e : s' = .bx := hb1
        subst e
        obtain ⟨hy, h0⟩ := h0
        obtain ⟨F1, M1, s1, eh1, dj1, f1, m1, t1⟩ := relE_pop h dj
        obtain ⟨F2, M3, s2, eh2, dj2, f2, m2, t2⟩ := relE_back h0 (sg.trans s1) t1 dj1 hb
        refine ⟨F2, M3, s1.trans s2, eh1.trans eh2, dj2, fun x o q => ?_, fun x o q => m1 x o (m2 x o q), some v, vs.map some, rfl, hy, t2⟩
        rcases f2 x o q with z | z
        · exact f1 x o z
        · exact .inr (m1 x o z)
      | od x t0 =>
        obtain ⟨e, t, e2⟩ := hb1
        subst e e2
        obtain ⟨_, _, ex, _, _, _, h0⟩ := h0
        cases ex
        obtain ⟨Mo, M', k1, k2, k3, k4, tt⟩ := h1
        subst k4
        have djm : Dj F M' := fun y u q => dj y u (k3.f q)
        obtain ⟨F2, M3, s2, eh2, dj2, f2, m2, t2⟩ := relE_back h0 sg tt djm hb
        have dFo : Dj F Mo := OTR.dj t k2
        have d2o : Dj F2 Mo := fun y u q => by
          cases z : F2 y with
          | none => rfl
          | some w =>
            rcases f2 y w z with z | z
            · rw [dFo y u q] at z; cases z
            · rw [k3 y u q] at z; cases z
        have d3o : Dj M3 Mo := fun y u q => by
          cases z : M3 y with
          | none => rfl
          | some w =>
            have := m2 y w z
            rw [k3 y u q] at this; cases this
        refine ⟨F2, HH M3 Mo, s2, ?_, ?_, ?_, ?_, some v, vs.map some, rfl, Mo, M3, rfl, OTR.leD (.of s2) t (fun y u q _ => d2o y u q) k2, d3o, rfl, t2⟩
        · rw [hh_assoc, eh2, hh_assoc]
        · intro y u q
          rcases hh_some q with z | ⟨_, z⟩
          · exact d2o y u z
          · exact dj2 y u z
        · intro y u q
          rcases f2 y u q with z | z
          · exact .inl z
          · exact .inr (k3.f z)
        · intro y u q
          rcases hh_some q with z | ⟨z0, z⟩
          · exact hh_m z
          · rw [hh_n z0]; exact m2 y u z
      | no => exact hb1.elim
      | ol _ => exact hb1.elim
      | ok _ _ => exact hb1.elim
      | ot _ _ => exact hb1.elim
      | oi _ _ _ => exact hb1.elim
end
section
variable {P : Program} {w : World} {K : PySem.W.Frag} {mg : Str → Option Value} {base : Heap}
/-- THE RULE for defs with own arguments -/
theorem fun_okO {x qual : Str} {st : Stmt} {f : Addr} {fd : FuncData} {N ps : List Str} {k : Nat} {wf : WFo} (FF : Fun K x qual st f fd) (S : FnScope N ps (defScope st)) (len : ∀ as Qd, wf as Qd → as.length = ps.length)
    (hbody : ∀ (cdv : Value) (A : Around) (outer : List Env) (s : Shared) (H : Hp) (E : XK), Room k (A.deeper (envOfC qual (defScope st) s.heap.objs.size f cdv)) →
      letI := Lk.top
      ∃ t ws, DSs (cxOf CX0 P w K mg base N qual (defScope st) f cdv A outer s H E).nox (defBody st) t ws ∧
        ∀ as Qd, wf as Qd → ws (startD N as) { nx := fun ρ => ∃ as', back as ρ as' ∧ Qd .non as', rt := fun d ρ => ∃ as', back as ρ as' ∧ Qd d as' }) :
    FnOk P w K mg base CX0 (k + 1) f fd ps (spO ⟨K, mg⟩ wf) := by
  refine FF.ok S (fun vs H Q E h => ?_) (fun cdv A outer s H vs Q E hr h => ?_)
  · obtain ⟨b, F, M, M1, as, Qd, _, R, hw, _⟩ := h
    have := R.env.length
    rw [List.length_map] at this
    rw [this, len as Qd hw]
  · obtain ⟨b, F, M, M1, as, Qd, rfl, R, hw, hq⟩ := h
    letI := Lk.top
    obtain ⟨t, ws, hd, hp⟩ := hbody cdv A outer s (HH F M) E hr
    refine ⟨t, hd.ps, ?_⟩
    have el : vs.length = as.length := by
      have := R.env.length
      rw [List.length_map] at this
      exact this
    have R0 : Rel ⟨K, mg⟩ b (startD N as) (L2.start N vs) F M M1 := by
      refine ⟨R.dj, ?_, R.box, trivial⟩
      unfold startD L2.start
      rw [el]
      exact relE_nos R.env
    have fin : ∀ d v ρ' σ' F' M' M0', (∃ as', back as ρ' as' ∧ Qd d as') → Same F F' → Rel ⟨K, mg⟩ b ρ' σ' F' M' M0' → MR b M1 M0' → Dr ⟨K, mg⟩ F' v d → Q v (HH F' M') := fun d v ρ' σ' F' M' M0' ⟨as', hb, q⟩ s' R' m' r => by
      obtain ⟨F2, M3, s2, eh, dj2, _, _, t2⟩ := relE_back R.env s' R'.env R'.dj hb
      rw [eh]
      exact hq d v as' F2 M3 M0' q (s'.trans s2) ⟨dj2, t2, fun a z => (R'.box a z).leD (.of s2)⟩ m' (r.up s2)
    exact hd.sn R0 _ _ (hp as Qd hw) ⟨fun ρ' σ' F' M' M0' e s' R' m' => fin .non .non ρ' σ' F' M' M0' e s' R' m' .of_non, fun _ _ _ _ _ z => z.elim, fun _ _ _ _ _ z => z.elim, fin⟩
end

/-! ### making an object -/
section
variable {c : Cy} {b : Option Addr} {F M0 : Hp}
theorem ArgsD.relE {as : List Sl} {vs : List V} (h : ArgsD c b F as vs) (M : Hp) (nt : NT M) : RelE c b F M as (vs.map some) M := by
  have := h.rel (M := M) (n := 0) nt
  simpa using this
theorem argsD_only {G : Hp} : ∀ {as : List Sl} {vs : List V} {τ : L2.St} {M : Hp}, ArgsD c b G as vs → RelE c b F M0 as τ M → M = M0
  | [], vs, τ, M, _, h => h.2.1
  | s1 :: as, vs, τ, M, h0, h => by
    obtain ⟨v, vr, _, q, t⟩ := h0
    obtain ⟨v', σr, _, h⟩ := h
    cases s1 with
    | sh d => exact argsD_only t h.2
    | bx => exact argsD_only t h.2
    | _ => exact q.elim
variable {t : TA} {wt : WAs}
def wMake (n : Str) (wf : WFo) (wa : WAs) : WE := fun ρ Q => wa ρ fun as ρ1 => ∀ x, wf (.od x (.ins n [] []) :: as) fun r as' => ∃ t, as' = .od x t :: as ∧ r = .non ∧ Q (otD t) ρ1
theorem snd_make {n : Str} {C : Addr} {wf : WFo} {E : XK} (hm : c.mg n = some (.ref C)) (ha : Snas c t wt) : Snd c (tMake C (spO c wf) [] E t) (wMake n wf wt) := fun {b ρ σ F M M0} R Qd Q hw k => by
  refine ha R _ _ hw fun as ρ1 vs F1 M1 M01 q A ar => ?_
  intro x dx hx hdx ne
  rw [List.append_nil]
  obtain ⟨fx, mx⟩ := hh_none hx
  obtain ⟨fdx, mdx⟩ := hh_none hdx
  have sF : Same F1 (upd F1 dx (.own x)) := Same.updF fdx
  have dj1 : Dj (upd F1 dx (.own x)) M1 := A.rel.dj.updF mdx
  have djo : Dj M1 (upd emp x (.ins C dx [])) := fun a o z => by
    by_cases e : a = x
    · rw [e]; exact mx
    · rw [upd_ne e] at z; cases z
  have eH : upd (upd (HH F1 M1) dx (.own x)) x (.ins C dx []) = HH (upd F1 dx (.own x)) (HH M1 (upd emp x (.ins C dx []))) := by
    rw [hh_updF mdx, hh_updM]
    congr 1
    rw [← hh_updM, hh_emp]
  refine ⟨b, upd F1 dx (.own x), HH M1 (upd emp x (.ins C dx [])), M1, .od (.ref x) (.ins n [] []) :: as, _, eH, ⟨?_, ?_, fun a z => ?_⟩, q (.ref x), fun d v as' F' M' M1' h s R' mr r => ?_⟩
  · intro a o z
    rcases hh_some z with z | ⟨_, z⟩
    · by_cases e : a = x
      · rw [e, upd_ne (fun z => ne z.symm)]; exact fx
      · rw [upd_ne e] at z; cases z
    · exact dj1 a o z
  · refine ⟨some (.ref x), vs.map some, rfl, _, M1, rfl, ?_, djo, rfl, (ar.up sF).relE M1 A.rel.env.nt⟩
    simp only [OTR]
    exact ⟨x, C, dx, [], emp, rfl, hm, rfl, by simp [OTRL], by rw [upd_ne (fun z => ne z.symm)]; exact fx, rfl, rfl⟩
  · obtain ⟨da, ns, m, h1, h2, h3⟩ := A.rel.box a z
    exact ⟨da, ns, m, A.rel.env.sub _ _ h1, sF _ _ h2, h3⟩
  · obtain ⟨t, rfl, rfl, q⟩ := h
    refine ⟨r.non_of, ?_⟩
    obtain ⟨v1, σr, e1, Mo, M2, e2, k2, k3, rfl, tt⟩ := R'.env
    cases e1
    cases e2
    have e3 := argsD_only ar tt
    subst e3
    have dF : Dj F' Mo := OTR.dj t k2
    have s2 : Same F' (HH F' Mo) := dF.same
    have r2 : Dr c (HH F' Mo) (.ref x) (otD t) := OTR.frz s2 t (fun a o z => hh_m z) k2
    have dj2 : Dj (HH F' Mo) M2 := fun a o z => by
      rw [hh_n (k3.mn z)]
      exact R'.dj a o (k3.f z)
    obtain ⟨M0', A2⟩ := A.rel.after ((sF.trans s).trans s2) dj2 (fun a z => (R'.box a z).leD (.of s2)) mr
    rw [hh_comm k3, hh_assoc]
    exact k _ ρ1 (.ref x) _ M2 M0' q (A.trans A2) r2
end
section
variable {X : Cx} {e : Expr} {es : List Expr} {te : TE} {t : TA} {w : WE} {wt : WAs} {p pos : Pos} {k : Nat} {f C : Addr} {fd : FuncData} {ps : List Str} {n : Str}
theorem de_make {wf : WFo} (Mm : Mk X.K C f) (G : FnOk X.prog X.w X.K X.mg X.base CX0 k f fd ps (spO (cy X) wf)) (hr : Room (k + 1) X.A) (hg : Gl X n) (hm : X.mg n = some (.ref C)) (hb : Binds X.K fd ps []) (ha : DAs X (e :: es) t wt)
    (hdb : (n == ("__debug__" : Str)) = false := by decide) (he : starEach (e :: es) X.env = (false, eval e X.env) :: starEach es X.env := by rfl) (hpl : (backTo pos (starEach es X.env)).any (·.1) = false := by rfl) :
    DE X (.Call (.Name n p) (e :: es) [] pos) (tMake C (spO (cy X) wf) [] E0 t) (wMake n wf wt) := ⟨pe_make Mm G hr hg hm hb .nil pass0 ha.pe hdb he hpl, snd_make hm ha.sn⟩
/-- name.f = e, a new field of an own object -/
theorem putF_new {f : Str} {v : V} : ∀ {ps : List (Str × V)}, f ∉ ps.map (·.1) → putF f v ps = ps ++ [(f, v)]
  | [], _ => rfl
  | (g, u) :: ps, h => by
    simp only [List.map_cons, List.mem_cons, not_or] at h
    show (if g = f then _ else _) = _
    rw [if_neg (fun z => h.1 z.symm), putF_new h.2]; rfl
theorem OTRL.snoc {c : Cy} {F : Hp} {t : OT} {v : V} {M2 : Hp} (r : OTR c F t v M2) : ∀ {ts : List OT} {vs : List V} {M1 : Hp}, OTRL c F ts vs M1 → Dj M1 M2 → OTRL c F (ts ++ [t]) (vs ++ [v]) (HH M1 M2)
  | [], vs, M1, h, d => by
    simp only [OTRL] at h
    obtain ⟨rfl, rfl⟩ := h
    rw [emp_hh]
    simp only [List.nil_append, OTRL]
    exact ⟨v, [], M2, emp, rfl, r, ⟨rfl, rfl⟩, fun a o q => rfl, (emp_hh _).symm⟩
  | t0 :: ts, vs, M1, h, d => by
    simp only [OTRL] at h
    obtain ⟨v0, vr, A, B, rfl, r0, r1, d0, rfl⟩ := h
    simp only [List.cons_append, OTRL]
    exact ⟨v0, vr ++ [v], A, HH B M2, rfl, r0, OTRL.snoc r r1 (dj_l d), dj_hh d0 (dj_sym (dj_r d)), hh_swap (dj_r d)⟩
def wFldN (i : Nat) (n f : Str) (w : WE) : WS := fun ρ E => w ρ fun d ρ1 => match ρ1[i]? with
  | some (.od x (.ins n' fs ts)) => (n' = n ∧ f ∉ fs ∧ fs.length < 1000) ∧ E.nx (ρ1.set i (.od x (.ins n' (fs ++ [f]) (ts ++ [.sh d]))))
  | _ => False
theorem ds_fldN (i : Nat) {xn f : Str} {np pos' : Pos} (hm : X.mg n = some (.ref C)) (hc : Cls X.K C) (hn : NoAttr X.K C f) (hv : DE X e te w)
    (hs : swapsWith e (some (.Attribute (.Name xn np) f pos')) pos.line X.env = pure false := by rfl) (hN : X.N[i]? = some xn := by rfl) (hvis : Vis X.env.scope xn := by first | exact Or.inl rfl | exact Or.inr (Or.inl rfl) | exact Or.inr (Or.inr rfl))
    (hd : (xn == ("__debug__" : Str)) = false := by decide) (hcd : (xn == ("__classdict__" : Str)) = false := by decide) : DS X (.Assign [.Attribute (.Name xn np) f pos'] e pos) (sFld X.K (tVar i) te f) (wFldN i n f w) :=
  ⟨ps_fld (pe_var hN hvis hd hcd) hv.pe hs, fun {b ρ σ F M M0} R E Dn hw fin => by
    refine hv.sn R _ _ hw fun d ρ1 y F1 M1 M01 q A r => ?_
    cases e1 : ρ1[i]? with
    | none => simp only [e1] at q
    | some sl =>
      simp only [e1] at q
      cases sl with
      | od x t0 =>
        cases t0 with
        | ins n' fs ts =>
          obtain ⟨⟨rfl, hf, hl⟩, q⟩ := q
          obtain ⟨Mo, M', h1, h2, h3, h4, h5, h6, h7⟩ := A.rel.env.ownT e1
          have h2' := h2
          simp only [OTR] at h2
          obtain ⟨a, C', dx, ps, M2, rfl, hg, rfl, rl, fa, ma, rfl⟩ := h2
          have eC : C' = C := by
            have hg : X.mg n' = some (.ref C') := hg
            rw [hm] at hg
            cases hg; rfl
          subst eC
          have hH : HH F1 M1 a = some (.ins C' dx ps) := hh_m (by rw [h4]; exact hh_m upd_same)
          refine ⟨.ref a, h1, a, C', dx, ps, rfl, hH, hc, hn, by rw [← List.length_map (f := (·.1))]; exact hl, ?_⟩
          rw [putF_new hf, hh_updM]
          have eM : upd M1 a (.ins C' dx (ps ++ [(f, y)])) = HH M' (upd M2 a (.ins C' dx (ps ++ [(f, y)]))) := by rw [h4, hh_updM, upd_upd]
          rw [eM]
          have djn : Dj M' (upd M2 a (.ins C' dx (ps ++ [(f, y)]))) := fun u o z => by
            by_cases e : u = a
            · rw [e]; exact h3 a _ upd_same
            · rw [upd_ne e] at z; exact h3 u o (by rw [upd_ne e]; exact z)
          have rn : OTR (cy X) F1 (.ins n' (ps.map (·.1) ++ [f]) (ts ++ [.sh d])) (.ref a) (upd M2 a (.ins C' dx (ps ++ [(f, y)]))) := by
            simp only [OTR]
            refine ⟨a, C', dx, ps ++ [(f, y)], M2, rfl, hg, by simp, ?_, fa, ma, rfl⟩
            have := OTRL.snoc (t := .sh d) (v := y) (M2 := emp) (by simp only [OTR]; exact ⟨r, trivial⟩) rl (fun _ _ z => nomatch z)
            rw [hh_emp] at this
            simpa using this
          have t2 := h7 _ _ rn djn
          refine fin.nx _ σ F1 _ M01 q A.same ⟨fun u o z => ?_, t2, A.rel.box, A.rel.lk⟩ A.mr
          rcases hh_some z with z | ⟨_, z⟩
          · exact OTR.dj _ rn u o z
          · exact A.rel.dj u o (by rw [h4]; exact (h3.f z))
        | _ => exact q.elim
      | _ => exact q.elim⟩
end
end DL

/-! dict(..), zip, isinstance; rows that are copied and stored into. -/
namespace DL
open PySem PySem.Spec PyProof.Rows L2
variable [Lk]

section
variable {c : Cy} {X : Cx}
/-! ### dict(pairs), dict(d) -/
def kD : Key → D
  | .inl i => .int i
  | .inr s => .str s
def pairD (p : Key × D) : D := .tup [kD p.1, p.2]
theorem kD_v {F : Hp} {v : V} : ∀ {k : Key}, Dr c F v (kD k) → v = kV k
  | .inl i, h => by rw [Dr.int_of (i := i) h]; rfl
  | .inr s, h => by rw [Dr.str_of (i := s) h]; rfl
theorem merge_new : ∀ (more acc : List (Key × V)), (acc.map (·.1) ++ more.map (·.1)).Nodup → mergeK acc more = acc ++ more
  | [], acc, _ => by rw [List.append_nil]; rfl
  | (k, v) :: more, acc, h => by
    have hk : k ∉ acc.map (·.1) := fun z => by
      rw [List.map_cons, List.nodup_append] at h
      exact h.2.2 k z k List.mem_cons_self rfl
    have e : putK acc k v = acc ++ [(k, v)] := putK_new v (by
      cases q : valV acc k with
      | none => rfl
      | some u =>
        exact absurd (valV_in q) hk)
    show mergeK (putK acc k v) more = _
    rw [e, merge_new more _ (by simpa using h), List.append_assoc]; rfl
theorem pairs_v {F : Hp} : ∀ {kds : List (Key × D)} {vs : List V}, DrL c F vs (kds.map pairD) → ∃ (ps : List Addr) (kvs : List (Key × V)), vs = ps.map V.ref ∧ kvs.map (·.1) = kds.map (·.1) ∧ DrL c F (kvs.map (·.2)) (kds.map (·.2)) ∧
    ∀ (K : PySem.W.Frag) (G : Hp), Same F G → Paired (fun p kv => SqT K G p [kV kv.1, kv.2]) ps kvs
  | [], vs, h => ⟨[], [], h.nil_iff, rfl, .nil, fun K G s => .nil⟩
  | kd :: kds, vs, h => by
    obtain ⟨v, vr, rfl, q, t⟩ := h.cons_iff
    obtain ⟨ps, kvs, rfl, e, r, pp⟩ := pairs_v t
    unfold pairD at q
    simp only [Dr] at q
    obtain ⟨p, us, rfl, hp, q⟩ := q
    obtain ⟨u1, us, rfl, q1, q⟩ := q.cons_iff
    obtain ⟨u2, us, rfl, q2, q⟩ := q.cons_iff
    have eu := q.nil_iff
    subst eu
    have ek := kD_v q1
    subst ek
    exact ⟨p :: ps, (kd.1, u2) :: kvs, rfl, by simp [e], .cons q2 r, fun K G s => .cons (SqT.of (s _ _ hp)) (pp K G s)⟩
theorem new_dk {F M : Hp} {ps : List (Key × V)} {ds : List D} {p : Addr} {Q : VK} {Qd : D → Prop} (dj : Dj F M) (r : DrL c F (ps.map (·.2)) ds) (hp : HH F M p = none) (q : Qd (.dk (ps.map (·.1)) ds)) (k : ∀ d v F', Qd d → Same F F' → Dj F' M → Dr c F' v d → Q v (HH F' M)) :
    Q (.ref p) (upd (HH F M) p (.dK ps)) := by
  obtain ⟨hf, hm⟩ := hh_none hp
  rw [hh_updF hm]
  refine k _ _ _ q (Same.updF hf) (dj.updF hm) ?_
  simp only [Dr]
  exact ⟨p, ps, rfl, .inl upd_same, rfl, r.up (Same.updF hf)⟩
def rDict (K : PySem.W.Frag) : List V → Hp → VK → Prop := fun xs H Q => (∃ (a : Addr) (ps : List Addr) (kvs : List (Key × V)), xs = [.ref a] ∧ SqL K H a (ps.map V.ref) ∧ Paired (fun p kv => SqT K H p [kV kv.1, kv.2]) ps kvs ∧
    ∀ p, H p = none → Q (.ref p) (upd H p (.dK (mergeK [] kvs)))) ∨ ∃ (a : Addr) (kvs : List (Key × V)), xs = [.ref a] ∧ Rd H a (.dK kvs) ∧ ∀ p, H p = none → Q (.ref p) (upd H p (.dK kvs))
theorem call_dictU (hc : X.calm = true) : CallR X (.type "dict") (rDict X.K) := CallR.or (call_dictP hc) call_dictD
def dDict : D → (D → Prop) → Prop
  | .lst ds, Q => ∃ kds : List (Key × D), ds = kds.map pairD ∧ (kds.map (·.1)).Nodup ∧ Q (.dk (kds.map (·.1)) (kds.map (·.2)))
  | .dk ks ds, Q => Q (.dk ks ds)
  | _, _ => False
theorem ro1_dict : Ro1 (cy X) (fun x H Q => rDict X.K [x] H Q) dDict := fun {b F M x d1} Qd Q dj r1 hw k => by
  cases d1 with
  | lst ds =>
    obtain ⟨kds, rfl, nd, q⟩ := hw
    obtain ⟨a, vs, rfl, _, h, r⟩ := r1.lst_of
    obtain ⟨ps, kvs, rfl, e, r2, pp⟩ := pairs_v r
    refine .inl ⟨a, ps, kvs, rfl, SqL.of h, pp _ _ dj.same, fun p hp => ?_⟩
    rw [merge_new kvs [] (by simpa [e] using nd), List.nil_append]
    exact new_dk dj r2 hp (by rw [e]; exact q) k
  | dk ks ds =>
    obtain ⟨a, ps, rfl, _, h, e, r⟩ := r1
    exact .inr ⟨a, ps, rfl, h, fun p hp => new_dk dj r hp (by rw [e]; exact hw) k⟩
  | _ => exact hw.elim

/-! ### isinstance(e, T), T a built-in type -/
def tyD : D → Option String
  | .non => some "NoneType"
  | .bl _ => some "bool"
  | .int _ => some "int"
  | .str _ => some "str"
  | .lst _ => some "list"
  | .tup _ => some "tuple"
  | _ => none
def dIsi (T : String) : D → (D → Prop) → Prop := fun d Q => ∃ t b, tyD d = some t ∧ kitB t T = some b ∧ Q (.bl b)
theorem rop_isi {T : String} : Ro1 (cy X) (fun x H Q => rIsi X.K [x, .ty T] H Q) (dIsi T) := fun {b F M x d1} Qd Q dj r1 hw k => by
  obtain ⟨t, bb, e1, e2, q⟩ := hw
  have fin : TyX X.K (HH F M) x (.type t) → rIsi X.K [x, .ty T] (HH F M) Q := fun ty => ⟨x, .ty T, .type t, .type T, bb, rfl, .ty T, ty, kit_ty e2, k _ _ F q (Same.refl _) dj .of_bl⟩
  cases d1 with
  | non => cases e1; rw [r1.non_of] at fin ⊢; exact fin (.base .non)
  | bl i => cases e1; rw [r1.bl_of] at fin ⊢; exact fin (.base (.bl _))
  | int i => cases e1; rw [r1.int_of] at fin ⊢; exact fin (.base (.int _))
  | str i => cases e1; rw [r1.str_of] at fin ⊢; exact fin (.base (.str _))
  | lst ds =>
    cases e1
    obtain ⟨a, vs, rfl, _, h, r⟩ := r1.lst_of
    exact fin (.base (.lst h))
  | tup ds =>
    cases e1
    obtain ⟨a, vs, rfl, h, r⟩ := r1.tup_of
    exact fin (.base (.tup (dj.f h)))
  | _ => cases e1
theorem de_isi {e : Expr} {te : TE} {w : WE} {x : Str} {T : String} {p p2 pos : Pos} (hg : Gl X "isinstance") (hm : X.mg "isinstance" = none) (hgT : Gl X x) (hmT : X.mg x = none) (hvT : bootBuiltins x = some (.type T)) (ha : DP X e te w)
    (hv : bootBuiltins "isinstance" = some (.builtin "isinstance") := by decide +kernel) (hn : x ≠ "__name__" := by decide) (hdb : (x == ("__debug__" : Str)) = false := by decide)
    (he : starEach (e :: [.Name x p2]) X.env = (false, eval e X.env) :: starEach [.Name x p2] X.env := by rfl) (he2 : starEach (.Name x p2 :: []) X.env = (false, eval (.Name x p2) X.env) :: starEach [] X.env := by rfl)
    (hpl : (backTo pos (starEach [.Name x p2] X.env)).any (·.1) = false := by rfl) :
    DE X (.Call (.Name "isinstance" p) [e, .Name x p2] [] pos) (tCB (rIsi X.K) (tCons te (tCons (tC (.ty T)) tNil))) (wUn (dIsi T) w) :=
  ⟨pe_callB call_isi hg hm hv (pa_cons ha.pe (pa_cons (pe_bltn hgT hmT hvT rfl hn hdb) pa_nil he2) he) (by decide) (by decide) he hpl, fun {b ρ σ F M M0} R Qd Q hw k => snd_un (c := cy X) (r := fun x H Q => rIsi X.K [x, .ty T] H Q) rop_isi ha.sn R Qd Q hw k⟩

/-! ### zip -/
def zipD : List D → List D → List D
  | d :: ds, e :: es => .tup [d, e] :: zipD ds es
  | _, _ => []
theorem zipD_get : ∀ {ds es : List D} {i : Nat} {d : D}, (zipD ds es)[i]? = some d → ∃ x y, ds[i]? = some x ∧ es[i]? = some y ∧ d = .tup [x, y]
  | [], _, i, d, h => by simp [zipD] at h
  | _ :: _, [], i, d, h => by simp [zipD] at h
  | x :: ds, y :: es, 0, d, h => by simp [zipD] at h; exact ⟨x, y, rfl, rfl, h.symm⟩
  | x :: ds, y :: es, i + 1, d, h => by
    obtain ⟨a, b, h1, h2, h3⟩ := zipD_get (ds := ds) (es := es) (i := i) (by simpa [zipD] using h)
    exact ⟨a, b, by simpa using h1, by simpa using h2, h3⟩
theorem zipD_len : ∀ {ds es : List D}, (zipD ds es).length = min ds.length es.length
  | [], _ => by simp [zipD]
  | _ :: _, [] => by simp [zipD]
  | x :: ds, y :: es => by simp [zipD, zipD_len (ds := ds) (es := es)]
theorem itz_ok {F : Hp} {a a2 : Addr} {vs us : List V} {ds es : List D} (h : F a = some (.lst vs)) (r : DrL c F vs ds) (h2 : F a2 = some (.lst us)) (r2 : DrL c F us es) : ItOk c (Itz c.K a a2) F (zipD ds es) := fun F' M' s dj _ i => by
  have q : SqL c.K (HH F' M') a vs := SqL.of (dj.f (s _ _ h))
  have q2 : SqL c.K (HH F' M') a2 us := SqL.of (dj.f (s _ _ h2))
  refine ⟨fun d hd => ?_, fun e => ⟨vs, us, q, q2, by rw [r.length, r2.length]; rw [zipD_len] at e; omega⟩⟩
  obtain ⟨x, y, hx, hy, rfl⟩ := zipD_get hd
  obtain ⟨v, hv, rv⟩ := r.get hx
  obtain ⟨u, hu, ru⟩ := r2.get hy
  refine ⟨⟨vs, us, v, u, q, q2, hv, hu⟩, fun z H3 hz => ?_⟩
  obtain ⟨T, x', y', rfl, hT, rfl, e1, e2⟩ := hz
  have ex : x' = v := Option.some.inj ((e1 vs q).symm.trans hv)
  have ey : y' = u := Option.some.inj ((e2 us q2).symm.trans hu)
  subst ex ey
  obtain ⟨hf, hm⟩ := hh_none hT
  have s2 : Same F' (upd F' T (.tup [x', y'])) := Same.updF hf
  refine ⟨_, hh_updF hm, s2, dj.updF hm, ?_⟩
  simp only [Dr]
  exact ⟨T, _, rfl, upd_same, .cons (rv.up (s.trans s2)) (.cons (ru.up (s.trans s2)) .nil)⟩
def wZip (wt : WA) : WA := fun ρ Q => wt ρ fun ds ρ1 => match ds with
  | [.lst a, .lst b] => Q (zipD a b) ρ1
  | _ => False
theorem di_zip {e e2 : Expr} {ta : TA} {wt : WA} {p pos tpos : Pos} {elts : List Expr} {kk : Nat} (hg : Gl X "zip") (hm : X.mg "zip" = none) (ha : DA X [e, e2] ta wt)
    (hs : starEach [e, e2] X.env = (false, eval e X.env) :: starEach [e2] X.env := by rfl) (hpl : (backTo pos (starEach [e2] X.env)).any (·.1) = false := by rfl) :
    DI X (.Tuple elts kk tpos) (.Call (.Name "zip" p) [e, e2] [] pos) (iZip X.K ta) (wZip wt) := ⟨pi_zip hg hm ha.pe hs hpl, fun {b ρ σ F M M0} R Qd Q hw k => by
  refine ha.sn R _ _ hw fun ds ρ1 vs F1 M1 M01 q A r => ?_
  match ds, q, r with
  | [.lst xs, .lst ys], q, r =>
    obtain ⟨v, vr, rfl, r1, r2⟩ := r.cons_iff
    obtain ⟨v', vr', rfl, r1', r2'⟩ := r2.cons_iff
    have e2 := r2'.nil_iff
    subst e2
    simp only [Dr] at r1 r1'
    obtain ⟨a, us, rfl, h1, q1⟩ := r1
    obtain ⟨a', us', rfl, h1', q1'⟩ := r1'
    exact ⟨a, a', us, us', rfl, SqL.of (A.rel.dj.f h1), SqL.of (A.rel.dj.f h1'), k _ ρ1 _ F1 M1 M01 q A (itz_ok (c := cy X) h1 q1 h1' q1')⟩⟩
end
end DL

/-! Own dicts: stores. Rows of dicts: copied, read, stored into. -/
namespace DL
open PySem PySem.Spec PyProof.Rows L2
variable [Lk]

section
variable {κ : Type} [DecidableEq κ]
def setA : List κ → List D → κ → D → List D
  | k :: ks, d :: ds, x, y => (if k = x then y else d) :: setA ks ds x y
  | _, ds, _, _ => ds
def putA (ks : List κ) (ds : List D) (k : κ) (x : D) : List κ × List D := if k ∈ ks then (ks, setA ks ds k x) else (ks ++ [k], ds ++ [x])
theorem putK_A {c : Cy} {F : Hp} {ps : List (κ × V)} {ds : List D} {k : κ} {v : V} {x : D} (r : DrL c F (ps.map (·.2)) ds) (q : Dr c F v x) :
    (putK ps k v).map (·.1) = (putA (ps.map (·.1)) ds k x).1 ∧ DrL c F ((putK ps k v).map (·.2)) (putA (ps.map (·.1)) ds k x).2 := by
  have he : (ps.any fun kv => decide (kv.1 = k)) = decide (k ∈ ps.map (·.1)) := by
    rw [Bool.eq_iff_iff]
    simp only [List.any_eq_true, decide_eq_true_eq, List.mem_map]
  unfold putK putA
  rw [he]
  by_cases h : k ∈ ps.map (·.1)
  · rw [if_pos (decide_eq_true h), if_pos h]
    refine ⟨?_, ?_⟩
    · rw [List.map_map]
      refine List.map_congr_left fun p _ => ?_
      show (if p.1 = k then (p.1, v) else p).1 = p.1
      split <;> rfl
    · clear h he
      induction ps generalizing ds with
      | nil => rw [show ds = [] from by cases ds with | nil => rfl | cons d ds => have := r.length; simp at this]; exact .nil
      | cons p ps ih =>
        cases ds with
        | nil => have := r.length; simp at this
        | cons d ds =>
          obtain ⟨u, ur, e, r1, r2⟩ := r.cons_iff
          simp only [List.map_cons] at e
          cases e
          simp only [List.map_cons, setA]
          refine .cons ?_ (ih r2)
          by_cases z : p.1 = k
          · rw [if_pos z, if_pos z]; exact q
          · rw [if_neg z, if_neg z]; exact r1
  · rw [if_neg (by simpa using h), if_neg h]
    refine ⟨by simp, ?_⟩
    rw [List.map_append]
    exact r.append (.cons q .nil)
end
section
variable {X : Cx} {e e2 ev : Expr} {te t2 tv : TE} {w w2 wv : WE} {pos : Pos}
/-- the keys of a tuple of scalars -/
theorem keyT_v {c : Cy} {F : Hp} {v : V} {ds : List D} {ks : List Key} (h : keysD ds = some ks) (r : Dr c F v (.tup ds)) : ∃ a, v = .ref a ∧ F a = some (.tup (ks.map kV)) := by
  simp only [Dr] at r
  obtain ⟨a, vs, rfl, q, r⟩ := r
  exact ⟨a, rfl, by rw [q, keysD_v h r]⟩
/-! ### name[key] = value, an own dict -/
def isDict : Sl → Prop
  | .ok _ _ => True
  | .ot _ _ => True
  | _ => False
def ownDict (ρ : List Sl) (i : Nat) : Prop := ∃ sl, ρ[i]? = some sl ∧ isDict sl
def wPut (i : Nat) (wk wv : WE) : WS := fun ρ E => wv ρ fun d ρ1 => ownDict ρ1 i ∧ wk ρ1 fun dk ρ2 => match ρ2[i]? with
  | some (.ok ks ds) => ∃ k, keyD dk = some k ∧ ks.length < sizeLine ∧ E.nx (ρ2.set i (.ok (putA ks ds k d).1 (putA ks ds k d).2))
  | some (.ot ks ds) => ∃ kd k, dk = .tup kd ∧ keysD kd = some k ∧ ks.length < sizeLine ∧ E.nx (ρ2.set i (.ot (putA ks ds k d).1 (putA ks ds k d).2))
  | _ => False
theorem ds_put (i : Nat) {xn : Str} {np sp : Pos} (hu : X.A.units + 1 < cLine) (hk : DE X e2 t2 w2) (hv : DE X ev tv wv) (hs : swapsWith ev (some (.Subscript (.Name xn np) e2 sp)) pos.line X.env = pure false := by rfl)
    (hN : X.N[i]? = some xn := by rfl) (hvis : Vis X.env.scope xn := by first | exact Or.inl rfl | exact Or.inr (Or.inl rfl) | exact Or.inr (Or.inr rfl)) (hd : (xn == ("__debug__" : Str)) = false := by decide)
    (hcd : (xn == ("__classdict__" : Str)) = false := by decide) : DS X (.Assign [.Subscript (.Name xn np) e2 sp] ev pos) (sDPut (tVar i) t2 tv) (wPut i w2 wv) :=
  ⟨ps_dput hu (pe_var hN hvis hd hcd) hk.pe hv.pe hs, fun {b ρ σ F M M0} R E Dn hw fin => by
    refine hv.sn R _ _ hw fun d ρ1 v F1 M1 M01 q1 A1 r1 => ?_
    obtain ⟨⟨sl1, e1, hd1⟩, q1⟩ := q1
    have hs1 : isShal sl1 := by cases sl1 <;> first | trivial | exact hd1.elim
    obtain ⟨a, _, _, ha, _⟩ := A1.rel.env.own e1 hs1
    refine ⟨.ref a, ha, ?_⟩
    refine hk.sn A1.rel _ _ q1 fun dk ρ2 y F2 M2 M02 q2 A2 r2 => ?_
    cases e2 : ρ2[i]? with
    | none => simp only [e2] at q2
    | some sl =>
      simp only [e2] at q2
      have r1' := r1.up A2.same
      cases sl with
      | ok ks ds =>
        obtain ⟨k, hk, hl, q⟩ := q2
        obtain ⟨a', o, M', h1, h2, h3, h4, h5, h6, h7, h8⟩ := A2.rel.env.own e2 trivial
        rw [ha] at h1
        have ea : a = a' := by injection h1 with h1; injection h1 with h1; injection h1
        subst ea
        obtain ⟨ps, rfl, rfl, rd⟩ := h2
        have hH : HH F2 M2 a = some (.dK ps) := hh_m (by rw [h5]; exact upd_same)
        rw [keyD_v hk r2]
        refine ⟨a, _, rfl, DPut.k hH (by rw [← List.length_map (f := (·.1))]; exact hl), ?_⟩
        rw [hh_updM]
        have pk := putK_A (k := k) rd r1'
        have t := h8 (.ok _ _) (.dK (putK ps k v)) trivial ⟨_, rfl, pk.1, pk.2⟩
        have eM : upd M2 a (.dK (putK ps k v)) = upd M' a (.dK (putK ps k v)) := by rw [h5, upd_upd]
        rw [eM]
        refine fin.nx _ σ F2 _ M02 q (A1.trans A2).same ⟨?_, t, A2.rel.box, A2.rel.lk⟩ (A1.trans A2).mr
        rw [← eM]
        exact A2.rel.dj.updM h3
      | ot ks ds =>
        obtain ⟨kd, k, rfl, hk, hl, q⟩ := q2
        obtain ⟨a', o, M', h1, h2, h3, h4, h5, h6, h7, h8⟩ := A2.rel.env.own e2 trivial
        rw [ha] at h1
        have ea : a = a' := by injection h1 with h1; injection h1 with h1; injection h1
        subst ea
        obtain ⟨ps, rfl, rfl, rd⟩ := h2
        have hH : HH F2 M2 a = some (.dT ps) := hh_m (by rw [h5]; exact upd_same)
        obtain ⟨kb, rfl, hkb⟩ := keyT_v hk r2
        refine ⟨a, _, rfl, DPut.t hH (A2.rel.dj.f hkb) (by rw [← List.length_map (f := (·.1))]; exact hl), ?_⟩
        rw [hh_updM]
        have pk := putK_A (k := k) rd r1'
        have t := h8 (.ot _ _) (.dT (putK ps k v)) trivial ⟨_, rfl, pk.1, pk.2⟩
        have eM : upd M2 a (.dT (putK ps k v)) = upd M' a (.dT (putK ps k v)) := by rw [h5, upd_upd]
        rw [eM]
        refine fin.nx _ σ F2 _ M02 q (A1.trans A2).same ⟨?_, t, A2.rel.box, A2.rel.lk⟩ (A1.trans A2).mr
        rw [← eM]
        exact A2.rel.dj.updM h3
      | _ => exact q2.elim⟩
/-! ### {} -/
def wfDk : List Sl → (Sl → List Sl → Prop) → Prop := fun ρ Q => Q (.ok [] []) ρ
def wfDt : List Sl → (Sl → List Sl → Prop) → Prop := fun ρ Q => Q (.ot [] []) ρ
theorem df_dk : DF X (.Dict [] [] pos) tDNewK wfDk := ⟨pe_dnewK, fun {b ρ σ F M M0} R Qd Q hw k p hp => by
  obtain ⟨hf, hm⟩ := hh_none hp
  rw [hh_updM]
  exact k (.ok [] []) ρ p _ F M M0 hw R.aft trivial ⟨[], rfl, rfl, .nil⟩ hf hm⟩
theorem df_dt : DF X (.Dict [] [] pos) tDNewT wfDt := ⟨pe_dnewT, fun {b ρ σ F M M0} R Qd Q hw k p hp => by
  obtain ⟨hf, hm⟩ := hh_none hp
  rw [hh_updM]
  exact k (.ot [] []) ρ p _ F M M0 hw R.aft trivial ⟨[], rfl, rfl, .nil⟩ hf hm⟩

/-! ### rows of dicts -/
abbrev RowD := List Key × List D
def rowD (r : RowD) : D := .dk r.1 r.2
def rowT (r : RowD) : OT := .dk r.1 (r.2.map OT.sh)
def rowsT (rows : List RowD) : OT := .lst (rows.map rowT)
theorem otDL_sh : ∀ ds : List D, otDL (ds.map OT.sh) = ds
  | [] => rfl
  | d :: ds => by simp only [List.map_cons, otDL, otD, otDL_sh ds]
theorem otD_rows (rows : List RowD) : otD (rowsT rows) = .lst (rows.map rowD) := by
  have : ∀ rows : List RowD, otDL (rows.map rowT) = rows.map rowD := fun rows => by
    induction rows with
    | nil => rfl
    | cons r rows ih => simp only [List.map_cons, otDL, ih, rowT, otD, otDL_sh, rowD]
  simp only [rowsT, otD, this]
theorem OTRL.shs {c : Cy} {F : Hp} : ∀ {ds : List D} {vs : List V}, DrL c F vs ds → OTRL c F (ds.map OT.sh) vs emp
  | [], vs, r => by rw [r.nil_iff]; simp [OTRL]
  | d :: ds, vs, r => by
    obtain ⟨v, vr, rfl, q, t⟩ := r.cons_iff
    simp only [List.map_cons, OTRL]
    exact ⟨v, vr, emp, emp, rfl, by simp only [OTR]; exact ⟨q, trivial⟩, OTRL.shs t, (fun a o z => nomatch z), (hh_emp emp).symm⟩
theorem OTRL.unsh {c : Cy} {F : Hp} : ∀ {ds : List D} {vs : List V} {M : Hp}, OTRL c F (ds.map OT.sh) vs M → DrL c F vs ds ∧ M = emp
  | [], vs, M, h => by simp only [List.map_nil, OTRL] at h; rw [h.1]; exact ⟨.nil, h.2⟩
  | d :: ds, vs, M, h => by
    simp only [List.map_cons, OTRL] at h
    obtain ⟨v, vr, M1, M2, rfl, r1, r2, d12, rfl⟩ := h
    simp only [OTR] at r1
    obtain ⟨r3, e3⟩ := OTRL.unsh r2
    rw [r1.2, e3]
    exact ⟨.cons r1.1 r3, hh_emp emp⟩
theorem ifT {A B : Prop} (h : A) : (if true = true then A else B) := by rw [if_pos rfl]; exact h
/-- name = [dict(r) for r in rows] : own rows -/
def wCopy (i j : Nat) (w : WA) : WS := fun ρ E => w ρ fun ds ρ1 => ∃ rows : List RowD, ds = rows.map rowD ∧ ds.length ≤ sizeLine ∧ noOwnB ρ1 [i] = true ∧ i < ρ1.length ∧ j < ρ1.length ∧ ∀ x, E.nx (ρ1.set i (.od x (rowsT rows)))
theorem ds_copyRowsS (i j : Nat) {st : Stmt} {wi : TI} {w : WA} {w0 : WS} (hi : Sni (cy X) wi w) (h : DS X st (tAsg (tLc wi (gName j) tYes (tCB (rDict X.K) (tCons (tVar j) tNil)) [j]) (gName i)) w0) :
    DS X st (tAsg (tLc wi (gName j) tYes (tCB (rDict X.K) (tCons (tVar j) tNil)) [j]) (gName i)) (wCopy i j w) := ⟨h.ps, fun {b ρ σ F M M0} R E Dn hw f => by
  refine hi R _ _ hw fun ds ρ1 J F1 M1 M01 q A it => ?_
  obtain ⟨rows, rfl, hlen, hno, hil, hjl, q⟩ := q
  rw [List.length_map] at hlen
  intro p hp
  obtain ⟨hpf, hpm⟩ := hh_none hp
  refine ⟨fun n m H' => m = rows.length - n ∧ n ≤ rows.length ∧ ∃ (us : List V) (N F' : Hp), H' = HH F' (upd (HH M1 N) p (.lst us)) ∧ Same F1 F' ∧ Dj F' M1 ∧ F' p = none ∧ N p = none ∧ Dj M1 N ∧ OTRL (cy X) F' ((rows.take n).map rowT) us N ∧ us.length = n,
    ⟨rows.length, by simp, Nat.zero_le _, [], emp, F1, by rw [hh_emp, hh_updM], Same.refl _, A.rel.dj, hpf, rfl, (fun a o z => nomatch z), by simp [OTRL], rfl⟩, ?_⟩
  rintro n m H' ⟨rfl, hnl, us, N, F', rfl, s, djm, fp, np, djn, tr, ul⟩
  have dFN : Dj F' N := OTRL.dj _ tr
  have djA : Dj F' (upd (HH M1 N) p (.lst us)) := by
    refine Dj.updM (fun a o z => ?_) fp
    rcases hh_some z with z | ⟨_, z⟩
    · exact dFN a o z
    · exact djm a o z
  have ntA : NT (upd (HH M1 N) p (.lst us)) := (NT.hh A.rel.env.nt (OTRL.nt _ tr)).upd fun xs z => nomatch z
  by_cases hlt : n < rows.length
  · have hd : (rows.map rowD)[n]? = some (rowD rows[n]) := by rw [List.getElem?_map, List.getElem?_eq_getElem hlt]; rfl
    refine .inr ⟨((it F' _ s djA ntA n).1 _ hd).1, fun H2 => n + 1 ≤ rows.length ∧ ∃ (us : List V) (N F' : Hp), H2 = HH F' (upd (HH M1 N) p (.lst us)) ∧ Same F1 F' ∧ Dj F' M1 ∧ F' p = none ∧ N p = none ∧ Dj M1 N ∧ OTRL (cy X) F' ((rows.take (n + 1)).map rowT) us N ∧ us.length = n + 1,
      fun H2 n2 => ⟨rows.length - (n + 1), by omega, rfl, n2.1, n2.2⟩, fun y H3 hy => ?_⟩
    obtain ⟨F3, rfl, s3, dj3, r3⟩ := ((it F' _ s djA ntA n).1 _ hd).2 y H3 hy
    have ej : (wipe σ [j]).length = σ.length := by simp [L2.wipe]
    have hjσ : j < (wipe σ [j]).length := by rw [ej, A.rel.env.length]; exact hjl
    refine ⟨?_, ?_⟩
    · show (((σ.set j none).set j (some y)).set j none) = σ.set j none
      rw [List.set_set, List.set_set]
    · unfold tYes
      dsimp only
      rw [if_pos rfl]
      refine ⟨y, by rw [List.getElem?_set_self hjσ], ?_⟩
      unfold rowD at r3
      simp only [Dr] at r3
      obtain ⟨a, ps, rfl, hrd, hk, rd⟩ := r3
      refine .inr ⟨a, ps, rfl, same_rd dj3.same hrd, fun pp hpp => ?_⟩
      obtain ⟨ppf, ppm⟩ := hh_none hpp
      have npp : pp ≠ p := fun z => by rw [z, upd_same] at ppm; cases ppm
      rw [upd_ne npp] at ppm
      have ppmn := hh_none ppm
      refine ⟨us, by rw [upd_ne npp.symm]; exact hh_m upd_same, by rw [ul]; omega, hlt, us ++ [.ref pp], upd N pp (.dK ps), F3, ?_, s.trans s3, ?_, ?_, ?_, ?_, ?_, by simp [ul]⟩
      · rw [hh_updM, hh_updM]
        congr 1
        rw [upd_comm npp.symm, upd_upd, hh_updM]
      · exact fun a o z => by
          by_cases e : a = p
          · rw [e, hpm] at z; cases z
          · refine dj3 a o ?_
            rw [upd_ne e]
            exact djn.f z
      · exact dj3 p _ upd_same
      · rw [upd_ne npp.symm]; exact np
      · intro a o z
        by_cases e : a = pp
        · rw [e]; exact ppmn.1
        · rw [upd_ne e] at z; exact djn a o z
      · have tr3 : OTRL (cy X) F3 ((rows.take n).map rowT) us N := OTRL.leD (.of s3) _ (fun a o z _ => by
          refine dj3 a o ?_
          have e : a ≠ p := fun e => by rw [e, np] at z; cases z
          rw [upd_ne e]; exact hh_m z) tr
        have t1 : OTR (cy X) F3 (rowT rows[n]) (.ref pp) (upd emp pp (.dK ps)) := by
          simp only [rowT, OTR]
          exact ⟨pp, ps, emp, rfl, hk, OTRL.shs rd, ppf, rfl, rfl⟩
        have := OTRL.snoc t1 tr3 (fun a o z => by
          by_cases e : a = pp
          · rw [e]; exact ppmn.2
          · rw [upd_ne e] at z; cases z)
        rw [← hh_updM, hh_emp] at this
        rw [List.take_succ_eq_append_getElem hlt, List.map_append]
        exact this
  · have en : n = rows.length := by omega
    subst en
    rw [List.take_length] at tr
    refine .inl ⟨(it F' _ s djA ntA _).2 (by rw [List.length_map]), ?_⟩
    show Dn.nx (σ.set i (some (.ref p))) (HH F' (upd (HH M1 N) p (.lst us)))
    rw [hh_updM (F := M1) (M := N)]
    have rT : OTR (cy X) F' (rowsT rows) (.ref p) (upd N p (.lst us)) := by
      simp only [rowsT, OTR]
      exact ⟨p, us, N, rfl, tr, fp, np, rfl⟩
    have djT : Dj M1 (upd N p (.lst us)) := djn.updM hpm
    have G := A.rel.grow s djm
    have hsl : ∃ sl, ρ1[i]? = some sl := ⟨ρ1[i], List.getElem?_eq_getElem hil⟩
    obtain ⟨sl, esl⟩ := hsl
    have t := RelE.setOd (x := .ref p) rT G.rel.env djT esl (noOwn_of hno i (by simp) sl esl)
    refine f.nx _ _ F' _ M01 (q (.ref p)) (A.same.trans s) ⟨fun a o z => ?_, t, G.rel.box, G.rel.lk⟩ A.mr
    rcases hh_some z with z | ⟨_, z⟩
    · exact OTR.dj _ rT a o z
    · exact djm a o z⟩
theorem ds_copyRows (i j : Nat) {y : Str} {py lp sp : Pos} {elt tg iter : Expr} {ifs : List Expr} {scope : Scope} {wi : TI} {w : WA} {w0 : WS} (hi : DI X tg iter wi w)
    (h : DS X (.Assign [.Name y py] (.ListComp elt [⟨tg, iter, ifs, 0⟩] scope lp) sp) (tAsg (tLc wi (gName j) tYes (tCB (rDict X.K) (tCons (tVar j) tNil)) [j]) (gName i)) w0) :
    DS X (.Assign [.Name y py] (.ListComp elt [⟨tg, iter, ifs, 0⟩] scope lp) sp) (tAsg (tLc wi (gName j) tYes (tCB (rDict X.K) (tCons (tVar j) tNil)) [j]) (gName i)) (wCopy i j w) := ds_copyRowsS i j hi.sn h
/-- one tree of a list of trees: it may be another one -/
theorem OTRL.at {c : Cy} {F : Hp} : ∀ {ts : List OT} {vs : List V} {M : Hp} {k : Nat} {t : OT}, OTRL c F ts vs M → ts[k]? = some t → ∃ v Mk Mr, vs[k]? = some v ∧ OTR c F t v Mk ∧ Dj Mr Mk ∧ M = HH Mr Mk ∧
    ∀ t' Mk', OTR c F t' v Mk' → Dj Mr Mk' → OTRL c F (ts.set k t') vs (HH Mr Mk')
  | [], vs, M, k, t, h, e => by simp at e
  | t0 :: ts, vs, M, 0, t, h, e => by
    simp only [OTRL] at h
    obtain ⟨v, vr, M1, M2, rfl, r1, r2, d, rfl⟩ := h
    simp at e; subst e
    refine ⟨v, M1, M2, rfl, r1, d, rfl, fun t' Mk' r' d' => ?_⟩
    simp only [List.set_cons_zero, OTRL]
    exact ⟨v, vr, Mk', M2, rfl, r', r2, d', rfl⟩
  | t0 :: ts, vs, M, k + 1, t, h, e => by
    simp only [OTRL] at h
    obtain ⟨v, vr, M1, M2, rfl, r1, r2, d, rfl⟩ := h
    obtain ⟨u, Mk, Mr, h1, h2, h3, rfl, h5⟩ := OTRL.at (k := k) r2 (by simpa using e)
    refine ⟨u, Mk, HH Mr M1, by simpa using h1, h2, dj_hh h3 (dj_sym (dj_r d)), hh_swap (dj_r d), fun t' Mk' r' d' => ?_⟩
    simp only [List.set_cons_succ, OTRL]
    exact ⟨v, vr, M1, HH Mr Mk', rfl, r1, h5 t' Mk' r' (dj_l d'), dj_hh (dj_l d) (dj_sym (dj_r d')), hh_swap (dj_r d')⟩
theorem Rel.od_nb {c : Cy} {b : Option Addr} {ρ : List Sl} {σ : L2.St} {F M M0 Mo M' : Hp} (R : Rel c b ρ σ F M M0) (h : ∀ a o, M0 a = some o → M' a = some o) (d : Dj M' Mo) {a : Addr} {o : HO} (q : Mo a = some o) : b ≠ some a := fun e => by
  obtain ⟨_, _, _, h1, _⟩ := R.box a e
  have := d a o q
  rw [h _ _ h1] at this
  cases this
/-! ### name[e] of own rows -/
def wRowPk (i : Nat) (w : WE) : WE := fun ρ Q => (∃ x t, ρ[i]? = some (.od x t)) ∧ w ρ fun d1 ρ1 => ∃ x rows k r, ρ1[i]? = some (.od x (rowsT rows)) ∧ d1 = .int k ∧ 0 ≤ k ∧ rows[k.toNat]? = some r ∧ Q (rowD r) ρ1
theorem snp_row {i : Nat} (he : Snd (cy X) te w) : Snp (cy X) (tOp (rIxU X.K) (tVar i) te) (wRowPk i w) := fun {b ρ σ F M M0} R Qd Q hw k => by
  obtain ⟨⟨x, t, e0⟩, hw⟩ := hw
  obtain ⟨_, _, hx, _⟩ := R.env.ownT e0
  refine ⟨x, hx, ?_⟩
  refine he R _ _ hw fun d1 ρ1 y F1 M1 M01 q A r => ?_
  obtain ⟨x1, rows, n, r0, e1, rfl, h0, hr, q⟩ := q
  obtain ⟨Mo, M', h1, h2, h3, h4, h5, h6, h7⟩ := A.rel.env.ownT e1
  rw [hx] at h1
  have ex : x = x1 := by injection h1 with h1; injection h1 with h1
  subst ex
  simp only [rowsT, OTR] at h2
  obtain ⟨p, us, N, rfl, tr, fp, np, rfl⟩ := h2
  obtain ⟨u, Mk, Mr, g1, g2, g3, rfl, g5⟩ := OTRL.at (k := n.toNat) (t := rowT r0) tr (by rw [List.getElem?_map, hr]; rfl)
  simp only [rowT, OTR] at g2
  obtain ⟨a, ps, N1, rfl, hk, tr1, fa, na, rfl⟩ := g2
  obtain ⟨rd, rfl⟩ := OTRL.unsh tr1
  have hH : HH F1 M1 p = some (.lst us) := hh_m (by rw [h4]; exact hh_m upd_same)
  have hoa : upd (HH Mr (upd emp a (.dK ps))) p (.lst us) a = some (.dK ps) := by
    have nap : a ≠ p := fun z => by rw [← z, hh_m upd_same] at np; cases np
    rw [upd_ne nap]
    exact hh_m upd_same
  have hA : HH F1 M1 a = some (.dK ps) := hh_m (by rw [h4]; exact hh_m hoa)
  refine .inl (.inl ⟨p, us, n, .ref a, rfl, r.int_of, SqL.of hH, atI_nat h0 g1, ?_⟩)
  refine k (rowD r0) ρ1 (.ref a) F1 M1 M01 q A ?_
  exact ⟨a, ps, rfl, A.rel.od_nb h5 h3 hoa, .inl hA, hk, rd⟩
theorem dp_row (i : Nat) {xn : Str} {np : Pos} (hu : X.A.units + 1 < cLine) (he : DE X e te w) (hs : PlainIx e) (hN : X.N[i]? = some xn := by rfl) (hvis : Vis X.env.scope xn := by first | exact Or.inl rfl | exact Or.inr (Or.inl rfl) | exact Or.inr (Or.inr rfl)) (hd : (xn == ("__debug__" : Str)) = false := by decide)
    (hcd : (xn == ("__classdict__" : Str)) = false := by decide) : DP X (.Subscript (.Name xn np) e pos) (tOp (rIxU X.K) (tVar i) te) (wRowPk i w) := ⟨pe_ix (ix_U hu) (pe_var hN hvis hd hcd) he.pe hs, snp_row he.sn⟩
/-- name[e1][key] = value, own rows -/
def wPutRow (i : Nat) (w1 wk wv : WE) : WS := fun ρ E => wv ρ fun d ρ1 => (∃ x t, ρ1[i]? = some (.od x t)) ∧ w1 ρ1 fun d1 ρ2 => (∃ x rows k r, ρ2[i]? = some (.od x (rowsT rows)) ∧ d1 = .int k ∧ 0 ≤ k ∧ rows[k.toNat]? = some r) ∧
  wk ρ2 fun dk ρ3 => ∃ x rows k r key, ρ2[i]? = some (.od x (rowsT rows)) ∧ ρ3[i]? = some (.od x (rowsT rows)) ∧ d1 = .int k ∧ 0 ≤ k ∧ rows[k.toNat]? = some r ∧ keyD dk = some key ∧ r.1.length < sizeLine ∧ E.nx (ρ3.set i (.od x (rowsT (rows.set k.toNat (putA r.1 r.2 key d)))))
theorem ds_putRow (i : Nat) {xn : Str} {np sp sp2 : Pos} (hu : X.A.units + 1 < cLine) (h1 : DE X e te w) (hk : DE X e2 t2 w2) (hv : DE X ev tv wv) (hs1 : PlainIx e) (hs : swapsWith ev (some (.Subscript (.Subscript (.Name xn np) e sp) e2 sp2)) pos.line X.env = pure false := by rfl)
    (hN : X.N[i]? = some xn := by rfl) (hvis : Vis X.env.scope xn := by first | exact Or.inl rfl | exact Or.inr (Or.inl rfl) | exact Or.inr (Or.inr rfl)) (hd : (xn == ("__debug__" : Str)) = false := by decide)
    (hcd : (xn == ("__classdict__" : Str)) = false := by decide) : DS X (.Assign [.Subscript (.Subscript (.Name xn np) e sp) e2 sp2] ev pos) (sDPut (tOp (rIxU X.K) (tVar i) te) t2 tv) (wPutRow i w w2 wv) :=
  ⟨ps_dput hu (pe_ix (ix_U hu) (pe_var hN hvis hd hcd) h1.pe hs1) hk.pe hv.pe hs, fun {b ρ σ F M M0} R E Dn hw fin => by
    refine hv.sn R _ _ hw fun d ρ1 v F1 M1 M01 q1 A1 r1 => ?_
    obtain ⟨⟨x0, t0, e0⟩, q1⟩ := q1
    obtain ⟨_, _, hx, _⟩ := A1.rel.env.ownT e0
    refine ⟨x0, hx, ?_⟩
    refine h1.sn A1.rel _ _ q1 fun d1 ρ2 y F2 M2 M02 q2 A2 r2 => ?_
    obtain ⟨⟨x1, rows, n, r0, e1, rfl, h0, hr⟩, q2⟩ := q2
    obtain ⟨Mo, M', g1, g2, g3, g4, g5, g6, g7⟩ := A2.rel.env.ownT e1
    rw [hx] at g1
    have ex : x0 = x1 := by injection g1 with g1; injection g1 with g1
    subst ex
    simp only [rowsT, OTR] at g2
    obtain ⟨p, us, N, rfl, tr, fp, np, rfl⟩ := g2
    have hH : HH F2 M2 p = some (.lst us) := hh_m (by rw [g4]; exact hh_m upd_same)
    obtain ⟨u, Mk, Mr, k1, k2, k3, rfl, k5⟩ := OTRL.at (k := n.toNat) (t := rowT r0) tr (by rw [List.getElem?_map, hr]; rfl)
    simp only [rowT, OTR] at k2
    obtain ⟨a, ps, N1, rfl, hk', tr1, fa, na, rfl⟩ := k2
    have hnp : b ≠ some p := A2.rel.od_nb g5 g3 upd_same
    refine .inl (.inl ⟨p, us, n, .ref a, rfl, r2.int_of, SqL.of hH, atI_nat h0 k1, ?_⟩)
    refine hk.sn A2.rel _ _ q2 fun dk ρ3 z F3 M3 M03 q3 A3 r3 => ?_
    obtain ⟨x2, rows2, n2, r02, key, e2, e3, en, h02, hr2, hkey, hlen, q⟩ := q3
    cases en
    rw [e1] at e2
    have e2' : rows = rows2 ∧ V.ref p = x2 := by
      injection e2 with e2
      injection e2 with ex er
      have inj : ∀ {r r' : RowD}, rowT r = rowT r' → r = r' := fun {r r'} h => by
        have h' := congrArg otD h
        simp only [rowT, otD, otDL_sh, D.dk.injEq] at h'
        exact Prod.ext h'.1 h'.2
      refine ⟨?_, ex⟩
      simp only [rowsT, OT.lst.injEq] at er
      exact (List.map_inj_right fun _ _ h => inj h).mp er
    obtain ⟨rfl, rfl⟩ := e2'
    rw [hr] at hr2
    cases hr2
    obtain ⟨Mo3, M3', j1, j2, j3, j4, j5, j6, j7⟩ := A3.rel.env.ownT e3
    simp only [rowsT, OTR] at j2
    obtain ⟨p3, us3, N3, ep, tr3, fp3, np3, rfl⟩ := j2
    cases ep
    have hH3 : HH F3 M3 p = some (.lst us3) := hh_m (by rw [j4]; exact hh_m upd_same)
    have eus : us3 = us := by
      have := A3.ext p _ hnp hH
      rw [hH3] at this
      cases this; rfl
    subst eus
    obtain ⟨u3, Mk3, Mr3, l1, l2, l3, rfl, l5⟩ := OTRL.at (k := n.toNat) (t := rowT r0) tr3 (by rw [List.getElem?_map, hr]; rfl)
    rw [k1] at l1
    cases l1
    simp only [rowT, OTR] at l2
    obtain ⟨a3, ps3, N4, ea, hk3, tr4, fa3, na3, rfl⟩ := l2
    cases ea
    obtain ⟨rd, rfl⟩ := OTRL.unsh tr4
    have nap : a ≠ p := fun z => by rw [← z, hh_m upd_same] at np3; cases np3
    have hoa : upd (HH Mr3 (upd emp a (.dK ps3))) p (.lst us3) a = some (.dK ps3) := by
      rw [upd_ne nap]; exact hh_m upd_same
    have hA : HH F3 M3 a = some (.dK ps3) := hh_m (by rw [j4]; exact hh_m hoa)
    rw [keyD_v hkey r3]
    refine ⟨a, _, rfl, DPut.k hA (by rw [← List.length_map (f := (·.1)), hk3]; exact hlen), ?_⟩
    have rv := (r1.up A2.same).up A3.same
    have pk := putK_A (k := key) rd rv
    rw [hh_updM]
    have hMr : Mr3 a = none := l3 a _ upd_same
    have eM : upd M3 a (.dK (putK ps3 key v)) = HH M3' (upd (HH Mr3 (upd emp a (.dK (putK ps3 key v)))) p (.lst us3)) := by
      rw [j4, hh_updM, upd_comm nap.symm, hh_updM, upd_upd]
    rw [eM]
    have dk' : Dj Mr3 (upd emp a (.dK (putK ps3 key v))) := fun y o z => by
      by_cases e : y = a
      · rw [e]; exact hMr
      · rw [upd_ne e] at z; cases z
    have rn : OTR (cy X) F3 (rowsT (rows.set n.toNat (putA r0.1 r0.2 key d))) (.ref p) (upd (HH Mr3 (upd emp a (.dK (putK ps3 key v)))) p (.lst us3)) := by
      simp only [rowsT, OTR]
      refine ⟨p, us3, _, rfl, ?_, fp3, ?_, rfl⟩
      · have := l5 (rowT (putA r0.1 r0.2 key d)) (upd emp a (.dK (putK ps3 key v))) (by
          simp only [rowT, OTR]
          rw [← hk3]
          exact ⟨a, putK ps3 key v, emp, rfl, pk.1, OTRL.shs pk.2, fa3, rfl, rfl⟩) dk'
        rw [List.map_set]
        exact this
      · have h1 := hh_none np3
        rw [hh_n (by rw [upd_ne nap.symm]; rfl)]
        exact h1.1
    have djn : Dj M3' (upd (HH Mr3 (upd emp a (.dK (putK ps3 key v)))) p (.lst us3)) := fun y o z => by
      by_cases e : y = p
      · rw [e]; exact j3 p _ upd_same
      · rw [upd_ne e] at z
        by_cases e' : y = a
        · rw [e']; exact j3 a _ hoa
        · refine j3 y o ?_
          rw [upd_ne e]
          rcases hh_some z with z | ⟨_, z⟩
          · rw [upd_ne e'] at z; cases z
          · exact l3.f z
    have t2 := j7 _ _ rn djn
    have AA := (A1.trans A2).trans A3
    refine fin.nx _ σ F3 _ M03 q AA.same ⟨fun y o z => ?_, t2, A3.rel.box, A3.rel.lk⟩ AA.mr
    rcases hh_some z with z | ⟨_, z⟩
    · exact OTR.dj _ rn y o z
    · exact A3.rel.dj y o (by rw [j4]; exact j3.f z)⟩
end
end DL

/-! Stores into own lists; what is never reached; the new readings, applied. -/
namespace DL
open PySem PySem.Spec PyProof.Rows L2
variable [Lk]
section
variable {X : Cx} {e ev : Expr} {te tv : TE} {w wv : WE} {pos : Pos}
def wLSet (i : Nat) (w1 wv : WE) : WS := fun ρ E => wv ρ fun d ρ1 => (∃ ds, ρ1[i]? = some (.ol ds)) ∧ w1 ρ1 fun d1 ρ2 => ∃ ds k, ρ2[i]? = some (.ol ds) ∧ d1 = .int k ∧ 0 ≤ k ∧ k < ds.length ∧ E.nx (ρ2.set i (.ol (ds.set k.toNat d)))
theorem ds_lset (i : Nat) {xn : Str} {np sp : Pos} (h1 : DE X e te w) (hv : DE X ev tv wv)
    (hs : swapsWithSole [.Subscript (.Name xn np) e sp] ev pos.line X.env = pure false := by rfl) (hw : swappedStores [.Subscript (.Name xn np) e sp] ev X.env = pure none := by rfl)
    (ha1 : (assignEach [.Subscript (.Name xn np) e sp] X.env).map (·.2) = [assign (.Subscript (.Name xn np) e sp) X.env] := by rfl)
    (ha : ∀ v, assign (.Subscript (.Name xn np) e sp) X.env v = (do
      let ov ← holding [v] (eval (.Name xn np) X.env)
      let iv ← holding [v, ov] (eval e X.env)
      standAt sp
      holding [v, ov, iv] (setItem ov iv v)
      release [v, ov, iv] []) := by intro _; rfl)
    (hN : X.N[i]? = some xn := by rfl) (hvis : Vis X.env.scope xn := by first | exact Or.inl rfl | exact Or.inr (Or.inl rfl) | exact Or.inr (Or.inr rfl)) (hd : (xn == ("__debug__" : Str)) = false := by decide)
    (hcd : (xn == ("__classdict__" : Str)) = false := by decide) : DS X (.Assign [.Subscript (.Name xn np) e sp] ev pos) (tAsg tv (gSub (tVar i) te rSetL)) (wLSet i w wv) :=
  ⟨ps_asg hv.pe (pg_sub (pe_var hN hvis hd hcd) h1.pe set_list ha) hs hw ha1, fun {b ρ σ F M M0} R E Dn hw fin => by
    refine hv.sn R _ _ hw fun d ρ1 v F1 M1 M01 q1 A1 r1 => ?_
    obtain ⟨⟨ds0, e0⟩, q1⟩ := q1
    obtain ⟨p, _, _, hp, _⟩ := A1.rel.env.own e0 trivial
    refine ⟨.ref p, hp, ?_⟩
    refine h1.sn A1.rel _ _ q1 fun d1 ρ2 y F2 M2 M02 q2 A2 r2 => ?_
    obtain ⟨ds, k, e1, rfl, h0, hl, q⟩ := q2
    obtain ⟨a, vs, g1, g2, g3, g4, g5⟩ := A2.rel.ownL e1
    rw [hp] at g1
    have ea : p = a := by injection g1 with g1; injection g1 with g1; injection g1
    subst ea
    have hj : ixN vs.length k = some k.toNat := by
      unfold ixN
      rw [if_pos h0, if_pos (by rw [g2.length]; exact hl)]
    refine ⟨p, vs, k, k.toNat, rfl, r2.int_of, g4, hj, ?_⟩
    show Dn.nx σ (upd (HH F2 M2) p (.lst (vs.set k.toNat v)))
    rw [hh_updM]
    exact fin.nx _ σ F2 _ M02 q (A1.trans A2).same (g5 _ _ (g2.set (r1.up A2.same))) (A1.trans A2).mr⟩
/-- list(e), a new own list -/
def wfList (w : WE) : List Sl → (Sl → List Sl → Prop) → Prop := fun ρ Q => w ρ fun d ρ1 => match d with
  | .lst ds => Q (.ol ds) ρ1
  | .tup ds => Q (.ol ds) ρ1
  | .scr ds => Q (.ol ds) ρ1
  | _ => False
theorem df_list {a : Expr} {ta : TE} {wa : WE} {x : Str} {p : Pos} {r : List V → Hp → VK → Prop} (hc : CallR X (.type "list") r)
    (hr : ∀ (v : V) (H : Hp) (Q : VK) (p : Addr) (ys : List V), v = .ref p → (SqL X.K H p ys ∨ SqT X.K H p ys) → (∀ l, H l = none → Q (.ref l) (upd H l (.lst ys))) → r [v] H Q)
    (hg : Gl X x) (hm : X.mg x = none) (hv : bootBuiltins x = some (.type "list")) (ha : DP X a ta wa)
    (hn : x ≠ "__name__" := by decide) (hdb : (x == ("__debug__" : Str)) = false := by decide) (he : starEach (a :: []) X.env = (false, eval a X.env) :: starEach [] X.env := by rfl) (hpl : (backTo pos (starEach [] X.env)).any (·.1) = false := by rfl) :
    DF X (.Call (.Name x p) [a] [] pos) (tCB r (tCons ta tNil)) (wfList wa) := ⟨pe_callTy hc hg hm hv (pa_cons ha.pe pa_nil he) hn hdb he hpl, fun {b ρ σ F M M0} R Qd Q hw k => by
  refine ha.sn R _ _ hw fun d ρ1 v F1 M1 M01 q A rk => ?_
  have go : ∀ (pp : Addr) (ys : List V) (ds : List D), v = .ref pp → (SqL X.K (HH F1 M1) pp ys ∨ SqT X.K (HH F1 M1) pp ys) → DrL (cy X) F1 ys ds → Qd (.ol ds) ρ1 → r [v] (HH F1 M1) Q := fun pp ys ds e h rd q => hr v _ _ pp ys e h fun l hl => by
    obtain ⟨hf, hm⟩ := hh_none hl
    rw [hh_updM]
    exact k (.ol ds) ρ1 l _ F1 M1 M01 q A trivial ⟨ys, rfl, rd⟩ hf hm
  cases d with
  | lst ds =>
    obtain ⟨a, vs, rfl, _, h, rd⟩ := rk.lst_of
    exact go a vs ds rfl (.inl (SqL.of h)) rd q
  | tup ds =>
    obtain ⟨a, vs, rfl, h, rd⟩ := rk.tup_of
    exact go a vs ds rfl (.inr (SqT.of (A.rel.dj.f h))) rd q
  | scr ds =>
    obtain ⟨a, vs, rfl, h, rd⟩ := rk.scr_of
    exact go a vs ds rfl (.inl (A.rel.dj.same.seq h)) rd q
  | _ => exact q.elim⟩
def wNever : WS := fun _ _ => False
theorem ds_never {st : Stmt} : DS X st tNever wNever := ⟨ps_never, fun {b ρ σ F M M0} R E Dn hw f => hw.elim⟩
end
section
variable {ρ : List Sl} {E : EnD} {w w1 w2 wk wv : WE} {wa : WAs} {wl : WA} {Qd : D → List Sl → Prop} {Ql : List D → List Sl → Prop} {Qs : Sl → List Sl → Prop} {i j : Nat} {n f m : Str}
theorem xu : wLSet i w1 wv ρ E = wv ρ fun d ρ1 => (∃ ds, ρ1[i]? = some (.ol ds)) ∧ w1 ρ1 fun d1 ρ2 => ∃ ds k, ρ2[i]? = some (.ol ds) ∧ d1 = .int k ∧ 0 ≤ k ∧ k < ds.length ∧ E.nx (ρ2.set i (.ol (ds.set k.toNat d))) := rfl
theorem x9 : wfList w ρ Qs = w ρ fun d ρ1 => match d with
  | .lst ds => Qs (.ol ds) ρ1
  | .tup ds => Qs (.ol ds) ρ1
  | .scr ds => Qs (.ol ds) ρ1
  | _ => False := rfl
theorem xw : wNever ρ E = False := rfl
theorem xy : wFld n f w ρ Qd = w ρ fun d ρ1 => match d with
  | .ins n' fs ds => n' = n ∧ ∃ d', lookD fs ds f = some d' ∧ Qd d' ρ1
  | _ => False := rfl
theorem xz {wf : WFn} : wMeth n m wf w wa ρ Qd = w ρ fun d ρ1 => match d with
  | .ins n' fs ds => (n' = n ∧ m ∉ fs) ∧ wa ρ1 fun as ρ2 => wf (.sh (.ins n' fs ds) :: as) fun r => Qd r ρ2
  | _ => False := rfl
theorem x5 {wf : WFo} : wMake n wf wa ρ Qd = wa ρ fun as ρ1 => ∀ x, wf (.od x (.ins n [] []) :: as) fun r as' => ∃ t, as' = .od x t :: as ∧ r = .non ∧ Qd (otD t) ρ1 := rfl
theorem x6 : wFldN i n f w ρ E = w ρ fun d ρ1 => match ρ1[i]? with
  | some (.od x (.ins n' fs ts)) => (n' = n ∧ f ∉ fs ∧ fs.length < 1000) ∧ E.nx (ρ1.set i (.od x (.ins n' (fs ++ [f]) (ts ++ [.sh d]))))
  | _ => False := rfl
theorem x7 {wt : WA} : wZip wt ρ Ql = wt ρ fun ds ρ1 => match ds with
  | [.lst a, .lst b] => Ql (zipD a b) ρ1
  | _ => False := rfl
theorem x8 : wPut i wk wv ρ E = wv ρ fun d ρ1 => ownDict ρ1 i ∧ wk ρ1 fun dk ρ2 => match ρ2[i]? with
  | some (.ok ks ds) => ∃ k, keyD dk = some k ∧ ks.length < sizeLine ∧ E.nx (ρ2.set i (.ok (putA ks ds k d).1 (putA ks ds k d).2))
  | some (.ot ks ds) => ∃ kd k, dk = .tup kd ∧ keysD kd = some k ∧ ks.length < sizeLine ∧ E.nx (ρ2.set i (.ot (putA ks ds k d).1 (putA ks ds k d).2))
  | _ => False := rfl
theorem qb : wfDk ρ Qs = Qs (.ok [] []) ρ := rfl
theorem qc : wfDt ρ Qs = Qs (.ot [] []) ρ := rfl
theorem qd : wCopy i j wl ρ E = wl ρ fun ds ρ1 => ∃ rows : List RowD, ds = rows.map rowD ∧ ds.length ≤ sizeLine ∧ noOwnB ρ1 [i] = true ∧ i < ρ1.length ∧ j < ρ1.length ∧ ∀ x, E.nx (ρ1.set i (.od x (rowsT rows))) := rfl
theorem qf : wRowPk i w ρ Qd = ((∃ x t, ρ[i]? = some (.od x t)) ∧ w ρ fun d1 ρ1 => ∃ x rows k r, ρ1[i]? = some (.od x (rowsT rows)) ∧ d1 = .int k ∧ 0 ≤ k ∧ rows[k.toNat]? = some r ∧ Qd (rowD r) ρ1) := rfl
theorem qg : wPutRow i w1 wk wv ρ E = wv ρ fun d ρ1 => (∃ x t, ρ1[i]? = some (.od x t)) ∧ w1 ρ1 fun d1 ρ2 => (∃ x rows k r, ρ2[i]? = some (.od x (rowsT rows)) ∧ d1 = .int k ∧ 0 ≤ k ∧ rows[k.toNat]? = some r) ∧
  wk ρ2 fun dk ρ3 => ∃ x rows k r key, ρ2[i]? = some (.od x (rowsT rows)) ∧ ρ3[i]? = some (.od x (rowsT rows)) ∧ d1 = .int k ∧ 0 ≤ k ∧ rows[k.toNat]? = some r ∧ keyD dk = some key ∧ r.1.length < sizeLine ∧ E.nx (ρ3.set i (.od x (rowsT (rows.set k.toNat (putA r.1 r.2 key d))))) := rfl
end
end DL

/-! Lists unpacked. -/
namespace DL
open PySem PySem.Spec PyProof.Rows L2
variable [Lk]
def wTpL (is : List Nat) : WG := fun d ρ Q => match d with
  | .lst ds => ds.length = is.length ∧ wStL is ds ρ Q
  | _ => False
theorem zV {ρ : List Sl} {is : List Nat} {Q : List Sl → Prop} {ds : List D} : wTpL is (.lst ds) ρ Q = (ds.length = is.length ∧ wStL is ds ρ Q) := rfl
theorem sng_lst {c : Cy} (is : List Nat) {n : Nat} (hn : n = is.length) : Sng c (gLst c.K n (gNames is)) (wTpL is) is := fun {b ρ σ F M M0 v d} R r Qd Q hw k => by
  cases d with
  | lst ds =>
    simp only [Dr] at r
    obtain ⟨a, vs, e, q, rl⟩ := r
    exact ⟨a, vs, e, SqL.of (R.dj.f q), by rw [rl.length, hn]; exact hw.1, sngs_names is R rl Qd Q hw.2 k⟩
  | _ => exact hw.elim
section
variable {X : Cx} {pos : Pos}
theorem dg_lst {es : List Expr} {k : Nat} (is : List Nat) (hc : X.calm = true) (h : PGs X es (gNames is)) (hn : (assignEach es X.env).length = is.length := by rfl) (hst : (assignEach es X.env).findIdx? (·.1) = none := by rfl) : DG X (.Tuple es k pos) (gLst X.K is.length (gNames is)) (wTpL is) is :=
  ⟨pg_lst hc h hn hst, sng_lst (c := cy X) is rfl⟩
end
end DL

/-! name += int; own dict(..); == of equal flat dicts. -/
namespace DL
open PySem PySem.Spec PyProof.Rows L2
variable [Lk]
section
variable {X : Cx} {pos : Pos}
/-! ### name += e, name -= e -/
theorem rop_ipI {c : Cy} {g : Int → Int → Int} : Rop c (ipI g) (dI2 fun i j => .int (g i j)) := fun {b F M x y d1 d2} Qd Q dj r1 r2 hw k => by
  cases d1 with
  | int i =>
    cases d2 with
    | int j =>
      rw [r1.int_of, r2.int_of]
      exact ⟨i, j, rfl, rfl, k _ _ F hw (Same.refl _) dj (fun _ f _ => f) .of_int⟩
    | _ => exact hw.elim
  | _ => exact hw.elim
abbrev qF := dI2 fun i j => D.int (i + j)
theorem ip_mul : PIp X .Mult (rI CMul fun i j => .int (i * j)) := by
  intro pins s σ H x y v u Q I r1 r2 h
  obtain ⟨i, j, e1, e2, hc, q⟩ := h
  subst e1; subst e2
  obtain ⟨t, rfl⟩ := r1
  obtain ⟨t', rfl⟩ := r2
  exact PySem.AutoIntOps.imul_0 ⟨.int _, H, I.tok _, ⟨_, rfl⟩, q⟩ hc.ok
/-! ### name = dict(e), an own dict -/
def wfDict (w : WE) : List Sl → (Sl → List Sl → Prop) → Prop := fun ρ Q => w ρ fun d ρ1 => match d with
  | .lst ds => ∃ kds : List (Key × D), ds = kds.map pairD ∧ (kds.map (·.1)).Nodup ∧ Q (.ok (kds.map (·.1)) (kds.map (·.2))) ρ1
  | .dk ks ds => Q (.ok ks ds) ρ1
  | _ => False
theorem df_dict {a : Expr} {ta : TE} {wa : WE} {x : Str} {p : Pos} (hc : X.calm = true)
    (hg : Gl X x) (hm : X.mg x = none) (hv : bootBuiltins x = some (.type "dict")) (ha : DP X a ta wa)
    (hn : x ≠ "__name__" := by decide) (hdb : (x == ("__debug__" : Str)) = false := by decide) (he : starEach (a :: []) X.env = (false, eval a X.env) :: starEach [] X.env := by rfl) (hpl : (backTo pos (starEach [] X.env)).any (·.1) = false := by rfl) :
    DF X (.Call (.Name x p) [a] [] pos) (tCB (rDict X.K) (tCons ta tNil)) (wfDict wa) := ⟨pe_callTy (call_dictU hc) hg hm hv (pa_cons ha.pe pa_nil he) hn hdb he hpl, fun {b ρ σ F M M0} R Qd Q hw k => by
  refine ha.sn R _ _ hw fun d ρ1 v F1 M1 M01 q A rk => ?_
  have go : ∀ (l : Addr) (ps : List (Key × V)) (ks : List Key) (ds : List D), ps.map (·.1) = ks → DrL (cy X) F1 (ps.map (·.2)) ds → Qd (.ok ks ds) ρ1 → HH F1 M1 l = none → Q (.ref l) (upd (HH F1 M1) l (.dK ps)) := fun l ps ks ds e rd q hl => by
    obtain ⟨hf, hm⟩ := hh_none hl
    rw [hh_updM]
    exact k (.ok ks ds) ρ1 l _ F1 M1 M01 q A trivial ⟨ps, rfl, e, rd⟩ hf hm
  cases d with
  | lst ds =>
    obtain ⟨kds, rfl, nd, q⟩ := q
    obtain ⟨a, vs, rfl, _, h, r⟩ := rk.lst_of
    obtain ⟨ps, kvs, rfl, e, r2, pp⟩ := pairs_v r
    refine .inl ⟨a, ps, kvs, rfl, SqL.of h, pp _ _ A.rel.dj.same, fun p hp => ?_⟩
    rw [merge_new kvs [] (by simpa [e] using nd), List.nil_append]
    exact go p kvs _ _ e r2 q hp
  | dk ks ds =>
    obtain ⟨a, ps, rfl, _, h, e, r⟩ := rk
    exact .inr ⟨a, ps, rfl, h, fun p hp => go p ps _ _ e r q hp⟩
  | _ => exact q.elim⟩
/-! ### == of equal flat dicts -/
def qG : D → D → (D → Prop) → Prop
  | .dk ks ds, .dk ks' ds', Q => ks' = ks ∧ ds' = ds ∧ ks.Nodup ∧ (∀ d ∈ ds, flatD d = true) ∧ Q (.bl true)
  | _, _, _ => False
theorem flat_v {c : Cy} {F : Hp} {v u : V} : ∀ {d : D}, flatD d = true → Dr c F v d → Dr c F u d → v = u ∧ flatB v = true
  | .non, _, h, g => by rw [h.non_of, g.non_of]; exact ⟨rfl, rfl⟩
  | .bl _, _, h, g => by rw [h.bl_of, g.bl_of]; exact ⟨rfl, rfl⟩
  | .int _, _, h, g => by rw [h.int_of, g.int_of]; exact ⟨rfl, rfl⟩
  | .str _, _, h, g => by rw [h.str_of, g.str_of]; exact ⟨rfl, rfl⟩
theorem flat_dicts {c : Cy} {F : Hp} {κ : Type} [DecidableEq κ] : ∀ {ps qs : List (κ × V)} {ds : List D}, ps.map (·.1) = qs.map (·.1) → (ps.map (·.1)).Nodup → (∀ d ∈ ds, flatD d = true) → DrL c F (ps.map (·.2)) ds → DrL c F (qs.map (·.2)) ds →
    ∀ p ∈ ps, ∃ u, valV qs p.1 = some u ∧ (p.2 = u ∧ flatB p.2 = true) := by
  intro ps
  induction ps with
  | nil => intro qs ds _ _ _ _ _ p hp; cases hp
  | cons a ps ih =>
    intro qs ds e nd fl r1 r2 p hp
    cases qs with
    | nil => cases e
    | cons b qs =>
      obtain ⟨k1, v1⟩ := a
      obtain ⟨k2, v2⟩ := b
      simp only [List.map_cons, List.cons.injEq] at e
      obtain ⟨e1, e2⟩ := e
      subst e1
      cases ds with
      | nil => have := r1.length; simp at this
      | cons d ds =>
        simp only [List.map_cons] at r1 r2
        obtain ⟨u1, w1, f1, q1, t1⟩ := r1.cons_iff
        obtain ⟨u2, w2, f2, q2, t2⟩ := r2.cons_iff
        cases f1
        cases f2
        rw [List.map_cons, List.nodup_cons] at nd
        rcases List.mem_cons.mp hp with rfl | hp
        · have := flat_v (fl d List.mem_cons_self) q1 q2
          exact ⟨_, by simp [valV], this⟩
        · obtain ⟨u, hu, h⟩ := ih e2 nd.2 (fun d hd => fl d (List.mem_cons_of_mem _ hd)) t1 t2 p hp
          refine ⟨u, ?_, h⟩
          have hne : k1 ≠ p.1 := fun z => nd.1 (by rw [z]; exact List.mem_map.mpr ⟨p, hp, rfl⟩)
          unfold valV at hu ⊢
          rw [List.find?_cons_of_neg (by simpa using hne)]
          exact hu
def rDkS : R2 := fun x y H Q => ∃ a b ks ls, x = .ref a ∧ y = .ref b ∧ Rd H a (.dK ks) ∧ Rd H b (.dK ls) ∧ ks.length = ls.length ∧ (∀ p ∈ ks, ∃ u, valV ls p.1 = some u ∧ (p.2 = u ∧ flatB p.2 = true)) ∧ Q (.bl true) H
theorem op_dkS (hu : X.A.units + 64 < cLine) : OpR X (compareOp .Eq) rDkS := by
  intro pins s σ H x y v u Q I rx ry h
  obtain ⟨a, b, ks, ls, rfl, rfl, ha, hb, hl, hp, q⟩ := h
  cases (show v = Value.ref a from rx)
  cases (show u = Value.ref b from ry)
  obtain ⟨_, ya, va, ra, da⟩ := (show ObjOk X.prog X.w H s.heap a (.dK ks) from ha.ok I.hok)
  obtain ⟨_, yb, vb, rb, db⟩ := (show ObjOk X.prog X.w H s.heap b (.dK ls) from hb.ok I.hok)
  refine PySem.W.rcP_dicts (knd := mixKind X.prog X.w) (r := true) ya yb da db (by omega) (fun _ => hits_run (F := fun x y => x = y ∧ flatB x = true) (fun x y v u h r1 r2 => by
    obtain ⟨rfl, f⟩ := h
    exact (eqAt_same r1 r2 f).eqP) rb ra hp) _ _ ?_
  have e : va.length = vb.length := by rw [← ra.length, ← rb.length]; exact hl
  rw [show (va.length == vb.length && true) = true from by rw [e]; simp]
  exact ⟨.bl true, H, I, rfl, q⟩
theorem rop_eqS : Rop (cy X) rDkS qG := fun {b F M x y d1 d2} Qd Q dj r1 r2 hw k => by
  cases d1 with
  | dk ks ds =>
    cases d2 with
    | dk ks' ds' =>
      obtain ⟨rfl, rfl, nd, fl, q⟩ := hw
      obtain ⟨a, ps, rfl, _, h, e, r⟩ := r1
      obtain ⟨a2, qs, rfl, _, h2, e2, r2⟩ := r2
      refine ⟨a, a2, ps, qs, rfl, rfl, h, h2, ?_, flat_dicts (e.trans e2.symm) (by rw [e]; exact nd) fl r r2, k _ _ F q (Same.refl _) dj (fun _ f _ => f) .of_bl⟩
      have := congrArg List.length (e.trans e2.symm)
      simpa using this
    | _ => exact hw.elim
  | _ => exact hw.elim
end
section
variable {ρ : List Sl} {w : WE} {Qs : Sl → List Sl → Prop}
theorem xB : wfDict w ρ Qs = w ρ fun d ρ1 => match d with
  | .lst ds => ∃ kds : List (Key × D), ds = kds.map pairD ∧ (kds.map (·.1)).Nodup ∧ Qs (.ok (kds.map (·.1)) (kds.map (·.2))) ρ1
  | .dk ks ds => Qs (.ok ks ds) ρ1
  | _ => False := rfl
end
end DL

/-! Loops over mapped lists and ranges; comprehensions over mapped lists. -/
namespace DL
open PySem PySem.Spec PyProof.Rows L2
variable [Lk]
section
variable {α : Type} {g : α → D} {wg : WG} {wb : WS} {we : WE} {E : EnD} {vs : List Nat}
theorem for_pre {l : List α} (I : List α → List Sl → Prop)
    (step : ∀ dn a rest, l = dn ++ a :: rest → ∀ ρ, I dn ρ → ∀ K : List Sl → Prop, (∀ ρ', I (dn ++ [a]) ρ' → K ρ') → wg (g a) ρ fun ρ1 => wb ρ1 { nx := K, ct := K, bk := E.nx, rt := E.rt })
    (fin : ∀ ρ, I l ρ → E.nx ρ) (ρ : List Sl) (h : I [] ρ) : wForL wg wb (l.map g) ρ E := by
  refine wForL_rule (fun r ρ => ∃ dn rest, l = dn ++ rest ∧ r = rest.map g ∧ I dn ρ) ?_ ?_ _ _ ⟨[], l, rfl, rfl, h⟩
  · rintro d r ρ ⟨dn, rest, e, hr, hI⟩ C hC
    cases rest with
    | nil => cases hr
    | cons a rest =>
      cases hr
      exact step dn a rest e ρ hI C fun ρ' h' => hC ρ' ⟨dn ++ [a], rest, by rw [e]; simp, rfl, h'⟩
  · rintro ρ ⟨dn, rest, e, hr, hI⟩
    have : rest = [] := List.map_eq_nil_iff.mp hr.symm
    subst this
    rw [List.append_nil] at e
    subst e
    exact fin ρ hI
theorem rangeD_nat (n : Int) : rangeD 0 n = (List.range n.toNat).map fun i : Nat => D.int (i : Int) := by
  unfold rangeD
  rw [Int.sub_zero]
  refine List.map_congr_left fun i _ => ?_
  rw [Int.zero_add]
theorem range_split {n k : Nat} {a : Nat} {dn rest : List Nat} (h : List.range n = dn ++ a :: rest) : dn = List.range a ∧ a < n := by
  have ha : (List.range n)[dn.length]? = some a := by rw [h]; simp
  have hl : dn.length < n := by
    have := congrArg List.length h
    simp at this; omega
  rw [List.getElem?_range hl] at ha
  have e : dn.length = a := Option.some.inj ha
  refine ⟨?_, by omega⟩
  have ht : (List.range n).take dn.length = dn := by rw [h]; simp
  rw [List.take_range, Nat.min_eq_left (by omega), e] at ht
  exact ht.symm
theorem for_nat {n : Int} (I : Nat → List Sl → Prop)
    (step : ∀ k : Nat, (k : Int) < n → ∀ ρ, I k ρ → ∀ K : List Sl → Prop, (∀ ρ', I (k + 1) ρ' → K ρ') → wg (.int (k : Int)) ρ fun ρ1 => wb ρ1 { nx := K, ct := K, bk := E.nx, rt := E.rt })
    (fin : ∀ ρ, I n.toNat ρ → E.nx ρ) (ρ : List Sl) (h : I 0 ρ) : wForL wg wb (rangeD 0 n) ρ E := by
  rw [rangeD_nat]
  refine for_pre (g := fun i : Nat => D.int (i : Int)) (fun dn ρ => I dn.length ρ) ?_ ?_ ρ h
  · intro dn a rest e ρ hI C hC
    obtain ⟨e1, e2⟩ := range_split (k := 0) e
    have hl : dn.length = a := by rw [e1, List.length_range]
    subst hl
    exact step dn.length (by omega) ρ hI C fun ρ' h' => hC ρ' (by rw [List.length_append]; exact h')
  · intro ρ hI
    rw [List.length_range] at hI
    exact fin ρ hI
theorem lc_map {ρ : List Sl} {Q : List D → List Sl → Prop} (h : α → D) : ∀ (l : List α) (acc : List D),
    (∀ a ∈ l, ∀ Kt : D → List Sl → Prop, Kt (h a) ρ → wg (g a) ρ fun ρ1 => we ρ1 fun y ρ3 => noOwnB ρ3 vs = true ∧ Kt y (wipeD ρ3 vs)) → Q (acc ++ l.map h) ρ → wLcL vs wg wYes we (l.map g) ρ acc Q
  | [], acc, _, q => by rw [List.map_nil, List.append_nil] at q; exact q
  | a :: l, acc, st, q => st a List.mem_cons_self (fun y ρ' => wLcL vs wg wYes we (l.map g) ρ' (acc ++ [y]) Q) (lc_map h l (acc ++ [h a]) (fun b hb => st b (List.mem_cons_of_mem _ hb)) (by rw [List.append_assoc]; exact q))
end
theorem sum_snoc {α : Type} {l : List α} {a : α} {g : α → Int} : ((l ++ [a]).map g).sum = (l.map g).sum + g a := by
  rw [List.map_append, List.sum_append_int]; simp
end DL

/-! a, b = x, y with plain local names. -/
namespace DL
open PySem PySem.Spec PyProof.Rows L2
variable [Lk]
def wPar (i j : Nat) (w : WA) : WS := fun ρ E => w ρ fun ds ρ1 => match ds with
  | [d1, d2] => wSt i d1 ρ1 fun ρ2 => wSt j d2 ρ2 E.nx
  | _ => False
theorem zW {i j : Nat} {w : WA} {ρ : List Sl} {E : EnD} : wPar i j w ρ E = w ρ fun ds ρ1 => match ds with
  | [d1, d2] => wSt i d1 ρ1 fun ρ2 => wSt j d2 ρ2 E.nx
  | _ => False := rfl
section
variable {X : Cx} {pos : Pos}
theorem ds_par {i j : Nat} {x y : Str} {a b : Expr} {ta : TA} {w : WA} {px py pt : Pos} {kt k2 pt2} (hc : X.calm = true) (hN : X.N.Nodup) (hi : X.N[i]? = some x) (hj : X.N[j]? = some y) (hij : i ≠ j)
    (hx : X.env.scope.names.lookup x = some .local) (hy : X.env.scope.names.lookup y = some .local) (ha : DA X [a, b] ta w)
    (hw : swappedStores [.Tuple [.Name x px, .Name y py] kt pt] (.Tuple [a, b] k2 pt2) X.env = pure (some [x, y]))
    (hs : swapsWithSole [.Tuple [.Name x px, .Name y py] kt pt] (.Tuple [a, b] k2 pt2) pos.line X.env = pure false := by rfl) :
    DS X (.Assign [.Tuple [.Name x px, .Name y py] kt pt] (.Tuple [a, b] k2 pt2) pos) (tPar i j ta) (wPar i j w) := ⟨ps_par hc hN hi hj hij hx hy ha.pe hw hs, fun {b ρ σ F M M0} R E Dn hw f => by
  refine ha.sn R _ _ hw fun ds ρ1 vs F1 M1 M01 q A r => ?_
  match ds, q with
  | [d1, d2], q =>
    obtain ⟨v1, vr, rfl, r1, rr⟩ := r.cons_iff
    obtain ⟨v2, vr2, rfl, r2, r3⟩ := rr.cons_iff
    have e3 := r3.nil_iff
    subst e3
    refine ⟨v1, v2, rfl, ?_⟩
    refine sng_name i A.rel r1 (fun ρ2 => wSt j d2 ρ2 E.nx) (fun σ' H' => gName j v2 σ' H' Dn.nx) q fun ρ2 σ2 F2 M2 M02 q2 s2 x2 R2 m2 _ => ?_
    refine sng_name j R2 (r2.up s2) _ _ q2 fun ρ3 σ3 F3 M3 M03 q3 s3 x3 R3 m3 _ => ?_
    exact f.nx ρ3 σ3 F3 M3 M03 q3 ((A.same.trans s2).trans s3) R3 ((A.mr.trans m2).trans m3)⟩
end
end DL

/-! Own instances whose fields hold own lists and dicts: reading, appending, storing. -/
namespace DL
open PySem PySem.Spec PyProof.Rows L2
variable [Lk]
theorem lookup_idx {f : Str} {u : V} : ∀ {ps : List (Str × V)} {j : Nat}, (ps.map (·.1)).Nodup → (ps.map (·.1))[j]? = some f → (ps.map (·.2))[j]? = some u → ps.lookup f = some u
  | [], j, _, h, _ => by simp at h
  | (g, v) :: ps, 0, _, h1, h2 => by
    simp at h1 h2; subst h1; subst h2
    rw [List.lookup_cons_self]
  | (g, v) :: ps, j + 1, nd, h1, h2 => by
    rw [List.map_cons, List.nodup_cons] at nd
    have h1' : (ps.map (·.1))[j]? = some f := by simpa using h1
    have h2' : (ps.map (·.2))[j]? = some u := by simpa using h2
    have ne : ¬ (f = g) := fun z => nd.1 (by rw [← z]; exact List.mem_of_getElem? h1')
    rw [List.lookup_cons, show (f == g) = false by simpa using ne]
    exact lookup_idx nd.2 h1' h2'
theorem Rel.fld {c : Cy} {b : Option Addr} {ρ : List Sl} {σ : L2.St} {F M M0 : Hp} {i j : Nat} {x : V} {n f : Str} {fs : List Str} {ts : List OT} {t : OT} (R : Rel c b ρ σ F M M0) (e : ρ[i]? = some (.od x (.ins n fs ts))) (hj : ts[j]? = some t) (hf : fs[j]? = some f) (nd : fs.Nodup) :
    ∃ a C dx ps u Mk, x = .ref a ∧ σ[i]? = some (some (.ref a)) ∧ c.mg n = some (.ref C) ∧ HH F M a = some (.ins C dx ps) ∧ b ≠ some a ∧ ps.lookup f = some u ∧ OTR c F t u Mk ∧ (∀ y o, Mk y = some o → M y = some o ∧ b ≠ some y) ∧
      ∀ l o o' t', Mk = upd emp l o → OTR c F t' u (upd emp l o') → Rel c b (ρ.set i (.od x (.ins n fs (ts.set j t')))) σ F (upd M l o') M0 := by
  obtain ⟨Mo, M', h1, h2, h3, h4, h5, h6, h7⟩ := R.env.ownT e
  simp only [OTR] at h2
  obtain ⟨a, C, dx, ps, M1, rfl, hg, rfl, rl, fa, ma, rfl⟩ := h2
  obtain ⟨u, Mk, Mr, g1, g2, g3, rfl, g5⟩ := OTRL.at (k := j) rl hj
  have hMa : M a = some (.ins C dx ps) := by rw [h4]; exact hh_m upd_same
  have kM : ∀ y o, Mk y = some o → upd (HH Mr Mk) a (.ins C dx ps) y = some o := fun y o q => by
    have ne : y ≠ a := fun z => by rw [z] at q; rw [hh_m q] at ma; cases ma
    rw [upd_ne ne]; exact hh_m q
  refine ⟨a, C, dx, ps, u, Mk, rfl, h1, hg, hh_m hMa, R.od_nb h5 h3 upd_same, lookup_idx nd hf g1, g2, fun y o q => ⟨by rw [h4]; exact hh_m (kM y o q), R.od_nb h5 h3 (kM y o q)⟩, fun l o o' t' eK r' => ?_⟩
  subst eK
  have hl : upd (emp : Hp) l o l = some o := upd_same
  have hla : l ≠ a := fun z => by rw [← z, hh_m hl] at ma; cases ma
  have d' : Dj Mr (upd emp l o') := fun y w q => by
    by_cases z : y = l
    · rw [z]; exact g3 l o hl
    · rw [upd_ne z] at q; cases q
  have rl' := g5 t' _ r' d'
  have eM1 : HH Mr (upd emp l o') = upd (HH Mr (upd emp l o)) l o' := by rw [hh_updM, upd_upd]
  have rn : OTR c F (.ins n (ps.map (·.1)) (ts.set j t')) (.ref a) (upd (upd (HH Mr (upd emp l o)) l o') a (.ins C dx ps)) := by
    simp only [OTR]
    refine ⟨a, C, dx, ps, _, rfl, hg, rfl, ?_, fa, ?_, rfl⟩
    · rw [← eM1]; exact rl'
    · rw [upd_ne (Ne.symm hla)]; exact ma
  have lM' : M' l = none := h3 l o (kM l o hl)
  have djn : Dj M' (upd (upd (HH Mr (upd emp l o)) l o') a (.ins C dx ps)) := fun y w q => by
    by_cases z : y = a
    · rw [z]; exact h3 a _ upd_same
    · rw [upd_ne z] at q
      by_cases z' : y = l
      · rw [z']; exact lM'
      · rw [upd_ne z'] at q
        exact h3 y w (by rw [upd_ne z]; exact q)
  have eM : upd M l o' = HH M' (upd (upd (HH Mr (upd emp l o)) l o') a (.ins C dx ps)) := by
    rw [h4, hh_updM, upd_comm (Ne.symm hla)]
  rw [eM]
  refine ⟨fun y w q => ?_, h7 _ _ rn djn, R.box, R.lk⟩
  rcases hh_some q with q | ⟨_, q⟩
  · exact OTR.dj _ rn y w q
  · exact R.dj y w (by rw [h4]; exact h3.f q)
/-! ### what a field shows -/
def peekD : OT → D → Prop
  | .sh d, e => e = d
  | .lst us, e => ∃ ds, us = ds.map OT.sh ∧ e = .lst ds
  | .dk ks us, e => ∃ ds, us = ds.map OT.sh ∧ e = .dk ks ds
  | .dt ks us, e => ∃ ds, us = ds.map OT.sh ∧ e = .dt ks ds
  | _, _ => False
theorem peek_rk {c : Cy} {b : Option Addr} {F M : Hp} {t : OT} {d : D} {u : V} {Mk : Hp} (dj : Dj F M) (nb : ∀ a o, F a = some o → b ≠ some a) (h : peekD t d) (r : OTR c F t u Mk) (k : ∀ y o, Mk y = some o → M y = some o ∧ b ≠ some y) : Rk c b F M u d := by
  cases t with
  | sh d0 =>
    cases h
    simp only [OTR] at r
    exact Rk.of dj nb r.1
  | lst us =>
    obtain ⟨ds, rfl, rfl⟩ := h
    simp only [OTR] at r
    obtain ⟨l, vs, M1, rfl, r1, f1, m1, rfl⟩ := r
    obtain ⟨r2, rfl⟩ := OTRL.unsh r1
    have := k l _ upd_same
    exact ⟨l, vs, rfl, this.2, hh_m this.1, r2⟩
  | dk ks us =>
    obtain ⟨ds, rfl, rfl⟩ := h
    simp only [OTR] at r
    obtain ⟨l, ps, M1, rfl, e1, r1, f1, m1, rfl⟩ := r
    obtain ⟨r2, rfl⟩ := OTRL.unsh r1
    have := k l _ upd_same
    exact ⟨l, ps, rfl, this.2, .inl (hh_m this.1), e1, r2⟩
  | dt ks us =>
    obtain ⟨ds, rfl, rfl⟩ := h
    simp only [OTR] at r
    obtain ⟨l, ps, M1, rfl, e1, r1, f1, m1, rfl⟩ := r
    obtain ⟨r2, rfl⟩ := OTRL.unsh r1
    have := k l _ upd_same
    exact ⟨l, ps, rfl, this.2, .inl (hh_m this.1), e1, r2⟩
  | ins _ _ _ => exact h.elim
/-- where a field stands -/
def fldAt (fs : List Str) (ts : List OT) (f : Str) (j : Nat) (t : OT) : Prop := fs.Nodup ∧ fs[j]? = some f ∧ ts[j]? = some t
section
variable {X : Cx} {e e2 : Expr} {te t2 : TE} {w w2 : WE} {pos : Pos}
/-- name.f, name an own instance -/
def wOFld (i : Nat) (n f : Str) : WE := fun ρ Q => match ρ[i]? with
  | some (.od _ (.ins n' fs ts)) => n' = n ∧ ∃ j t d, fldAt fs ts f j t ∧ peekD t d ∧ Q d ρ
  | _ => False
theorem dp_ofld (i : Nat) {n f xn : Str} {C : Addr} {np : Pos} (hm : X.mg n = some (.ref C)) (hc : Cls X.K C) (hn : NoAttr X.K C f) (hN : X.N[i]? = some xn := by rfl) (hvis : Vis X.env.scope xn := by first | exact Or.inl rfl | exact Or.inr (Or.inl rfl) | exact Or.inr (Or.inr rfl))
    (hd : (xn == ("__debug__" : Str)) = false := by decide) (hcd : (xn == ("__classdict__" : Str)) = false := by decide) (hb : attributeBase (.Name xn np) f X.env (eval (.Name xn np) X.env) = eval (.Name xn np) X.env := by rfl) :
    DP X (.Attribute (.Name xn np) f pos) (tFld X.K (tVar i) f) (wOFld i n f) := ⟨pe_fld (pe_var hN hvis hd hcd) hb, fun {b ρ σ F M M0} R Qd Q hw k => by
  unfold wOFld at hw
  cases e1 : ρ[i]? with
  | none => simp only [e1] at hw
  | some sl =>
    simp only [e1] at hw
    cases sl with
    | od x t0 =>
      cases t0 with
      | ins n' fs ts =>
        obtain ⟨rfl, j, t, d, ⟨nd, hf, hj⟩, hp, q⟩ := hw
        obtain ⟨a, C', dx, ps, u, Mk, rfl, h1, hg, hH, hnb, hl, hr, hk, _⟩ := R.fld e1 hj hf nd
        have eC : C' = C := by
          have hg : X.mg n' = some (.ref C') := hg
          rw [hm] at hg
          cases hg; rfl
        subst eC
        exact ⟨.ref a, h1, a, _, dx, ps, u, rfl, hH, hc, hn, hl, k d ρ u F M M0 q R.aft (peek_rk R.dj (fun a o z => R.nb z) hp hr hk)⟩
      | _ => exact hw.elim
    | _ => exact hw.elim⟩
end
end DL

/-! Own instances: stores into their fields' lists and dicts, new own fields, own methods. -/
namespace DL
open PySem PySem.Spec PyProof.Rows L2
variable [Lk]
section
variable {X : Cx} {e e2 : Expr} {te t2 : TE} {w w2 : WE} {pos : Pos}
theorem cls_eq {n : Str} {C C' : Addr} (hm : X.mg n = some (.ref C)) (hg : (cy X).mg n = some (.ref C')) : C' = C := by
  have hg : X.mg n = some (.ref C') := hg
  rw [hm] at hg
  cases hg; rfl
/-- a shared field of an own instance -/
def wOFldS (i : Nat) (n f : Str) : WE := fun ρ Q => match ρ[i]? with
  | some (.od _ (.ins n' fs ts)) => n' = n ∧ ∃ j d, fldAt fs ts f j (.sh d) ∧ Q d ρ
  | _ => False
theorem de_ofld (i : Nat) {n f xn : Str} {C : Addr} {np : Pos} (hm : X.mg n = some (.ref C)) (hc : Cls X.K C) (hn : NoAttr X.K C f) (hN : X.N[i]? = some xn := by rfl) (hvis : Vis X.env.scope xn := by first | exact Or.inl rfl | exact Or.inr (Or.inl rfl) | exact Or.inr (Or.inr rfl))
    (hd : (xn == ("__debug__" : Str)) = false := by decide) (hcd : (xn == ("__classdict__" : Str)) = false := by decide) (hb : attributeBase (.Name xn np) f X.env (eval (.Name xn np) X.env) = eval (.Name xn np) X.env := by rfl) :
    DE X (.Attribute (.Name xn np) f pos) (tFld X.K (tVar i) f) (wOFldS i n f) := ⟨pe_fld (pe_var hN hvis hd hcd) hb, fun {b ρ σ F M M0} R Qd Q hw k => by
  unfold wOFldS at hw
  cases e1 : ρ[i]? with
  | none => simp only [e1] at hw
  | some sl =>
    simp only [e1] at hw
    cases sl with
    | od x t0 =>
      cases t0 with
      | ins n' fs ts =>
        obtain ⟨rfl, j, d, ⟨nd, hf, hj⟩, q⟩ := hw
        obtain ⟨a, C', dx, ps, u, Mk, rfl, h1, hg, hH, hnb, hl, hr, hk, _⟩ := R.fld e1 hj hf nd
        have eC := cls_eq hm hg
        subst eC
        simp only [OTR] at hr
        exact ⟨.ref a, h1, a, _, dx, ps, u, rfl, hH, hc, hn, hl, k d ρ u F M M0 q R.aft hr.1⟩
      | _ => exact hw.elim
    | _ => exact hw.elim⟩
/-! ### name.f.append(e) -/
def wOApp (i : Nat) (n f : Str) (w : WE) : WS := fun ρ E => (∃ (x : V) (fs : List Str) (ts : List OT) (j : Nat) (ds : List D), ρ[i]? = some (.od x (.ins n fs ts)) ∧ fldAt fs ts f j (.lst (ds.map OT.sh))) ∧ w ρ fun d ρ1 => match ρ1[i]? with
  | some (.od x (.ins n' fs ts)) => n' = n ∧ ∃ (j : Nat) (ds : List D), fldAt fs ts f j (.lst (ds.map OT.sh)) ∧ ds.length < sizeLine ∧ E.nx (ρ1.set i (.od x (.ins n' fs (ts.set j (.lst ((ds ++ [d]).map OT.sh))))))
  | _ => False
theorem sns_oapp {i : Nat} {n f : Str} {C : Addr} (hm : X.mg n = some (.ref C)) (hc : Cls X.K C) (hn : NoAttr X.K C f) (he : Snd (cy X) te w) : Sns (cy X) (tDrop (tBM X.K "list" rAppend (tFld X.K (tVar i) f) (tCons te tNil))) (wOApp i n f w) := fun {b ρ σ F M M0} R E Dn hw fin => by
  obtain ⟨⟨x, fs, ts, j, ds, e0, nd, hf, hj⟩, hw⟩ := hw
  obtain ⟨a, C', dx, ps, u, Mk, rfl, h1, hg, hH, hnb, hl, hr, hk, _⟩ := R.fld e0 hj hf nd
  have eC := cls_eq hm hg
  subst eC
  simp only [OTR] at hr
  obtain ⟨l, vs0, N1, rfl, r1, f1, m1, rfl⟩ := hr
  obtain ⟨r2, rfl⟩ := OTRL.unsh r1
  have hl0 := hk l _ upd_same
  refine ⟨.ref a, h1, a, _, dx, ps, .ref l, rfl, hH, hc, hn, hl, .inl ⟨rfl, vs0, SqL.of (hh_m hl0.1)⟩, ?_⟩
  refine he R _ _ hw fun d ρ1 v F1 M1 M01 q A r => ?_
  cases e1 : ρ1[i]? with
  | none => simp only [e1] at q
  | some sl =>
    simp only [e1] at q
    cases sl with
    | od x1 t0 =>
      cases t0 with
      | ins n' fs1 ts1 =>
        obtain ⟨rfl, j1, ds1, ⟨nd1, hf1, hj1⟩, hz, q⟩ := q
        obtain ⟨a1, C1, dx1, ps1, u1, Mk1, rfl, k1, kg, kH, knb, kl, kr, kk, kset⟩ := A.rel.fld e1 hj1 hf1 nd1
        rw [h1] at k1
        have ea : a = a1 := by injection k1 with k1; injection k1 with k1; injection k1
        subst ea
        have hH1 := A.ext a _ hnb hH
        rw [kH] at hH1
        cases hH1
        rw [hl] at kl
        cases kl
        simp only [OTR] at kr
        obtain ⟨l', vs, N2, el, r3, f3, m3, rfl⟩ := kr
        cases el
        obtain ⟨r4, rfl⟩ := OTRL.unsh r3
        have hl1 := kk l _ upd_same
        refine ⟨l, vs, v, rfl, rfl, hh_m hl1.1, by rw [r4.length]; exact hz, ?_⟩
        rw [hh_updM]
        have R2 := kset l _ (.lst (vs ++ [v])) (.lst ((ds1 ++ [d]).map OT.sh)) rfl (by
          simp only [OTR]
          exact ⟨l, vs ++ [v], emp, rfl, OTRL.shs (r4.append (.cons r .nil)), f3, rfl, rfl⟩)
        exact fin.nx _ _ F1 _ M01 q A.same R2 A.mr
      | _ => exact q.elim
    | _ => exact q.elim
theorem ds_oapp (i : Nat) {n f xn : Str} {C : Addr} {np fp apos cpos spos : Pos} (hm : X.mg n = some (.ref C)) (hc : Cls X.K C) (hn : NoAttr X.K C f) (he : DE X e te w) (hN : X.N[i]? = some xn := by rfl) (hvis : Vis X.env.scope xn := by first | exact Or.inl rfl | exact Or.inr (Or.inl rfl) | exact Or.inr (Or.inr rfl))
    (hd : (xn == ("__debug__" : Str)) = false := by decide) (hcd : (xn == ("__classdict__" : Str)) = false := by decide) (hb : attributeBase (.Name xn np) f X.env (eval (.Name xn np) X.env) = eval (.Name xn np) X.env := by rfl)
    (hbase : attributeBase (.Attribute (.Name xn np) f fp) "append" X.env (eval (.Attribute (.Name xn np) f fp) X.env) = eval (.Attribute (.Name xn np) f fp) X.env := by rfl)
    (hfew : ((backTo cpos (starEach (e :: []) X.env)).all (fun x => !x.1) && (backToKw cpos (keywordEach [] X.env)).all (fun x => x.1.isSome)
      && decide ((e :: []).length + ([] : List Keyword).length + (if ([] : List Keyword).isEmpty then 0 else 1) < 30)) = true := by rfl)
    (hline : (apos.endLine == cpos.line) = true := by rfl) (hs : starEach (e :: []) X.env = (false, eval e X.env) :: starEach [] X.env := by rfl) (hplain : (backTo cpos (starEach [] X.env)).any (·.1) = false := by rfl)
    (hsw : swapsWith (.Call (.Attribute (.Attribute (.Name xn np) f fp) "append" apos) [e] [] cpos) none spos.line X.env = pure false := by rfl) :
    DS X (.Expr (.Call (.Attribute (.Attribute (.Name xn np) f fp) "append" apos) [e] [] cpos) spos) (tDrop (tBM X.K "list" rAppend (tFld X.K (tVar i) f) (tCons te tNil))) (wOApp i n f w) :=
  ⟨ps_expr (pe_bm PySem.F.plainAttrs_list PySem.F.slot_list_append PySem.F.type_list_append mt_append (pe_fld (pe_var hN hvis hd hcd) hb) (pa_cons he.pe pa_nil hs) hbase hfew hline hs hplain) hsw, sns_oapp hm hc hn he.sn⟩
/-! ### name.f[key] = e, tuple keys -/
def wOPut (i : Nat) (n f : Str) (wk wv : WE) : WS := fun ρ E => wv ρ fun d ρ1 => (∃ (x : V) (fs : List Str) (ts : List OT) (j : Nat) (ks : List (List Key)) (ds : List D), ρ1[i]? = some (.od x (.ins n fs ts)) ∧ fldAt fs ts f j (.dt ks (ds.map OT.sh))) ∧ wk ρ1 fun dk ρ2 => match ρ2[i]? with
  | some (.od x (.ins n' fs ts)) => n' = n ∧ ∃ (j : Nat) (ks : List (List Key)) (ds : List D) (kd : List D) (k : List Key), fldAt fs ts f j (.dt ks (ds.map OT.sh)) ∧ dk = .tup kd ∧ keysD kd = some k ∧ ks.length < sizeLine ∧ E.nx (ρ2.set i (.od x (.ins n' fs (ts.set j (.dt (putA ks ds k d).1 ((putA ks ds k d).2.map OT.sh))))))
  | _ => False
theorem ds_oput (i : Nat) {n f xn : Str} {C : Addr} {ev : Expr} {tv : TE} {wv : WE} {np fp sp : Pos} (hm : X.mg n = some (.ref C)) (hc : Cls X.K C) (hn : NoAttr X.K C f) (hu : X.A.units + 1 < cLine) (hk : DE X e2 t2 w2) (hv : DE X ev tv wv)
    (hs : swapsWith ev (some (.Subscript (.Attribute (.Name xn np) f fp) e2 sp)) pos.line X.env = pure false := by rfl) (hN : X.N[i]? = some xn := by rfl) (hvis : Vis X.env.scope xn := by first | exact Or.inl rfl | exact Or.inr (Or.inl rfl) | exact Or.inr (Or.inr rfl))
    (hd : (xn == ("__debug__" : Str)) = false := by decide) (hcd : (xn == ("__classdict__" : Str)) = false := by decide) (hb : attributeBase (.Name xn np) f X.env (eval (.Name xn np) X.env) = eval (.Name xn np) X.env := by rfl) :
    DS X (.Assign [.Subscript (.Attribute (.Name xn np) f fp) e2 sp] ev pos) (sDPut (tFld X.K (tVar i) f) t2 tv) (wOPut i n f w2 wv) :=
  ⟨ps_dput hu (pe_fld (pe_var hN hvis hd hcd) hb) hk.pe hv.pe hs, fun {b ρ σ F M M0} R E Dn hw fin => by
    refine hv.sn R _ _ hw fun d ρ1 v F1 M1 M01 q1 A1 r1 => ?_
    obtain ⟨⟨x, fs, ts, j, ks, ds, e0, nd, hf, hj⟩, q1⟩ := q1
    obtain ⟨a, C', dx, ps, u, Mk, rfl, h1, hg, hH, hnb, hl, hr, hk', _⟩ := A1.rel.fld e0 hj hf nd
    have eC := cls_eq hm hg
    subst eC
    simp only [OTR] at hr
    obtain ⟨l, qs, N1, rfl, eq1, r3, f1, m1, rfl⟩ := hr
    refine ⟨.ref a, h1, a, _, dx, ps, .ref l, rfl, hH, hc, hn, hl, ?_⟩
    refine hk.sn A1.rel _ _ q1 fun dk ρ2 y F2 M2 M02 q2 A2 r2 => ?_
    cases e1 : ρ2[i]? with
    | none => simp only [e1] at q2
    | some sl =>
      simp only [e1] at q2
      cases sl with
      | od x1 t0 =>
        cases t0 with
        | ins n' fs1 ts1 =>
          obtain ⟨rfl, j1, ks1, ds1, kd, k, ⟨nd1, hf1, hj1⟩, rfl, hkey, hz, q⟩ := q2
          obtain ⟨a1, C1, dx1, ps1, u1, Mk1, rfl, k1, kg, kH, knb, kl, kr, kk, kset⟩ := A2.rel.fld e1 hj1 hf1 nd1
          rw [h1] at k1
          have ea : a = a1 := by injection k1 with k1; injection k1 with k1; injection k1
          subst ea
          have hH1 := A2.ext a _ hnb hH
          rw [kH] at hH1
          cases hH1
          rw [hl] at kl
          cases kl
          simp only [OTR] at kr
          obtain ⟨l', qs1, N2, el, eq2, r4, f3, m3, rfl⟩ := kr
          cases el
          subst eq2
          obtain ⟨r5, rfl⟩ := OTRL.unsh r4
          have hl1 := kk l _ upd_same
          obtain ⟨kb, rfl, hkb⟩ := keyT_v hkey r2
          refine ⟨l, _, rfl, DPut.t (hh_m hl1.1) (A2.rel.dj.f hkb) (by rw [← List.length_map (f := (·.1))]; exact hz), ?_⟩
          rw [hh_updM]
          have pk := putK_A (k := k) r5 (r1.up A2.same)
          have R2 := kset l _ (.dT (putK qs1 k v)) (.dt (putA (qs1.map (·.1)) ds1 k d).1 ((putA (qs1.map (·.1)) ds1 k d).2.map OT.sh)) rfl (by
            simp only [OTR]
            exact ⟨l, putK qs1 k v, emp, rfl, pk.1, OTRL.shs pk.2, f3, rfl, rfl⟩)
          exact fin.nx _ _ F2 _ M02 q (A1.trans A2).same R2 (A1.trans A2).mr
        | _ => exact q2.elim
      | _ => exact q2.elim⟩
end
end DL

/-! Own instances: new own fields, own methods; expressions that change own objects. -/
namespace DL
open PySem PySem.Spec PyProof.Rows L2
variable [Lk]
def slT : Sl → OT
  | .ol ds => .lst (ds.map OT.sh)
  | .ok ks ds => .dk ks (ds.map OT.sh)
  | .ot ks ds => .dt ks (ds.map OT.sh)
  | .oi n fs ds => .ins n fs (ds.map OT.sh)
  | .sh d => .sh d
  | _ => .sh .non
theorem ObR.otr {c : Cy} {F : Hp} {l : Addr} : ∀ {sl : Sl} {o : HO}, ObR c F sl o → F l = none → OTR c F (slT sl) (.ref l) (upd emp l o)
  | .ol ds, o, ⟨vs, e, h⟩, f => by subst e; simp only [slT, OTR]; exact ⟨l, vs, emp, rfl, OTRL.shs h, f, rfl, rfl⟩
  | .ok ks ds, o, ⟨ps, e, k, h⟩, f => by subst e; simp only [slT, OTR]; exact ⟨l, ps, emp, rfl, k, OTRL.shs h, f, rfl, rfl⟩
  | .ot ks ds, o, ⟨ps, e, k, h⟩, f => by subst e; simp only [slT, OTR]; exact ⟨l, ps, emp, rfl, k, OTRL.shs h, f, rfl, rfl⟩
  | .oi n fs ds, o, ⟨C, dx, ps, e, m, k, h⟩, f => by subst e; simp only [slT, OTR]; exact ⟨l, C, dx, ps, emp, rfl, m, k, OTRL.shs h, f, rfl, rfl⟩
  | .no, _, h, _ => h.elim
  | .sh _, _, h, _ => h.elim
  | .bx, _, h, _ => h.elim
  | .od _ _, _, h, _ => h.elim
section
variable {X : Cx} {e e2 : Expr} {te t2 : TE} {w w2 : WE} {pos : Pos} {C : Addr}
/-- name.f = a new own list or dict -/
def wFldNO (i : Nat) (n f : Str) (wf : List Sl → (Sl → List Sl → Prop) → Prop) : WS := fun ρ E => wf ρ fun sl ρ1 => match ρ1[i]? with
  | some (.od x (.ins n' fs ts)) => (n' = n ∧ f ∉ fs ∧ fs.length < 1000) ∧ E.nx (ρ1.set i (.od x (.ins n' (fs ++ [f]) (ts ++ [slT sl]))))
  | _ => False
theorem ds_fldNO (i : Nat) {n xn f : Str} {np pos' : Pos} {wf : List Sl → (Sl → List Sl → Prop) → Prop} (hm : X.mg n = some (.ref C)) (hc : Cls X.K C) (hn : NoAttr X.K C f) (hv : DF X e te wf)
    (hs : swapsWith e (some (.Attribute (.Name xn np) f pos')) pos.line X.env = pure false := by rfl) (hN : X.N[i]? = some xn := by rfl) (hvis : Vis X.env.scope xn := by first | exact Or.inl rfl | exact Or.inr (Or.inl rfl) | exact Or.inr (Or.inr rfl))
    (hd : (xn == ("__debug__" : Str)) = false := by decide) (hcd : (xn == ("__classdict__" : Str)) = false := by decide) : DS X (.Assign [.Attribute (.Name xn np) f pos'] e pos) (sFld X.K (tVar i) te f) (wFldNO i n f wf) :=
  ⟨ps_fld (pe_var hN hvis hd hcd) hv.pe hs, fun {b ρ σ F M M0} R E Dn hw fin => by
    refine hv.sn R _ _ hw fun sl ρ1 l o F1 M1 M01 q A hsl r fl ml => ?_
    cases e1 : ρ1[i]? with
    | none => simp only [e1] at q
    | some s0 =>
      simp only [e1] at q
      cases s0 with
      | od x t0 =>
        cases t0 with
        | ins n' fs ts =>
          obtain ⟨⟨rfl, hf, hl⟩, q⟩ := q
          obtain ⟨Mo, M', h1, h2, h3, h4, h5, h6, h7⟩ := A.rel.env.ownT e1
          simp only [OTR] at h2
          obtain ⟨a, C', dx, ps, M2, rfl, hg, rfl, rl, fa, ma, rfl⟩ := h2
          have eC := cls_eq hm hg
          subst eC
          have hMa : M1 a = some (.ins C' dx ps) := by rw [h4]; exact hh_m upd_same
          have nla : l ≠ a := fun z => by rw [z, hMa] at ml; cases ml
          have hH : HH F1 (upd M1 l o) a = some (.ins C' dx ps) := hh_m (by rw [upd_ne (Ne.symm nla)]; exact hMa)
          refine ⟨.ref a, h1, a, C', dx, ps, rfl, hH, hc, hn, by rw [← List.length_map (f := (·.1))]; exact hl, ?_⟩
          rw [putF_new hf, hh_updM]
          have lM' : M' l = none := by
            cases z : M' l with
            | none => rfl
            | some w0 => rw [h4, h3.f z] at ml; cases ml
          have lM2 : M2 l = none := by
            cases z : M2 l with
            | none => rfl
            | some w0 =>
              have : M1 l = some w0 := by rw [h4]; exact hh_m (by rw [upd_ne nla]; exact z)
              rw [this] at ml; cases ml
          have eN : HH M2 (upd emp l o) = upd M2 l o := by rw [← hh_updM, hh_emp]
          have eM : upd (upd M1 l o) a (.ins C' dx (ps ++ [(f, .ref l)])) = HH M' (upd (upd M2 l o) a (.ins C' dx (ps ++ [(f, .ref l)]))) := by
            rw [h4, hh_updM, hh_updM, upd_comm (Ne.symm nla), upd_upd]
          rw [eM]
          have d2 : Dj M2 (upd emp l o) := fun y w0 z => by
            by_cases e : y = l
            · rw [e]; exact lM2
            · rw [upd_ne e] at z; cases z
          have djn : Dj M' (upd (upd M2 l o) a (.ins C' dx (ps ++ [(f, .ref l)]))) := fun y w0 z => by
            by_cases e : y = a
            · rw [e]; exact h3 a _ upd_same
            · rw [upd_ne e] at z
              by_cases e' : y = l
              · rw [e']; exact lM'
              · rw [upd_ne e'] at z
                exact h3 y w0 (by rw [upd_ne e]; exact z)
          have rn : OTR (cy X) F1 (.ins n' (ps.map (·.1) ++ [f]) (ts ++ [slT sl])) (.ref a) (upd (upd M2 l o) a (.ins C' dx (ps ++ [(f, .ref l)]))) := by
            simp only [OTR]
            refine ⟨a, C', dx, ps ++ [(f, .ref l)], upd M2 l o, rfl, hg, by simp, ?_, fa, by rw [upd_ne (Ne.symm nla)]; exact ma, rfl⟩
            have := OTRL.snoc (r.otr fl) rl d2
            rw [eN] at this
            simpa using this
          have t2 := h7 _ _ rn djn
          refine fin.nx _ σ F1 _ M01 q A.same ⟨fun y w0 z => ?_, t2, A.rel.box, A.rel.lk⟩ A.mr
          rcases hh_some z with z | ⟨_, z⟩
          · exact OTR.dj _ rn y w0 z
          · exact A.rel.dj y w0 (by rw [h4]; exact (h3.f z))
        | _ => exact q.elim
      | _ => exact q.elim⟩
/-! ### expressions that change own objects -/
def Sndx (c : Cy) (te : TE) (w : WE) : Prop := ∀ {b : Option Addr} {ρ : List Sl} {σ : L2.St} {F M M0 : Hp}, Rel c b ρ σ F M M0 → ∀ (Qd : D → List Sl → Prop) (Q : VK), w ρ Qd →
  (∀ d ρ' v F' M' M0', Qd d ρ' → Same F F' → Rel c b ρ' σ F' M' M0' → MR b M0 M0' → Dr c F' v d → Q v (HH F' M')) → te σ (HH F M) Q
structure DX (X : Cx) (e : Expr) (te : TE) (w : WE) : Prop where
  pe : PE X e te
  sn : Sndx (cy X) te w
theorem DE.dx (h : DE X e te w) : DX X e te w := ⟨h.pe, fun {b ρ σ F M M0} R Qd Q hw k => h.sn R Qd Q hw fun d ρ' v F' M' M0' q A r => k d ρ' v F' M' M0' q A.same A.rel A.mr r⟩
/-- name.m(..), name an own instance -/
def wMethO (i : Nat) (n m : Str) (wf : WFo) (wa : WAs) : WE := fun ρ Q => (∃ (x : V) (fs : List Str) (ts : List OT), ρ[i]? = some (.od x (.ins n fs ts)) ∧ m ∉ fs) ∧ wa ρ fun as ρ1 => match ρ1[i]? with
  | some (.od x t) => wf (.od x t :: as) fun r as' => ∃ t', as' = .od x t' :: as ∧ Q r (ρ1.set i (.od x t'))
  | _ => False
theorem snx_methO {t : TA} {wt : WAs} {i : Nat} {n m : Str} {wf : WFo} {E : XK} (hm : X.mg n = some (.ref C)) (ha : Snas (cy X) t wt) : Sndx (cy X) (tMeth C m (spO (cy X) wf) [] E (tVar i) t) (wMethO i n m wf wt) := fun {b ρ σ F M M0} R Qd Q hw k => by
  obtain ⟨⟨x, fs, ts, e0, hnm⟩, hw⟩ := hw
  obtain ⟨Mo, M', h1, h2, h3, h4, h5, h6, h7⟩ := R.env.ownT e0
  simp only [OTR] at h2
  obtain ⟨a, C', dx, ps, M2, rfl, hg, rfl, rl, fa, ma, rfl⟩ := h2
  have eC := cls_eq hm hg
  subst eC
  have hH : HH F M a = some (.ins C' dx ps) := hh_m (by rw [h4]; exact hh_m upd_same)
  refine ⟨.ref a, h1, a, dx, ps, rfl, hH, lookup_no hnm, ?_⟩
  refine ha R _ _ hw fun as ρ1 vs F1 M1 M01 q A ar => ?_
  rw [List.append_nil]
  cases e1 : ρ1[i]? with
  | none => simp only [e1] at q
  | some sl =>
    simp only [e1] at q
    cases sl with
    | od x1 t1 =>
      obtain ⟨Mo1, M1', k1, k2, k3, k4, k5, k6, k7⟩ := A.rel.env.ownT e1
      rw [h1] at k1
      have ex : x1 = .ref a := by injection k1 with k1; injection k1 with k1; exact k1.symm
      subst ex
      refine ⟨b, F1, M1, M1', .od (.ref a) t1 :: as, _, rfl, ⟨A.rel.dj, ⟨some (.ref a), vs.map some, rfl, Mo1, M1', rfl, k2, k3, k4, ar.relE M1' (fun y xs z => A.rel.env.nt y xs (by rw [k4]; exact k3.f z))⟩, fun z hz => ?_⟩, q, fun d v as' F' M'' M1'' hq s R' mr r => ?_⟩
      · obtain ⟨da, ns, n0, g1, g2, g3⟩ := A.rel.box z hz
        exact ⟨da, ns, n0, k5 _ _ g1, g2, g3⟩
      · obtain ⟨t', rfl, q⟩ := hq
        obtain ⟨v1, σr, ee, Mo2, M3, e2, j2, j3, rfl, tt⟩ := R'.env
        cases ee
        cases e2
        have e3 := argsD_only ar tt
        subst e3
        have Rn : Rel (cy X) b (ρ1.set i .no) (σ.set i none) F1 M1' M01 := ⟨fun y o z => A.rel.dj y o (by rw [k4]; exact k3.f z), k6 none, A.rel.box, A.rel.lk⟩
        have dj' : Dj F' M3 := fun y o z => R'.dj y o (j3.f z)
        obtain ⟨M0', A2⟩ := Rn.after s dj' (fun z hz => R'.box z hz) mr
        have hi : i < ρ1.length := by
          rcases Nat.lt_or_ge i ρ1.length with z | z
          · exact z
          · rw [List.getElem?_eq_none z] at e1; cases e1
        have st := RelE.setOd j2 A2.rel.env j3 (i := i) (sl := .no) (by rw [List.getElem?_set_self hi]) (fun z => z)
        rw [List.set_set, List.set_set] at st
        have eσ : σ.set i (some (.ref a)) = σ := by
          refine List.ext_getElem? fun y => ?_
          by_cases z : y = i
          · rw [z, h1]
            have hl : i < σ.length := by
              rcases Nat.lt_or_ge i σ.length with z | z
              · exact z
              · rw [List.getElem?_eq_none z] at h1; cases h1
            rw [List.getElem?_set_self hl]
          · rw [List.getElem?_set_ne (Ne.symm z)]
        rw [eσ] at st
        exact k d _ v F' (HH M3 Mo2) M0' q (A.same.trans s) ⟨R'.dj, st, A2.rel.box, A2.rel.lk⟩ (A.mr.trans A2.mr) r
    | _ => exact q.elim
theorem dx_methO (i : Nat) {n m xn : Str} {np apos : Pos} {t : TA} {wt : WAs} {es : List Expr} {k : Nat} {f : Addr} {fd : FuncData} {ps : List Str} {wf : WFo} {pl : Sem Bool} (G : FnOk X.prog X.w X.K X.mg X.base CX0 k f fd ps (spO (cy X) wf)) (hr : Room k X.A) (hm : X.mg n = some (.ref C)) (hc : Cls X.K C) (hme : Meth X.K C m f) (hb : Binds X.K fd ps []) (ha : DAs X (e :: es) t wt)
    (hN : X.N[i]? = some xn := by rfl) (hvis : Vis X.env.scope xn := by first | exact Or.inl rfl | exact Or.inr (Or.inl rfl) | exact Or.inr (Or.inr rfl)) (hd : (xn == ("__debug__" : Str)) = false := by decide) (hcd : (xn == ("__classdict__" : Str)) = false := by decide)
    (hst : starEach (e :: es) X.env = (false, eval e X.env) :: starEach es X.env := by rfl) (hpl : (backTo pos (starEach es X.env)).any (·.1) = false := by rfl)
    (ht : eval (.Call (.Attribute (.Name xn np) m apos) (e :: es) [] pos) X.env = (do
      let ov ← eval (.Name xn np) X.env
      standAt apos.atName
      let (f, first) ← holding [ov] (getMethod ov m pl)
      callWith pos f first (backTo pos (starEach (e :: es) X.env)) (backToKw pos (keywordEach [] X.env))) := by rfl) :
    DX X (.Call (.Attribute (.Name xn np) m apos) (e :: es) [] pos) (tMeth C m (spO (cy X) wf) [] E0 (tVar i) t) (wMethO i n m wf wt) :=
  ⟨pe_meth (pe_var hN hvis hd hcd) hc hme G hr hb .nil pass0 ha.pe hst hpl ht, snx_methO hm ha.sn⟩
/-! ### statements of them -/
theorem dsx_expr (he : DX X e te w) (hs : swapsWith e none pos.line X.env = pure false := by rfl) : DS X (.Expr e pos) (tDrop te) (wDrop w) := ⟨ps_expr he.pe hs, fun {b ρ σ F M M0} R E Dn hw f =>
  he.sn R _ _ hw fun d ρ1 v F1 M1 M01 q s R1 m r => f.nx ρ1 σ F1 M1 M01 q s R1 m⟩
theorem dsx_ret (he : DX X e te w) : DS X (.Return (some e) pos) (tRet te) (wRet w) := ⟨ps_ret he.pe, fun {b ρ σ F M M0} R E Dn hw f =>
  he.sn R _ _ hw fun d ρ1 v F1 M1 M01 q s R1 m r => f.rt d v ρ1 σ F1 M1 M01 q s R1 m r⟩
theorem dsx_set {i : Nat} {x : Str} {pos' : Pos} (hN : X.N.Nodup) (hi : X.N[i]? = some x) (hx : Loc X.env.scope x) (he : DX X e te w) (hs : swapsWith e (some (.Name x pos')) pos.line X.env = pure false := by rfl) (hf : X.fn x = true ∨ X.env.scope.names.lookup x = some .local := by first | exact .inl rfl | exact .inr rfl | assumption) :
    DS X (.Assign [.Name x pos'] e pos) (tAsg te (gName i)) (wAsg w (wSt i)) := ⟨ps_set hN hi hx he.pe hs hf, fun {b ρ σ F M M0} R E Dn hw f =>
  he.sn R _ _ hw fun d ρ1 v F1 M1 M01 q s R1 m r => sng_name i R1 r _ _ q fun ρ2 σ2 F2 M2 M02 q2 s2 x2 R2 m2 _ => f.nx ρ2 σ2 F2 M2 M02 q2 (s.trans s2) R2 (m.trans m2)⟩
end
section
variable {X : Cx} {e e2 ev : Expr} {te t2 tv : TE} {w w2 wv : WE} {pos : Pos}
theorem dsx_put (i : Nat) {xn : Str} {np sp : Pos} (hu : X.A.units + 1 < cLine) (hk : DE X e2 t2 w2) (hv : DX X ev tv wv) (hs : swapsWith ev (some (.Subscript (.Name xn np) e2 sp)) pos.line X.env = pure false := by rfl)
    (hN : X.N[i]? = some xn := by rfl) (hvis : Vis X.env.scope xn := by first | exact Or.inl rfl | exact Or.inr (Or.inl rfl) | exact Or.inr (Or.inr rfl)) (hd : (xn == ("__debug__" : Str)) = false := by decide)
    (hcd : (xn == ("__classdict__" : Str)) = false := by decide) : DS X (.Assign [.Subscript (.Name xn np) e2 sp] ev pos) (sDPut (tVar i) t2 tv) (wPut i w2 wv) :=
  ⟨ps_dput hu (pe_var hN hvis hd hcd) hk.pe hv.pe hs, fun {b ρ σ F M M0} R E Dn hw fin => by
    refine hv.sn R _ _ hw fun d ρ1 v F1 M1 M01 q1 s1 R1 m1 r1 => ?_
    obtain ⟨⟨sl1, e1, hd1⟩, q1⟩ := q1
    have hs1 : isShal sl1 := by cases sl1 <;> first | trivial | exact hd1.elim
    obtain ⟨a, _, _, ha, _⟩ := R1.env.own e1 hs1
    refine ⟨.ref a, ha, ?_⟩
    refine hk.sn R1 _ _ q1 fun dk ρ2 y F2 M2 M02 q2 A2 r2 => ?_
    cases e2 : ρ2[i]? with
    | none => simp only [e2] at q2
    | some sl =>
      simp only [e2] at q2
      have r1' := r1.up A2.same
      cases sl with
      | ok ks ds =>
        obtain ⟨k, hk, hl, q⟩ := q2
        obtain ⟨a', o, M', h1, h2, h3, h4, h5, h6, h7, h8⟩ := A2.rel.env.own e2 trivial
        rw [ha] at h1
        have ea : a = a' := by injection h1 with h1; injection h1 with h1; injection h1
        subst ea
        obtain ⟨ps, rfl, rfl, rd⟩ := h2
        have hH : HH F2 M2 a = some (.dK ps) := hh_m (by rw [h5]; exact upd_same)
        rw [keyD_v hk r2]
        refine ⟨a, _, rfl, DPut.k hH (by rw [← List.length_map (f := (·.1))]; exact hl), ?_⟩
        rw [hh_updM]
        have pk := putK_A (k := k) rd r1'
        have t := h8 (.ok _ _) (.dK (putK ps k v)) trivial ⟨_, rfl, pk.1, pk.2⟩
        have eM : upd M2 a (.dK (putK ps k v)) = upd M' a (.dK (putK ps k v)) := by rw [h5, upd_upd]
        rw [eM]
        refine fin.nx _ σ F2 _ M02 q (s1.trans A2.same) ⟨?_, t, A2.rel.box, A2.rel.lk⟩ (m1.trans A2.mr)
        rw [← eM]
        exact A2.rel.dj.updM h3
      | ot ks ds =>
        obtain ⟨kd, k, rfl, hk, hl, q⟩ := q2
        obtain ⟨a', o, M', h1, h2, h3, h4, h5, h6, h7, h8⟩ := A2.rel.env.own e2 trivial
        rw [ha] at h1
        have ea : a = a' := by injection h1 with h1; injection h1 with h1; injection h1
        subst ea
        obtain ⟨ps, rfl, rfl, rd⟩ := h2
        have hH : HH F2 M2 a = some (.dT ps) := hh_m (by rw [h5]; exact upd_same)
        obtain ⟨kb, rfl, hkb⟩ := keyT_v hk r2
        refine ⟨a, _, rfl, DPut.t hH (A2.rel.dj.f hkb) (by rw [← List.length_map (f := (·.1))]; exact hl), ?_⟩
        rw [hh_updM]
        have pk := putK_A (k := k) rd r1'
        have t := h8 (.ot _ _) (.dT (putK ps k v)) trivial ⟨_, rfl, pk.1, pk.2⟩
        have eM : upd M2 a (.dT (putK ps k v)) = upd M' a (.dT (putK ps k v)) := by rw [h5, upd_upd]
        rw [eM]
        refine fin.nx _ σ F2 _ M02 q (s1.trans A2.same) ⟨?_, t, A2.rel.box, A2.rel.lk⟩ (m1.trans A2.mr)
        rw [← eM]
        exact A2.rel.dj.updM h3
      | _ => exact q2.elim⟩
end
end DL

/-! {k: v}; name.pop(0). -/
namespace DL
open PySem PySem.Spec PyProof.Rows L2
variable [Lk]
section
variable {X : Cx} {e e2 : Expr} {te t2 : TE} {w w2 : WE} {pos : Pos}
def wfDisp1 (wk wv : WE) : List Sl → (Sl → List Sl → Prop) → Prop := fun ρ Q => wk ρ fun dk ρ1 => wv ρ1 fun d ρ2 => ∃ k, keyD dk = some k ∧ Q (.ok [k] [d]) ρ2
theorem df_disp1 (hk : DE X e te w) (hv : DE X e2 t2 w2) : DF X (.Dict [some e] [e2] pos) (tDisp [(te, t2)]) (wfDisp1 w w2) := ⟨pe_disp (pps_cons hk.pe hv.pe pps_nil) rfl rfl (by simp) (by simp), fun {b ρ σ F M M0} R Qd Q hw k => by
  intro p hp
  obtain ⟨pf, pm⟩ := hh_none hp
  have nbp : b ≠ some p := fun e => by
    obtain ⟨_, _, _, h1, _⟩ := R.box p e
    rw [R.env.sub _ _ h1] at pm; cases pm
  have L := R.lay (o := .dK []) pf pm
  rw [hh_updM]
  refine hk.sn L _ _ hw fun dk ρ1 y F1 M1 M01 q A1 r1 => ?_
  refine hv.sn A1.rel _ _ q fun d ρ2 v F2 M2 M02 q2 A2 r2 => ?_
  obtain ⟨key, hkey, q2⟩ := q2
  have A := A1.trans A2
  have e0 : M02 p = some (.dK []) := by rw [A.mr p nbp, upd_same]
  have e1 := A.rel.env.sub _ _ e0
  have e2 := A.rel.dj _ _ e1
  refine ⟨hh_m e1, [(key, v)], by rw [keyD_v hkey r1]; rfl, by simp, ?_⟩
  have em : mergeK [] [(key, v)] = [(key, v)] := rfl
  rw [em, hh_updM, ← upd_del]
  have mr' : MR b M0 (del M02 p) := fun a na => by
    by_cases e : a = p
    · subst e
      rw [del_same]
      cases z : M0 a with
      | none => rfl
      | some u => rw [R.env.sub _ _ z] at pm; cases pm
    · rw [del_ne e, A.mr a na, upd_ne e]
  refine k (.ok [key] [d]) ρ2 p _ F2 (del M2 p) (del M02 p) q2 ⟨A.same, fun a o na qa => ?_, A.rel.unlay e0 nbp (R.lkM A.same mr'), mr'⟩ trivial ⟨[(key, v)], rfl, rfl, .cons r2 .nil⟩ e2 del_same
  · have nap : a ≠ p := fun z => by rw [z, hp] at qa; cases qa
    have q1 : HH F (upd M p (.dK [])) a = some o := by rw [← hh_updM, upd_ne nap]; exact qa
    have q2 := A.ext a o na q1
    rcases hh_some q2 with z | ⟨z1, z2⟩
    · exact hh_m (by rw [del_ne nap]; exact z)
    · rw [hh_n (by rw [del_ne nap]; exact z1)]; exact z2⟩
/-- name.pop(0), an own list -/
def wPop0 (i : Nat) : WE := fun ρ Q => match ρ[i]? with
  | some (.ol (d :: ds)) => Q d (ρ.set i (.ol ds))
  | _ => False
theorem dx_pop0 (i : Nat) {xn : Str} {np apos cpos p0 : Pos} {j} (hN : X.N[i]? = some xn := by rfl) (hv : Vis X.env.scope xn := by first | exact Or.inl rfl | exact Or.inr (Or.inl rfl) | exact Or.inr (Or.inr rfl))
    (hd : (xn == ("__debug__" : Str)) = false := by decide) (hcd : (xn == ("__classdict__" : Str)) = false := by decide)
    (hbase : attributeBase (.Name xn np) "pop" X.env (eval (.Name xn np) X.env) = eval (.Name xn np) X.env := by rfl)
    (hfew : ((backTo cpos (starEach [.Constant (.int 0) j p0] X.env)).all (fun x => !x.1) && (backToKw cpos (keywordEach [] X.env)).all (fun x => x.1.isSome)
      && decide (([.Constant (.int 0) j p0] : List Expr).length + ([] : List Keyword).length + (if ([] : List Keyword).isEmpty then 0 else 1) < 30)) = true := by rfl)
    (hline : (apos.endLine == cpos.line) = true := by rfl) (hs : starEach [.Constant (.int 0) j p0] X.env = (false, eval (.Constant (.int 0) j p0) X.env) :: starEach [] X.env := by rfl) (hplain : (backTo cpos (starEach [] X.env)).any (·.1) = false := by rfl) :
    DX X (.Call (.Attribute (.Name xn np) "pop" apos) [.Constant (.int 0) j p0] [] cpos) (tBM X.K "list" rPopAt (tVar i) (tCons (tC (.int 0)) tNil)) (wPop0 i) :=
  ⟨pe_bm PySem.F.plainAttrs_list PySem.F.slot_list_pop PySem.F.type_list_pop mt_popAt (pe_var hN hv hd hcd) (pa_cons pe_int pa_nil hs) hbase hfew hline hs hplain, fun {b ρ σ F M M0} R Qd Q hw k => by
  unfold wPop0 at hw
  cases e0 : ρ[i]? with
  | none => simp only [e0] at hw
  | some s0 =>
    simp only [e0] at hw
    cases s0 with
    | ol ds0 =>
      cases ds0 with
      | nil => exact hw.elim
      | cons d ds =>
        obtain ⟨a, vs, h1, h2, h3, h4, h5⟩ := R.ownL e0
        obtain ⟨v, vr, rfl, r1, r2⟩ := h2.cons_iff
        refine ⟨.ref a, h1, .inl ⟨rfl, _, SqL.of h4⟩, ?_⟩
        refine ⟨a, v :: vr, 0, 0, v, rfl, rfl, h4, by decide, by decide, by simp [seqIndex?], rfl, ?_⟩
        rw [hh_updM]
        exact k d _ v F _ M0 hw (Same.refl _) (h5 ds vr r2) (MR.refl _ _) r1
    | _ => exact hw.elim⟩
end
section
variable {ρ : List Sl} {E : EnD} {w w1 w2 wk wv : WE} {wa : WAs} {Qd : D → List Sl → Prop} {Qs : Sl → List Sl → Prop} {i : Nat} {n f m : Str} {wf : List Sl → (Sl → List Sl → Prop) → Prop}
theorem xD : wfDisp1 wk wv ρ Qs = wk ρ fun dk ρ1 => wv ρ1 fun d ρ2 => ∃ k, keyD dk = some k ∧ Qs (.ok [k] [d]) ρ2 := rfl
theorem xE : wPop0 i ρ Qd = match ρ[i]? with
  | some (.ol (d :: ds)) => Qd d (ρ.set i (.ol ds))
  | _ => False := rfl
theorem xF : wOFld i n f ρ Qd = match ρ[i]? with
  | some (.od _ (.ins n' fs ts)) => n' = n ∧ ∃ j t d, fldAt fs ts f j t ∧ peekD t d ∧ Qd d ρ
  | _ => False := rfl
theorem xG : wOFldS i n f ρ Qd = match ρ[i]? with
  | some (.od _ (.ins n' fs ts)) => n' = n ∧ ∃ j d, fldAt fs ts f j (.sh d) ∧ Qd d ρ
  | _ => False := rfl
theorem xH : wOApp i n f w ρ E = ((∃ (x : V) (fs : List Str) (ts : List OT) (j : Nat) (ds : List D), ρ[i]? = some (.od x (.ins n fs ts)) ∧ fldAt fs ts f j (.lst (ds.map OT.sh))) ∧ w ρ fun d ρ1 => match ρ1[i]? with
  | some (.od x (.ins n' fs ts)) => n' = n ∧ ∃ (j : Nat) (ds : List D), fldAt fs ts f j (.lst (ds.map OT.sh)) ∧ ds.length < sizeLine ∧ E.nx (ρ1.set i (.od x (.ins n' fs (ts.set j (.lst ((ds ++ [d]).map OT.sh))))))
  | _ => False) := rfl
theorem xI : wOPut i n f wk wv ρ E = wv ρ fun d ρ1 => (∃ (x : V) (fs : List Str) (ts : List OT) (j : Nat) (ks : List (List Key)) (ds : List D), ρ1[i]? = some (.od x (.ins n fs ts)) ∧ fldAt fs ts f j (.dt ks (ds.map OT.sh))) ∧ wk ρ1 fun dk ρ2 => match ρ2[i]? with
  | some (.od x (.ins n' fs ts)) => n' = n ∧ ∃ (j : Nat) (ks : List (List Key)) (ds : List D) (kd : List D) (k : List Key), fldAt fs ts f j (.dt ks (ds.map OT.sh)) ∧ dk = .tup kd ∧ keysD kd = some k ∧ ks.length < sizeLine ∧ E.nx (ρ2.set i (.od x (.ins n' fs (ts.set j (.dt (putA ks ds k d).1 ((putA ks ds k d).2.map OT.sh))))))
  | _ => False := rfl
theorem xJ : wFldNO i n f wf ρ E = wf ρ fun sl ρ1 => match ρ1[i]? with
  | some (.od x (.ins n' fs ts)) => (n' = n ∧ f ∉ fs ∧ fs.length < 1000) ∧ E.nx (ρ1.set i (.od x (.ins n' (fs ++ [f]) (ts ++ [slT sl]))))
  | _ => False := rfl
theorem xK {wfo : WFo} : wMethO i n m wfo wa ρ Qd = ((∃ (x : V) (fs : List Str) (ts : List OT), ρ[i]? = some (.od x (.ins n fs ts)) ∧ m ∉ fs) ∧ wa ρ fun as ρ1 => match ρ1[i]? with
  | some (.od x t) => wfo (.od x t :: as) fun r as' => ∃ t', as' = .od x t' :: as ∧ Qd r (ρ1.set i (.od x t'))
  | _ => False) := rfl
end
end DL

/-! sorted(d) of int keys; d.get(k). -/
namespace DL
open PySem PySem.Spec PyProof.Rows L2
variable [Lk]
def rSortDI : V → Hp → VK → Prop := fun x H Q => ∃ (a : Addr) (kvs : List (Key × V)) (ks : List Int), [x] = [V.ref a] ∧ Rd H a (.dK kvs) ∧ kvs.map (·.1) = ks.map Sum.inl ∧ ks.length < 64 ∧
    ∀ (ys : List Int) (p : Addr), ys.Perm ks → ys.Pairwise (· ≤ ·) → H p = none → Q (.ref p) (upd H p (.lst (ys.map V.int)))
def qI : D → (D → Prop) → Prop
  | .dk ks xs, Q => ∃ ns : List Int, ks = ns.map Sum.inl ∧ ns.length < 64 ∧ ∀ ms : List Int, ms.Perm ns → ms.Pairwise (· ≤ ·) → Q (.lst (ms.map D.int))
  | _, _ => False
section
variable {X : Cx} {e e2 : Expr} {te t2 : TE} {w w2 : WE} {pos : Pos}
theorem ro1_sortDI : Ro1 (cy X) (fun x H Q => (fun xs H Q => ∃ (a : Addr) (kvs : List (Key × V)) (ks : List Int), xs = [V.ref a] ∧ Rd H a (.dK kvs) ∧ kvs.map (·.1) = ks.map Sum.inl ∧ ks.length < 64 ∧
    ∀ (ys : List Int) (p : Addr), ys.Perm ks → ys.Pairwise (· ≤ ·) → H p = none → Q (.ref p) (upd H p (.lst (ys.map V.int)))) [x] H Q) qI := fun {b F M x d1} Qd Q dj r1 hw k => by
  cases d1 with
  | dk ks xs =>
    obtain ⟨ns, rfl, h64, q⟩ := hw
    obtain ⟨a, ps, rfl, _, h, e, r⟩ := r1
    exact ⟨a, ps, ns, rfl, h, e, h64, fun ms p hp hs hn => new_lst (c := cy X) dj (DrL.of_ints ms) hn (q ms hp hs) k⟩
  | _ => exact hw.elim
def isDkt : D → Prop
  | .dk _ _ => True
  | .dt _ _ => True
  | _ => False
/-- d.get(k) -/
def wGet1 (wa wb : WE) : WE := fun ρ Q => wa ρ fun d1 ρ1 => isDkt d1 ∧ wb ρ1 fun d2 ρ2 => ∃ o, getD' d1 d2 = some o ∧ Q (o.getD .non) ρ2
theorem xL {wa wb : WE} {ρ : List Sl} {Qd : D → List Sl → Prop} : wGet1 wa wb ρ Qd = wa ρ fun d1 ρ1 => isDkt d1 ∧ wb ρ1 fun d2 ρ2 => ∃ o, getD' d1 d2 = some o ∧ Qd (o.getD .non) ρ2 := rfl
theorem de_get1 {apos cpos : Pos} (hu : X.A.units + 1 < cLine) (ha : DP X e te w) (hb : DP X e2 t2 w2) (m : M1 X e "get" apos e2 cpos) : DE X (.Call (.Attribute e "get" apos) [e2] [] cpos) (tDGet1 te t2) (wGet1 w w2) :=
  ⟨pe_dget1 hu ha.pe hb.pe m, fun {b ρ σ F M M0} R Qd Q hw k => by
  refine ha.sn R _ _ hw fun d1 ρ1 x F1 M1 M01 q1 A1 r1 => ?_
  obtain ⟨hd, q1⟩ := q1
  have hx : ∃ a, x = .ref a ∧ IsD (HH F1 M1) a := by
    cases d1 with
    | dk ks xs =>
      obtain ⟨a, ps, rfl, _, h, _⟩ := r1
      exact ⟨a, rfl, .inl ⟨ps, h⟩⟩
    | dt ks xs =>
      obtain ⟨a, ps, rfl, _, h, _⟩ := r1
      exact ⟨a, rfl, .inr ⟨ps, h⟩⟩
    | _ => exact hd.elim
  obtain ⟨a, rfl, hI⟩ := hx
  refine ⟨a, rfl, hI, ?_⟩
  refine hb.sn A1.rel _ _ q1 fun d2 ρ2 y F2 M2 M02 q2 A2 r2 => ?_
  obtain ⟨o, ho, q⟩ := q2
  obtain ⟨a', ov, e1, g, h1, h2⟩ := getD_DGet A2.rel.dj (r1.stay A2.same A2.ext) r2 ho
  cases e1
  refine ⟨ov, g, ?_⟩
  cases o with
  | none =>
    rw [h2 rfl]
    exact k .non ρ2 .non F2 M2 M02 q (A1.trans A2) .of_non
  | some d =>
    obtain ⟨v, rfl, rv⟩ := h1 d rfl
    exact k d ρ2 v F2 M2 M02 q (A1.trans A2) rv⟩
end
end DL

/-! A def that raises for sure; an own exception class called without arguments. -/
namespace DL
open PySem PySem.Spec PyProof.Rows L2
variable [Lk]
theorem ArgsD.nobox {c : Cy} {b : Option Addr} {F : Hp} : ∀ {as : List Sl} {vs : List V}, (∀ s ∈ as, s ≠ .bx) → ArgsD c b F as vs → ArgsD c none F as vs
  | [], vs, _, h => h
  | s :: as, vs, hn, h => by
    obtain ⟨v, vr, e, q, t⟩ := h
    refine ⟨v, vr, e, ?_, ArgsD.nobox (fun x hx => hn x (List.mem_cons_of_mem _ hx)) t⟩
    cases s with
    | sh d => exact q
    | bx => exact absurd rfl (hn _ List.mem_cons_self)
    | _ => exact q.elim
section
variable {X : Cx} {C : Addr} {bmB : List Value} {B newId initId : String}
/-- X() -/
theorem pmk_own0 {x : Str} {p pos : Pos} (F : ExcBaseFacts B newId initId bmB) (q : PySem.W.excIn X.K C bmB newId = true) (gC : X.mg x = some (.ref C)) (kC : PySem.W.keepIn X.K (.ref C) = true) (r : Raises X (.ref C)) (hg : Gl X x)
    (hdb : (x == ("__debug__" : Str)) = false := by decide) : PMk X (.Call (.Name x p) [] [] pos) (fun _ H Q => Q (.ref C) none H) := by
  intro pins s σ H Q I h
  refine wpAny_Call_Name_kw (ld_glob I hg gC ?_ hdb)
  refine PySem.W.callWith_K0 I.kIn kC ?_
  show wpAny _ _ (call (.ref C) []) _ _ _
  obtain ⟨bm, N, nm, qn, bs, hdct, sn, sub, ab, col, dd, k0, k1, k2, k3, k5, mN, hC, hN, hni, T⟩ := exc_obj I.kIn q
  refine wpAny_call_exc_subT F T hC hN hni (fun h' e hm => ?_) (by show 0 ≤ sizeLine; exact Nat.zero_le _)
  exact mk_of I hm r h (I.hok.gone hm.new)
end
/-- a def that raises C() for sure: all that is tracked stays -/
def spRz (c : Cy) (C : Addr) (wf : List Sl → Prop) : Sp := fun vs H _ E => ∃ (F M : Hp) (as : List Sl), H = HH F M ∧ (Dj F M ∧ NT M) ∧ ArgsD c none F as vs ∧ wf as ∧ ∀ H', Ext none H H' → E (.ref C) none H'
/-- an __init__ that raises C() for sure -/
def spOz (c : Cy) (C : Addr) (wf : List Sl → Prop) : Sp := fun vs H _ E => ∃ (F M M1 : Hp) (as : List Sl), H = HH F M ∧ Rel0 c none as (vs.map some) F M M1 ∧ wf as ∧ ∀ H', Ext none H H' → E (.ref C) none H'
section
variable {P : Program} {w : World} {K : PySem.W.Frag} {mg : Str → Option Value} {base : Heap}
/-- if test: raise C() -/
theorem fun_rz {x qual : Str} {st : Stmt} {f C : Addr} {fd : FuncData} {N ps : List Str} {k : Nat} {wf : List Sl → Prop} (F : Fun K x qual st f fd) (S : FnScope N ps (defScope st)) (len : ∀ as, wf as → as.length = ps.length)
    (hbody : ∀ (cdv : Value) (A : Around) (outer : List Env) (s : Shared) (H : Hp) (E : XK), Room k (A.deeper (envOfC qual (defScope st) s.heap.objs.size f cdv)) →
      letI := Lk.top
      ∃ (test : Expr) (xs : Stmt) (tt : TT) (wt : WT) (pos : Pos), defBody st = [.If test [xs] [] pos] ∧ DT (cxOf (L2.CX P w) P w K mg base N qual (defScope st) f cdv A outer s H E) test tt wt ∧
        PS (cxOf (L2.CX P w) P w K mg base N qual (defScope st) f cdv A outer s H E) xs (fun _ _ H' => E (.ref C) none H') ∧ ∀ as, wf as → wt (startD N as) fun b _ => b = true) :
    FnOk P w K mg base (L2.CX P w) (k + 1) f fd ps (spRz ⟨K, mg⟩ C wf) := by
  refine F.okX S (fun vs H Q E h => ?_) (fun cdv A outer s H vs Q E hr h => ?_)
  · obtain ⟨F, M, as, _, _, ar, hw, _⟩ := h
    rw [ar.length, len as hw]
  · obtain ⟨F, M, as, rfl, dj, ar, hw, hE⟩ := h
    letI := Lk.top
    obtain ⟨test, xs, tt, wt, pos, eb, dt, px, hp⟩ := hbody cdv A outer s (HH F M) E hr
    refine ⟨_, by rw [eb]; exact pss_one (ps_if dt.pe (pss_one px) pss_nil), ?_⟩
    have R : Rel ⟨K, mg⟩ none (startD N as) (L2.start N vs) F M M := by
      refine ⟨dj.1, ?_, (fun a z => nomatch z), trivial⟩
      unfold startD L2.start
      rw [show vs.length = as.length from ar.length]
      exact relE_nos (ar.relE M dj.2)
    refine dt.sn R _ _ (hp as hw) fun b ρ' F' M' M0' q A => ?_
    have eb : b = true := q
    subst eb
    rw [if_pos rfl]
    exact hE _ A.ext
end
end DL

/-! try: C(..) except X: return True, where X is raised for sure; try of what never raises; an __init__ that raises for sure. -/
namespace DL
open PySem PySem.Spec PyProof.Rows L2
variable [Lk]
/-- what is tracked stays, and things are new -/
theorem Rel.ext0 {c : Cy} {b : Option Addr} {ρ : List Sl} {σ : L2.St} {F M M0 H' : Hp} (R : Rel c b ρ σ F M M0) (x : Ext none (HH F M) H') : ∃ F', H' = HH F' M ∧ Same F F' ∧ Rel c b ρ σ F' M M0 := by
  let F' : Hp := fun a => match M a with
    | some _ => none
    | none => H' a
  have hF : ∀ a o, M a = some o → F' a = none := fun a o h => by show (match M a with | some _ => none | none => H' a) = none; rw [h]
  have hN : ∀ a, M a = none → F' a = H' a := fun a h => by show (match M a with | some _ => none | none => H' a) = _; rw [h]
  have s : Same F F' := fun a o q => by
    have m : M a = none := by
      cases z : M a with
      | none => rfl
      | some u => rw [R.dj a u z] at q; cases q
    rw [hN a m]
    exact x a o (fun z => nomatch z) (by rw [hh_n m]; exact q)
  refine ⟨F', ?_, s, hF, R.env.leD (.of s) (fun a o q _ => hF a o (R.env.sub a o q)) (fun a o q _ => hF a o q), fun a z => (R.box a z).leD (.of s), R.lkS (s)⟩
  funext a
  cases z : M a with
  | some u => rw [hh_m z]; exact x a u (fun z => nomatch z) (hh_m z)
  | none => rw [hh_n z, hN a z]
section
variable {P : Program} {w : World} {K : PySem.W.Frag} {mg : Str → Option Value} {base : Heap}
theorem FnOk.or {CX : CXT} {k : Nat} {f : Addr} {fd : FuncData} {ps : List Str} {sp1 sp2 : Sp} (h1 : FnOk P w K mg base CX k f fd ps sp1) (h2 : FnOk P w K mg base CX k f fd ps sp2) :
    FnOk P w K mg base CX k f fd ps (fun vs H Q E => sp1 vs H Q E ∨ sp2 vs H Q E) :=
  ⟨fun vs H Q E h => h.elim (h1.len vs H Q E) (h2.len vs H Q E), fun A outer s H args us vs Q E hr e0 hb hv h => h.elim (h1.run A outer s H args us vs Q E hr e0 hb hv) (h2.run A outer s H args us vs Q E hr e0 hb hv)⟩
theorem spF_or {c : Cy} {wf wf1 wf2 : WFn} (h : ∀ as Q, wf as Q → wf1 as Q ∨ wf2 as Q) : ∀ vs H Q E, spF c wf vs H Q E → spF c wf1 vs H Q E ∨ spF c wf2 vs H Q E := by
  rintro vs H Q E ⟨b, F, M, as, Qd, h1, h2, h3, h4, h5, h6⟩
  rcases h as Qd h5 with h5 | h5
  · exact .inl ⟨b, F, M, as, Qd, h1, h2, h3, h4, h5, h6⟩
  · exact .inr ⟨b, F, M, as, Qd, h1, h2, h3, h4, h5, h6⟩
theorem FnOk.cases {CX : CXT} {k : Nat} {f : Addr} {fd : FuncData} {ps : List Str} {wf wf1 wf2 : WFn} (h1 : FnOk P w K mg base CX k f fd ps (spF ⟨K, mg⟩ wf1)) (h2 : FnOk P w K mg base CX k f fd ps (spF ⟨K, mg⟩ wf2)) (h : ∀ as Q, wf as Q → wf1 as Q ∨ wf2 as Q) :
    FnOk P w K mg base CX k f fd ps (spF ⟨K, mg⟩ wf) := (FnOk.or h1 h2).imp (spF_or h)
end
theorem pss_any {X : Cx} : ∀ sts : List Stmt, ∃ t, PSs X sts t
  | [] => ⟨_, pss_nil⟩
  | st :: r => by
    obtain ⟨t, h⟩ := pss_any (X := X) r
    exact ⟨_, pss_cons ps_never h⟩
section
variable {X : Cx} {e : Expr} {es : List Expr} {t : TA} {wt : WAs} {p pos : Pos} {k : Nat} {f C : Addr} {fd : FuncData} {ps : List Str} {n : Str}
/-- try: what never raises -/
theorem ds_try0 {body : List Stmt} {h₀ : ExceptHandler} {hs : List ExceptHandler} {tb : TS} {wb : WS} (hb : DSs X.nox body tb wb) : DS X (.Try body (h₀ :: hs) [] [] pos) tb wb := ⟨ps_try_thru0 hb.ps, hb.sn⟩
def wTryT (n : Str) (wf : List Sl → Prop) (wt : WAs) : WS := fun ρ E => wt ρ fun as ρ1 => (∀ s ∈ as, s ≠ .bx) ∧ (∀ x, wf (.od x (.ins n [] []) :: as)) ∧ E.rt (.bl true) ρ1
/-- C'(args), which raises C for sure -/
theorem ds_tryTrue {x : Str} {C' : Addr} {wf : List Sl → Prop} {np p1 p2 p3 p4 p5 p6 : Pos} {i : Nat} (hs : X.stack = X.env :: X.outer) (hf : X.env.frame = some X.env.locals) (hc : Names X x (.ref C)) (hm : PySem.W.exmOne X.K (.ref C) (.ref C) = some true) (mC : X.mg n = some (.ref C'))
    (has : DAs X es t wt)
    (hb : ∀ (W : WX) (pn : List (Addr × Obj)) (xe : Value → Shared → Prop), Takes (X.tr pn xe) W → PE (X.tr pn xe) (.Call (.Name n p5) es [] p6) (tMake C' (spOz (cy X) C wf) [] (fun cls d H => ∀ σ, W cls d σ H) t)) (hsw : swapsWith (.Call (.Name n p5) es [] p6) none p1.line X.env = pure false := by rfl) :
    DS X (.Try [.Expr (.Call (.Name n p5) es [] p6) p1] [.ExceptHandler (some (.Name x np)) none [.Return (some (.Constant (.bool true) i p2)) p3] p4] [] [] pos)
      (fun D σ H => (tDrop (tMake C' (spOz (cy X) C wf) [] (fun cls d H => ∀ σ, wOnly X.K (.ref C) (fun _ _ _ => tRet (tC (.bl true))) (fun _ _ _ _ => False) D cls d σ H) t)) D σ H) (wTryT n wf wt) := by
  refine ⟨ps_try_only (X := X) (c := .ref C) (tb := fun W => tDrop (tMake C' (spOz (cy X) C wf) [] (fun cls d H => ∀ σ, W cls d σ H) t)) hs hf hc takes0 (fun W pn xe tk _ => pss_one (ps_expr (hb W pn xe tk) hsw)) (fun a oe cls d pn _ _ => pss_one (ps_ret pe_bl)), ?_⟩
  intro b ρ σ F M M0 R E Dn hw fin
  refine has.sn R _ _ hw fun as ρ1 vs F1 M1 M01 q A ar => ?_
  intro x dx hx hdx ne
  obtain ⟨hnb, q, qe⟩ := q
  obtain ⟨fx, mx⟩ := hh_none hx
  obtain ⟨fdx, mdx⟩ := hh_none hdx
  have sF : Same F1 (upd F1 dx (.own x)) := Same.updF fdx
  have dj1 : Dj (upd F1 dx (.own x)) M1 := A.rel.dj.updF mdx
  have djo : Dj M1 (upd emp x (.ins C' dx [])) := fun a o z => by
    by_cases e : a = x
    · rw [e]; exact mx
    · rw [upd_ne e] at z; cases z
  have eH : upd (upd (HH F1 M1) dx (.own x)) x (.ins C' dx []) = HH (upd F1 dx (.own x)) (HH M1 (upd emp x (.ins C' dx []))) := by
    rw [hh_updF mdx, hh_updM]
    congr 1
    rw [← hh_updM, hh_emp]
  rw [List.append_nil]
  refine ⟨upd F1 dx (.own x), HH M1 (upd emp x (.ins C' dx [])), M1, .od (.ref x) (.ins n [] []) :: as, eH, ⟨?_, ?_, fun a z => nomatch z⟩, q (.ref x), fun H' hE σ' => ?_⟩
  · intro a o z
    rcases hh_some z with z | ⟨_, z⟩
    · by_cases e : a = x
      · rw [e, upd_ne (fun z => ne z.symm)]; exact fx
      · rw [upd_ne e] at z; cases z
    · exact dj1 a o z
  · refine ⟨some (.ref x), vs.map some, rfl, _, M1, rfl, ?_, djo, rfl, ((ar.nobox hnb).up sF).relE M1 A.rel.env.nt⟩
    simp only [OTR]
    exact ⟨x, C', dx, [], emp, rfl, mC, rfl, by simp [OTRL], by rw [upd_ne (fun z => ne z.symm)]; exact fx, rfl, rfl⟩
  · have ex : Ext none (HH F1 M1) H' := fun a o z h => hE a o z (by
      have n1 : a ≠ dx := fun z => by rw [z, hdx] at h; cases h
      have n2 : a ≠ x := fun z => by rw [z, hx] at h; cases h
      rw [upd_ne n2, upd_ne n1]; exact h)
    obtain ⟨F', rfl, s, R'⟩ := A.rel.ext0 ex
    exact ⟨true, hm, fun _ a _ => fin.rt _ (.bl true) ρ1 σ F' M1 M01 qe (A.same.trans s) R' A.mr (by simp only [Dr]), fun z => nomatch z⟩
end
section
variable {P : Program} {w : World} {K : PySem.W.Frag} {mg : Str → Option Value} {base : Heap}
/-- an __init__ whose first statement, a call, raises for sure -/
theorem fun_initRz {x qual : Str} {st : Stmt} {f C : Addr} {fd : FuncData} {N ps : List Str} {k : Nat} {wf wf2 : List Sl → Prop} (F : Fun K x qual st f fd) (S : FnScope N ps (defScope st)) (len : ∀ as, wf as → as.length = ps.length)
    (hbody : ∀ (cdv : Value) (A : Around) (outer : List Env) (s : Shared) (H : Hp) (E : XK), Room k (A.deeper (envOfC qual (defScope st) s.heap.objs.size f cdv)) →
      letI := Lk.top
      ∃ (e : Expr) (rest : List Stmt) (es : List Expr) (t : TA) (wt : WAs) (pos : Pos), defBody st = .Expr e pos :: rest ∧ swapsWith e none pos.line (cxOf (L2.CX P w) P w K mg base N qual (defScope st) f cdv A outer s H E).env = pure false ∧
        DAs (cxOf (L2.CX P w) P w K mg base N qual (defScope st) f cdv A outer s H E) es t wt ∧ (PA (cxOf (L2.CX P w) P w K mg base N qual (defScope st) f cdv A outer s H E) es t → PE (cxOf (L2.CX P w) P w K mg base N qual (defScope st) f cdv A outer s H E) e (tCall (spRz ⟨K, mg⟩ C wf2) [] E t)) ∧ ∀ as, wf as → wt (startD N as) fun as2 _ => (∀ s ∈ as2, s ≠ .bx) ∧ wf2 as2) :
    FnOk P w K mg base (L2.CX P w) (k + 1) f fd ps (spOz ⟨K, mg⟩ C wf) := by
  refine F.okX S (fun vs H Q E h => ?_) (fun cdv A outer s H vs Q E hr h => ?_)
  · obtain ⟨F, M, M1, as, _, R, hw, _⟩ := h
    have := R.env.length
    rw [List.length_map] at this
    rw [this, len as hw]
  · obtain ⟨F, M, M1, as, rfl, R, hw, hE⟩ := h
    letI := Lk.top
    obtain ⟨e, rest, es, t, wt, pos, eb, hsw, ha, he, hp⟩ := hbody cdv A outer s (HH F M) E hr
    obtain ⟨tr, htr⟩ := pss_any (X := cxOf (L2.CX P w) P w K mg base N qual (defScope st) f cdv A outer s (HH F M) E) rest
    refine ⟨_, by rw [eb]; exact pss_cons (ps_expr (he ha.pe) hsw) htr, ?_⟩
    have el : vs.length = as.length := by
      have := R.env.length
      rw [List.length_map] at this
      exact this
    have R0 : Rel ⟨K, mg⟩ none (startD N as) (L2.start N vs) F M M1 := by
      refine ⟨R.dj, ?_, R.box, trivial⟩
      unfold startD L2.start
      rw [el]
      exact relE_nos R.env
    refine ha.sn R0 _ _ (hp as hw) fun as2 ρ1 vs2 F1 M2 M02 q A ar => ?_
    rw [List.append_nil]
    exact ⟨F1, M2, as2, rfl, ⟨A.rel.dj, A.rel.env.nt⟩, ar.nobox q.1, q.2, fun H' x => hE H' (A.ext.trans x)⟩
end
end DL

/-! A slice of a list as an own list. -/
namespace DL
open PySem PySem.Spec PyProof.Rows L2
variable [Lk]
def wfCut (w : WE) (wl wh : WO) : List Sl → (Sl → List Sl → Prop) → Prop := fun ρ Q => w ρ fun d ρ1 => wl ρ1 fun lo ρ2 => wh ρ2 fun hi ρ3 => match d with
  | .lst ds => Q (.ol (cutD ds lo hi)) ρ3
  | _ => False
theorem xM {w : WE} {wl wh : WO} {ρ : List Sl} {Qs : Sl → List Sl → Prop} : wfCut w wl wh ρ Qs = w ρ fun d ρ1 => wl ρ1 fun lo ρ2 => wh ρ2 fun hi ρ3 => match d with
  | .lst ds => Qs (.ol (cutD ds lo hi)) ρ3
  | _ => False := rfl
theorem df_cut {X : Cx} {e : Expr} {te : TE} {w : WE} {pos : Pos} {lo hi : Option Expr} {tl th : TO} {wl wh : WO} {p2 : Pos} (he : DP X e te w) (hl : DO X lo tl wl) (hh : DO X hi th wh) : DF X (.Subscript e (.Slice lo hi none p2) pos) (tSl (rSlU X.K) te tl th) (wfCut w wl wh) :=
  ⟨pe_slice sl_U he.pe hl.po hh.po, fun {b ρ σ F M M0} R Qd Q hw k => by
    refine he.sn R _ _ hw fun d ρ1 v F1 M1 M01 q1 A1 r1 => ?_
    refine hl.sn A1.rel _ _ q1 fun lo ρ2 F2 M2 M02 q2 A2 => ?_
    refine hh.sn A2.rel _ _ q2 fun hi ρ3 F3 M3 M03 q3 A3 => ?_
    have r3 := (r1.stay A2.same A2.ext).stay A3.same A3.ext
    have A := (A1.trans A2).trans A3
    cases d with
    | lst ds =>
      obtain ⟨a, vs, rfl, _, h, r⟩ := r3.lst_of
      refine .inl ⟨a, vs, rfl, SqL.of h, fun p hp => ?_⟩
      have e : DrL (cy X) F3 (cutV vs lo hi) (cutD ds lo hi) := by
        unfold cutV cutD
        rw [r.length]
        exact (r.drop _).take _
      obtain ⟨hf, hm⟩ := hh_none hp
      rw [hh_updM]
      exact k (.ol (cutD ds lo hi)) ρ3 p _ F3 M3 M03 q3 A trivial ⟨_, rfl, e⟩ hf hm
    | _ => exact q3.elim⟩
end DL

/-! Loops and comprehensions over a shared dict: it is locked while they run. -/
namespace DL
open PySem PySem.Spec PyProof.Rows L2
variable [LkS]
def qK : D → Option (List D)
  | .dk ks _ => some (ks.map kD)
  | .dt ks _ => some (ks.map fun k => .tup (k.map kD))
  | _ => none
/-- a reading of a shared value: no state changes, and it stays in heaps where locks differ -/
structure KD (X : Cx) (e : Expr) (te : TE) (w : WE) : Prop where
  pe : PE X e te
  rd : ∀ {b : Option Addr} {ρ : List Sl} {σ : L2.St} {F M M0 : Hp}, Rel (cy X) b ρ σ F M M0 → ∀ Qd0 : D → List Sl → Prop, w ρ Qd0 → ∃ d v, (∀ Qd : D → List Sl → Prop, w ρ Qd → Qd d ρ) ∧ Dr (cy X) F v d ∧ ∀ (F' : Hp) (Q : VK), LeD F F' → Dj F' M → Q v (HH F' M) → te σ (HH F' M) Q
/-- an index that is read from no heap -/
structure KI (X : Cx) (e : Expr) (te : TE) (w : List Sl → Option Int) : Prop where
  pe : PE X e te
  rd : ∀ {b : Option Addr} {ρ : List Sl} {σ : L2.St} {F M M0 : Hp}, Rel (cy X) b ρ σ F M M0 → ∀ i, w ρ = some i → ∀ (H : Hp) (Q : VK), Q (.int i) H → te σ H Q
section
variable {X : Cx} {e : Expr} {te : TE} {pos : Pos}
def kVar (i : Nat) : WE := fun ρ Q => match ρ[i]? with
  | some (.sh d) => Q d ρ
  | _ => False
theorem kd_var (i : Nat) {x : Str} (hN : X.N[i]? = some x := by rfl) (hv : Vis X.env.scope x := by first | exact Or.inl rfl | exact Or.inr (Or.inl rfl) | exact Or.inr (Or.inr rfl)) (hd : (x == ("__debug__" : Str)) = false := by decide)
    (hcd : (x == ("__classdict__" : Str)) = false := by decide) : KD X (.Name x pos) (tVar i) (kVar i) := ⟨pe_var hN hv hd hcd, fun {b ρ σ F M M0} R Qd hw => by
  unfold kVar at hw
  cases e1 : ρ[i]? with
  | none => rw [e1] at hw; exact hw.elim
  | some sl =>
    rw [e1] at hw
    cases sl with
    | sh d =>
      obtain ⟨x, h1, h2⟩ := R.env.get e1
      exact ⟨d, x, (fun Qd q => by unfold kVar at q; rw [e1] at q; exact q), h2, fun F' Q _ _ q => ⟨x, h1, q⟩⟩
    | _ => exact hw.elim⟩
def kiC (n : Int) : List Sl → Option Int := fun _ => some n
def qJ (j : Nat) : List Sl → Option Int := fun ρ => match ρ[j]? with
  | some (.sh (.int i)) => some i
  | _ => none
theorem ki_int {n : Int} {j : Nat} : KI X (.Constant (.int n) j pos) (tC (.int n)) (kiC n) := ⟨pe_int, fun R i h H Q q => by rw [← Option.some.inj h] at q; exact q⟩
theorem ki_neg {n : Int} {j : Nat} {p2 : Pos} : KI X (.UnaryOp .USub (.Constant (.int n) j p2) pos) (tUn (rU fun i => .int (-i)) (tC (.int n))) (kiC (-n)) := ⟨pe_un un_neg pe_int, fun R i h H Q q => by rw [← Option.some.inj h] at q; exact ⟨n, rfl, q⟩⟩
theorem ki_var (i : Nat) {x : Str} (hN : X.N[i]? = some x := by rfl) (hv : Vis X.env.scope x := by first | exact Or.inl rfl | exact Or.inr (Or.inl rfl) | exact Or.inr (Or.inr rfl)) (hd : (x == ("__debug__" : Str)) = false := by decide)
    (hcd : (x == ("__classdict__" : Str)) = false := by decide) : KI X (.Name x pos) (tVar i) (qJ i) := ⟨pe_var hN hv hd hcd, fun {b ρ σ F M M0} R k hw H Q q => by
  have hw' : ρ[i]? = some (.sh (.int k)) := by
    unfold qJ at hw
    split at hw
    · rename_i e1
      rw [e1, Option.some.inj hw]
    · cases hw
  obtain ⟨x, h1, h2⟩ := R.env.get hw'
  rw [h2.int_of] at h1
  exact ⟨_, h1, q⟩⟩
/-- name[index] of a list -/
def kIx (i : Nat) (wi : List Sl → Option Int) : WE := fun ρ Q => match wi ρ, ρ[i]? with
  | some k, some (.ol ds) => ∃ d, atI ds k = some d ∧ Q d ρ
  | some k, some (.sh (.lst ds)) => ∃ d, atI ds k = some d ∧ Q d ρ
  | _, _ => False
theorem kd_ix (i : Nat) {x : Str} {xp : Pos} {e2 : Expr} {t2 : TE} {w2 : List Sl → Option Int} (hu : X.A.units + 1 < cLine) (h2 : KI X e2 t2 w2) (hs : PlainIx e2) (hN : X.N[i]? = some x := by rfl) (hv : Vis X.env.scope x := by first | exact Or.inl rfl | exact Or.inr (Or.inl rfl) | exact Or.inr (Or.inr rfl))
    (hd : (x == ("__debug__" : Str)) = false := by decide) (hcd : (x == ("__classdict__" : Str)) = false := by decide) : KD X (.Subscript (.Name x xp) e2 pos) (tOp (rIxU X.K) (tVar i) t2) (kIx i w2) := ⟨pe_ix (ix_U hu) (pe_var hN hv hd hcd) h2.pe hs, fun {b ρ σ F M M0} R Qd hw => by
  cases hk : w2 ρ with
  | none => unfold kIx at hw; rw [hk] at hw; exact hw.elim
  | some k =>
  cases e1 : ρ[i]? with
  | none => unfold kIx at hw; rw [hk, e1] at hw; exact hw.elim
  | some sl =>
    unfold kIx at hw
    rw [hk, e1] at hw
    cases sl with
    | ol ds =>
      obtain ⟨d, ha, q⟩ := hw
      obtain ⟨a, o, M', h3, h4, h5, h6, h7, _⟩ := R.env.own e1 trivial
      obtain ⟨vs, rfl, r⟩ := h4
      obtain ⟨v, hv, rv⟩ := atI_drl r ha
      refine ⟨d, v, (fun Qd q => by
        unfold kIx at q
        rw [hk, e1] at q
        obtain ⟨d', ha', q⟩ := q
        rw [ha] at ha'
        cases ha'
        exact q), rv, fun F' Q s dj q => ⟨.ref a, h3, h2.rd R k hk _ _ ?_⟩⟩
      exact .inl (.inl ⟨a, vs, k, v, rfl, rfl, .inl (.inl (hh_m (by rw [h7]; exact upd_same))), hv, q⟩)
    | sh d0 =>
      cases d0 with
      | lst ds =>
        obtain ⟨d, ha, q⟩ := hw
        obtain ⟨x, h3, h4⟩ := R.env.get e1
        simp only [Dr] at h4
        obtain ⟨a, vs, rfl, hf, r⟩ := h4
        obtain ⟨v, hv, rv⟩ := atI_drl r ha
        refine ⟨d, v, (fun Qd q => by
          unfold kIx at q
          rw [hk, e1] at q
          obtain ⟨d', ha', q⟩ := q
          rw [ha] at ha'
          cases ha'
          exact q), rv, fun F' Q s dj q => ⟨.ref a, h3, h2.rd R k hk _ _ ?_⟩⟩
        exact .inl (.inl ⟨a, vs, k, v, rfl, rfl, .inl (.inl (dj.f (s.pl _ _ hf trivial))), hv, q⟩)
      | _ => exact hw.elim
    | _ => exact hw.elim⟩
end
section
variable {c : Cy}
theorem itk_ok {F : Hp} {a : Addr} {o : Obj} {ps : List (Key × V)} (h : F a = some (.frz o (.dK ps))) : ItOk c (Itk a o ps) F ((ps.map (·.1)).map kD) := fun F' M' s dj _ i => by
  have q : HH F' M' a = some (.frz o (.dK ps)) := dj.f (s _ _ h)
  refine ⟨fun d hd => ?_, fun e => ⟨q, by simp at e; omega⟩⟩
  rw [List.getElem?_map, List.getElem?_map] at hd
  cases ep : ps[i]? with
  | none => rw [ep] at hd; cases hd
  | some p =>
    rw [ep] at hd
    have ed : kD p.1 = d := Option.some.inj hd
    refine ⟨⟨q, (List.getElem?_eq_some_iff.mp ep).1⟩, fun x H3 hy => ?_⟩
    obtain ⟨rfl, k, v, hk, rfl⟩ := hy
    rw [ep] at hk
    cases hk
    refine ⟨F', rfl, Same.refl _, dj, ?_⟩
    rw [← ed]
    cases k <;> simp only [kV, kD, Dr]
theorem drL_keys {F : Hp} : ∀ k : List Key, DrL c F (k.map kV) (k.map kD)
  | [] => by simp only [List.map_nil, DrL]
  | k :: ks => by
    simp only [List.map_cons, DrL]
    exact ⟨_, _, rfl, by cases k <;> simp only [kV, kD, Dr], drL_keys ks⟩
theorem itkt_ok {F : Hp} {a : Addr} {o : Obj} {ps : List (List Key × V)} (h : F a = some (.frz o (.dT ps))) : ItOk c (Itkt a o ps) F ((ps.map (·.1)).map fun k => .tup (k.map kD)) := fun F' M' s dj nt i => by
  have q : HH F' M' a = some (.frz o (.dT ps)) := dj.f (s _ _ h)
  refine ⟨fun d hd => ?_, fun e => ⟨q, by simp at e; omega⟩⟩
  rw [List.getElem?_map, List.getElem?_map] at hd
  cases ep : ps[i]? with
  | none => rw [ep] at hd; cases hd
  | some p =>
    rw [ep] at hd
    have ed : D.tup (p.1.map kD) = d := Option.some.inj hd
    refine ⟨⟨q, (List.getElem?_eq_some_iff.mp ep).1⟩, fun x H3 hy => ?_⟩
    obtain ⟨rfl, k, v, t, hk, rfl, ht⟩ := hy
    rw [ep] at hk
    cases hk
    refine ⟨F', rfl, Same.refl _, dj, ?_⟩
    rw [← ed]
    simp only [Dr]
    refine ⟨t, _, rfl, ?_, drL_keys _⟩
    rcases hh_some ht with z | ⟨_, z⟩
    · exact (nt _ _ z).elim
    · exact z
def wKeys (w : WE) : WA := fun ρ Q => w ρ fun d ρ1 => ∃ ds, qK d = some ds ∧ Q ds ρ1
/-- a dict in the frozen part -/
theorem dict_at {F : Hp} {v : V} {d : D} {ds : List D} (r : Dr c F v d) (h : qK d = some ds) : ∃ a u, v = .ref a ∧ Mut (some u) ∧ NF u ∧ ¬ Pl u ∧ ((∃ ps, u = .dK ps ∧ ds = (ps.map (·.1)).map kD) ∨ ∃ ps, u = .dT ps ∧ ds = (ps.map (·.1)).map fun k => .tup (k.map kD)) ∧ (F a = some u ∨ ∃ o, F a = some (.frz o u)) := by
  cases d with
  | dk ks xs =>
    simp only [Dr] at r
    obtain ⟨a, ps, rfl, hr, rfl, _⟩ := r
    cases h
    exact ⟨a, .dK ps, rfl, trivial, trivial, (fun z => z), .inl ⟨ps, rfl, rfl⟩, hr⟩
  | dt ks xs =>
    simp only [Dr] at r
    obtain ⟨a, ps, rfl, hr, rfl, _⟩ := r
    cases h
    exact ⟨a, .dT ps, rfl, trivial, trivial, (fun z => z), .inr ⟨ps, rfl, rfl⟩, hr⟩
  | _ => cases h
theorem lock_le {F : Hp} {a : Addr} {u : HO} {od : Obj} (h : F a = some u) (np : ¬ Pl u) (nf0 : NF u) : LeD F (upd F a (.frz od u)) := by
  refine ⟨fun x o e p => ?_, fun x u' nf e => ?_⟩
  · have ne : x ≠ a := fun z => by
      rw [z, h] at e
      cases e
      exact np p
    rw [upd_ne ne]; exact e
  · by_cases z : x = a
    · subst z
      rcases e with e | ⟨o, e⟩
      · rw [h] at e
        cases e
        exact .inr ⟨od, upd_same⟩
      · rw [h] at e
        cases e
        exact nf0.elim
    · rcases e with e | ⟨o, e⟩
      · exact .inl (by rw [upd_ne z]; exact e)
      · exact .inr ⟨o, by rw [upd_ne z]; exact e⟩
theorem unlock_le {F : Hp} {a : Addr} {u : HO} {od : Obj} (h : F a = some (.frz od u)) : LeD F (upd F a u) := by
  refine ⟨fun x o e p => ?_, fun x u' nf e => ?_⟩
  · have ne : x ≠ a := fun z => by
      rw [z, h] at e
      cases e
      exact p
    rw [upd_ne ne]; exact e
  · by_cases z : x = a
    · subst z
      rcases e with e | ⟨o, e⟩
      · rw [h] at e
        cases e
        exact nf.elim
      · rw [h] at e
        cases e
        exact .inl upd_same
    · rcases e with e | ⟨o, e⟩
      · exact .inl (by rw [upd_ne z]; exact e)
      · exact .inr ⟨o, by rw [upd_ne z]; exact e⟩
/-- a thing of the frozen part becomes another one that reads alike -/
theorem Rel.swap {b : Option Addr} {ρ : List Sl} {σ : L2.St} {F M M0 : Hp} {a : Addr} {u u' : HO} (R : Rel c b ρ σ F M M0) (h : F a = some u) (le : LeD F (upd F a u')) : Rel c b ρ σ (upd F a u') M M0 := by
  have nw : ∀ x : Addr, F x = none → upd F a u' x = none := fun x e => by
    have ne : x ≠ a := fun z => by rw [z, h] at e; cases e
    rw [upd_ne ne]; exact e
  exact ⟨fun x o q => nw x (R.dj x o q), R.env.leD le (fun x o _ e => nw x e) (fun x o _ e => nw x e), fun x z => (R.box x z).leD le, LkS.swap R.lk h⟩
theorem Fin.locked {b : Option Addr} {F M0 : Hp} {E : EnD} {Dn : Ends} {a : Addr} {u : HO} {od : Obj} (h : F a = some u) (f : Fin c b F M0 E Dn) :
    Fin c b (upd F a (.frz od u)) M0 E ⟨fun σ' H' => H' a = some (.frz od u) ∧ Dn.nx σ' (upd H' a u), fun v H' => H' a = some (.frz od u) ∧ Dn.rt v (upd H' a u), fun σ' H' => H' a = some (.frz od u) ∧ Dn.bk σ' (upd H' a u), fun σ' H' => H' a = some (.frz od u) ∧ Dn.ct σ' (upd H' a u)⟩ := by
  have key : ∀ {ρ : List Sl} {σ : L2.St} {F' M' M0' : Hp}, Same (upd F a (.frz od u)) F' → Rel c b ρ σ F' M' M0' → HH F' M' a = some (.frz od u) ∧ upd (HH F' M') a u = HH (upd F' a u) M' ∧ Same F (upd F' a u) ∧ Rel c b ρ σ (upd F' a u) M' M0' ∧ LeD F' (upd F' a u) := fun {ρ σ F' M' M0'} s R => by
    have hF : F' a = some (.frz od u) := s _ _ upd_same
    have hM : M' a = none := R.dj.mn hF
    refine ⟨R.dj.f hF, hh_updF hM, fun x o e => ?_, R.swap hF (unlock_le hF), unlock_le hF⟩
    by_cases z : x = a
    · rw [z, h] at e
      cases e
      rw [z]; exact upd_same
    · rw [upd_ne z]
      exact s x o (by rw [upd_ne z]; exact e)
  refine ⟨fun ρ σ F' M' M0' e s R m => ?_, fun ρ σ F' M' M0' e s R m => ?_, fun ρ σ F' M' M0' e s R m => ?_, fun d v ρ σ F' M' M0' e s R m r => ?_⟩
  all_goals obtain ⟨k1, k2, k3, k4, k5⟩ := key s R
  · refine ⟨k1, ?_⟩
    rw [k2]; exact f.nx ρ σ _ M' M0' e k3 k4 m
  · refine ⟨k1, ?_⟩
    rw [k2]; exact f.bk ρ σ _ M' M0' e k3 k4 m
  · refine ⟨k1, ?_⟩
    rw [k2]; exact f.ct ρ σ _ M' M0' e k3 k4 m
  · refine ⟨k1, ?_⟩
    rw [k2]; exact f.rt d v ρ σ _ M' M0' e k3 k4 m (r.leD k5)
/-- a statement, or that statement with a lock -/
def tOrL (t : TS) : TS := fun D σ H => t D σ H ∨ tLock t D σ H
theorem ps_orL {X : Cx} {st : Stmt} {t : TS} (h : PS X st t) : PS X st (tOrL t) := ⟨fun pins s σ H D I hw => hw.elim (h.run pins s σ H D I) ((ps_lock h).run pins s σ H D I)⟩
def tOrLE (t : TE) : TE := fun σ H Q => t σ H Q ∨ tLockE t σ H Q
theorem pe_orL {X : Cx} {e : Expr} {t : TE} (h : PE X e t) : PE X e (tOrLE t) := ⟨fun pins s σ H Q I hw => hw.elim (h.run pins s σ H Q I) ((pe_lock h).run pins s σ H Q I)⟩
end
section
variable {X : Cx} {e : Expr} {te : TE} {w : WE}
/-- the walk over a locked dict -/
theorem sniAt_keys {b : Option Addr} {ρ : List Sl} {σ : L2.St} {F M M0 : Hp} {v : V} {d : D} {ds : List D} {a : Addr} {u : HO} {o : Obj} (R : Rel (cy X) b ρ σ F M M0) (det : ∀ Qd : D → List Sl → Prop, w ρ Qd → Qd d ρ) (hv : v = .ref a) (hk : qK d = some ds)
    (hu : (∃ ps, u = .dK ps ∧ ds = (ps.map (·.1)).map kD) ∨ ∃ ps, u = .dT ps ∧ ds = (ps.map (·.1)).map fun k => .tup (k.map kD)) (ha : F a = some (.frz o u)) (rd : ∀ Q : VK, Q v (HH F M) → te σ (HH F M) Q) : SniAt (cy X) (iKeys te) (wKeys w) b ρ σ F M M0 := fun Qd Q hw k => by
  obtain ⟨ds', hk', q⟩ := det _ hw
  rw [hk] at hk'
  cases hk'
  refine rd _ ⟨a, o, hv, ?_⟩
  rcases hu with ⟨ps, rfl, rfl⟩ | ⟨ps, rfl, rfl⟩
  · exact .inl ⟨ps, R.dj.f ha, k _ ρ _ F M M0 q R.aft (itk_ok ha)⟩
  · exact .inr ⟨ps, R.dj.f ha, k _ ρ _ F M M0 q R.aft (itkt_ok ha)⟩
/-- a statement that walks over a dict at its beginning -/
theorem sns_orL (kd : KD X e te w) {ts : TS} {ws : WS} (hw0 : ∀ ρ E, ws ρ E → ∃ Qd, wKeys w ρ Qd)
    (hs : ∀ {b : Option Addr} {ρ : List Sl} {σ : L2.St} {F M M0 : Hp}, Rel (cy X) b ρ σ F M M0 → SniAt (cy X) (iKeys te) (wKeys w) b ρ σ F M M0 → ∀ (E : EnD) (Dn : Ends), ws ρ E → Fin (cy X) b F M0 E Dn → ts Dn σ (HH F M)) : Sns (cy X) (tOrL ts) ws := fun {b ρ σ F M M0} R E Dn hw f => by
  obtain ⟨Qd0, h0⟩ := hw0 ρ E hw
  obtain ⟨d, v, det, r, rd⟩ := kd.rd R _ h0
  obtain ⟨ds, hk, _⟩ := det _ h0
  obtain ⟨a, u, hv, mu, nf, np, hu, hF⟩ := dict_at r hk
  rcases hF with hF | ⟨o, hF⟩
  · refine .inr ⟨a, u, R.dj.f hF, mu, fun od => ?_⟩
    have hM : M a = none := R.dj.mn hF
    have le := lock_le (od := od) hF np nf
    have R2 := R.swap hF le
    rw [hh_updF hM]
    exact hs R2 (sniAt_keys R2 det hv hk hu upd_same (fun Q q => rd _ Q le R2.dj q)) E _ hw (f.locked hF)
  · exact .inl (hs R (sniAt_keys R det hv hk hu hF (fun Q q => rd F Q (LeD.refl F) R.dj q)) E Dn hw f)
/-- an expression that makes a new list and walks over a dict at its beginning -/
theorem snf_orL (kd : KD X e te w) {t : TE} {wf : List Sl → (Sl → List Sl → Prop) → Prop} (hw0 : ∀ ρ Qs, wf ρ Qs → ∃ Qd, wKeys w ρ Qd)
    (hs : ∀ {b : Option Addr} {ρ : List Sl} {σ : L2.St} {F M M0 : Hp}, Rel (cy X) b ρ σ F M M0 → SniAt (cy X) (iKeys te) (wKeys w) b ρ σ F M M0 → ∀ (Qd : Sl → List Sl → Prop) (Q : VK), wf ρ Qd →
      (∀ sl ρ' a o F' M' M0', Qd sl ρ' → Aft (cy X) b F M M0 ρ' σ F' M' M0' → isShal sl → ObR (cy X) F' sl o → F' a = none → M' a = none → Q (.ref a) (HH F' (upd M' a o))) → t σ (HH F M) Q) : Snf (cy X) (tOrLE t) wf := fun {b ρ σ F M M0} R Qd Q hw k => by
  obtain ⟨Qd0, h0⟩ := hw0 ρ Qd hw
  obtain ⟨d, v, det, r, rd⟩ := kd.rd R _ h0
  obtain ⟨ds, hk, _⟩ := det _ h0
  obtain ⟨a, u, hv, mu, nf, np, hu, hF⟩ := dict_at r hk
  rcases hF with hF | ⟨o, hF⟩
  · refine .inr ⟨a, u, R.dj.f hF, mu, fun od => ?_⟩
    have hM : M a = none := R.dj.mn hF
    have le := lock_le (od := od) hF np nf
    have R2 := R.swap hF le
    rw [hh_updF hM]
    refine hs R2 (sniAt_keys R2 det hv hk hu upd_same (fun Q q => rd _ Q le R2.dj q)) Qd _ hw fun sl ρ' p ob F' M' M0' q A sh ob2 fp mp => ?_
    have hF' : F' a = some (.frz od u) := A.same _ _ upd_same
    have hM' : M' a = none := A.rel.dj.mn hF'
    have nap : a ≠ p := fun z => by rw [z, fp] at hF'; cases hF'
    have ul := unlock_le hF'
    refine ⟨by rw [hh_n (by rw [upd_ne nap]; exact hM')]; exact hF', ?_⟩
    rw [hh_updF (by rw [upd_ne nap]; exact hM')]
    have sm : Same F (upd F' a u) := fun x o e => by
      by_cases z : x = a
      · rw [z, hF] at e
        cases e
        rw [z]; exact upd_same
      · rw [upd_ne z]
        exact A.same x o (by rw [upd_ne z]; exact e)
    refine k sl ρ' p ob _ M' M0' q ⟨sm, fun x o nb e => ?_, A.rel.swap hF' ul, A.mr⟩ sh (ob2.leD ul) (by rw [upd_ne nap.symm]; exact fp) mp
    by_cases z : x = a
    · rw [z, R.dj.f hF] at e
      cases e
      rw [z, hh_n hM']; exact upd_same
    · have e2 : HH (upd F a (.frz od u)) M x = some o := by
        rcases hh_some e with y | ⟨y1, y2⟩
        · exact hh_m y
        · rw [hh_n y1, upd_ne z]; exact y2
      have e3 := A.ext x o nb e2
      rcases hh_some e3 with y | ⟨y1, y2⟩
      · exact hh_m y
      · rw [hh_n y1, upd_ne z]; exact y2
  · exact .inl (hs R (sniAt_keys R det hv hk hu hF (fun Q q => rd F Q (LeD.refl F) R.dj q)) Qd Q hw k)
end
section
variable {X : Cx} {pos : Pos} {tg iter : Expr} {body : List Stmt} {te : TE} {w : WE} {g : TG} {wg : WG} {tb : TS} {wb : WS}
/-- for target in dict -/
theorem ds_forK (hp : PassesOwn (model X.prog X.w) X.A X.env X.xe) (hc : X.calm = true) {is : List Nat} (hk : KD X iter te w) (hg : DG X tg g wg is) (hb : DSs X body tb wb)
    (hs : ∀ x, foldedSetIterable iter X.env x = pure x := by intro _; rfl) : DS X (.For tg iter body [] pos) (tOrL (tFor (iKeys te) g tb)) (wFor (wKeys w) wg wb) :=
  ⟨ps_orL (ps_for hp hc (pi_keys hk.pe) hg.pg hb.ps hs), sns_orL hk (fun ρ E h => ⟨_, h⟩) fun R hi E Dn hw f => sns_for_at R hi hg.sn hb.sn E Dn hw f⟩
theorem PS.of {st : Stmt} {t t' : TS} (h : PS X st t) (c : ∀ D σ H, t' D σ H → t D σ H) : PS X st t' := ⟨fun pins s σ H D I hw => h.run pins s σ H D I (c D σ H hw)⟩
theorem asg_orL {t : TE} {i : Nat} : ∀ D σ H, tAsg (tOrLE t) (gName i) D σ H → tOrL (tAsg t (gName i)) D σ H := fun D σ H h => by
  rcases h with h | ⟨d, u, h1, h2, h3⟩
  · exact .inl h
  · exact .inr ⟨d, u, h1, h2, fun od => h3 od⟩
variable {elt : Expr} {ifs : List Expr} {scope : Scope} {own : List (Str × Nat)} {tt : TT} {tel : TE} {wt : WT} {we : WE}
/-- [.. for target in dict] -/
theorem df_lcK {is : List Nat} (hc : X.calm = true) (hN : X.N.Nodup) (hk : KD X iter te w) (ok : BlkOk X.N X.env.scope scope own)
    (hg0 : DG (X.blk {} (fun _ => none) scope (compEnvC scope [] 0 X.env) []) tg g wg is) (ht0 : DTs (X.blk {} (fun _ => none) scope (compEnvC scope [] 0 X.env) []) ifs tt wt) (he0 : DE (X.blk {} (fun _ => none) scope (compEnvC scope [] 0 X.env) []) elt tel we)
    (hg : ∀ (s : Shared) (H : Hp) (C : Addr) (cl : List (Str × Addr)) (fp : List Addr), DG (X.blk s H scope (compEnvC scope cl C X.env) fp) tg g wg is) (ht : ∀ (s : Shared) (H : Hp) (C : Addr) (cl : List (Str × Addr)) (fp : List Addr), DTs (X.blk s H scope (compEnvC scope cl C X.env) fp) ifs tt wt)
    (he : ∀ (s : Shared) (H : Hp) (C : Addr) (cl : List (Str × Addr)) (fp : List Addr), DE (X.blk s H scope (compEnvC scope cl C X.env) fp) elt tel we) (his : ∀ i ∈ is, i ∈ own.map (·.2) := by decide) (hs : ∀ x, foldedSetIterable iter X.env x = pure x := by intro _; rfl) :
    DF X (.ListComp elt [⟨tg, iter, ifs, 0⟩] scope pos) (tOrLE (tLc (iKeys te) g tt tel (own.map (·.2)))) (wLc (own.map (·.2)) (wKeys w) wg wt we) :=
  ⟨pe_orL (pe_lc hc hN (pi_keys hk.pe) ok (fun s H C cl fp => (hg s H C cl fp).pg) (fun s H C cl fp => (ht s H C cl fp).pe) (fun s H C cl fp => (he s H C cl fp).pe) hs),
    snf_orL hk (fun ρ Qs h => ⟨_, h⟩) fun R hi Qd Q hw k => snf_lc_at (c := cy X) his R hi hg0.sn ht0.sn he0.sn Qd Q hw k⟩
/-- name = [.. for target in dict], shared -/
theorem ds_setLcK {i : Nat} {y : Str} {py spos : Pos} {is : List Nat} (hc : X.calm = true) (hN : X.N.Nodup) (hy : X.N[i]? = some y) (hyl : X.env.scope.names.lookup y = some .local)
    (hsw : swapsWith (.ListComp elt [⟨tg, iter, ifs, 0⟩] scope pos) (some (.Name y py)) spos.line X.env = pure true) (hk : KD X iter te w) (ok : BlkOk X.N X.env.scope scope own)
    (hg0 : DG (X.blk {} (fun _ => none) scope (compEnvC scope [] 0 X.env) []) tg g wg is) (ht0 : DTs (X.blk {} (fun _ => none) scope (compEnvC scope [] 0 X.env) []) ifs tt wt) (he0 : DE (X.blk {} (fun _ => none) scope (compEnvC scope [] 0 X.env) []) elt tel we)
    (hg : ∀ (s : Shared) (H : Hp) (C : Addr) (cl : List (Str × Addr)) (fp : List Addr), DG (X.blk s H scope (compEnvC scope cl C X.env) fp) tg g wg is) (ht : ∀ (s : Shared) (H : Hp) (C : Addr) (cl : List (Str × Addr)) (fp : List Addr), DTs (X.blk s H scope (compEnvC scope cl C X.env) fp) ifs tt wt)
    (he : ∀ (s : Shared) (H : Hp) (C : Addr) (cl : List (Str × Addr)) (fp : List Addr), DE (X.blk s H scope (compEnvC scope cl C X.env) fp) elt tel we) (his : ∀ i ∈ is, i ∈ own.map (·.2) := by decide) (hs : ∀ x, foldedSetIterable iter X.env x = pure x := by intro _; rfl) :
    DS X (.Assign [.Name y py] (.ListComp elt [⟨tg, iter, ifs, 0⟩] scope pos) spos) (tAsg (tOrLE (tLc (iKeys te) g tt tel (own.map (·.2)))) (gName i)) (wAsg (wFz (wLc (own.map (·.2)) (wKeys w) wg wt we)) (wSt i)) :=
  ⟨PS.of (ps_orL (ps_setLc hc hN hy hyl hsw (pi_keys hk.pe) ok (fun s H C cl fp => (hg s H C cl fp).pg) (fun s H C cl fp => (ht s H C cl fp).pe) (fun s H C cl fp => (he s H C cl fp).pe) hs)) asg_orL,
    sns_asg (df_lcK (pos := pos) hc hN hk ok hg0 ht0 he0 hg ht he his hs).de.sn (sng_name i)⟩
end
section
variable {ρ : List Sl} {E : EnD} {w : WE} {Ql : List D → List Sl → Prop} {Qd : D → List Sl → Prop} {i : Nat} {wi : List Sl → Option Int}
theorem xX : wKeys w ρ Ql = w ρ fun d ρ1 => ∃ ds, qK d = some ds ∧ Ql ds ρ1 := rfl
theorem xY : kVar i ρ Qd = match ρ[i]? with
  | some (.sh d) => Qd d ρ
  | _ => False := rfl
theorem xZ : kIx i wi ρ Qd = match wi ρ, ρ[i]? with
  | some k, some (.ol ds) => ∃ d, atI ds k = some d ∧ Qd d ρ
  | some k, some (.sh (.lst ds)) => ∃ d, atI ds k = some d ∧ Qd d ρ
  | _, _ => False := rfl
end
end DL

/-! Dicts of tuple keys: {t: v}, dict(pairs). -/
namespace DL
open PySem PySem.Spec PyProof.Rows L2
variable [Lk]
section
variable {X : Cx}
theorem storedAllH_new : ∀ (ps acc : List (List Key × Addr × Value)), (acc.map (·.1) ++ ps.map (·.1)).Nodup → PySem.storedAllH acc ps = acc ++ ps
  | [], acc, _ => by rw [List.append_nil]; rfl
  | p :: ps, acc, h => by
    have hk : p.1 ∉ acc.map (·.1) := fun z => by
      rw [List.map_cons, List.nodup_append] at h
      exact h.2.2 p.1 z p.1 List.mem_cons_self rfl
    have hn : atKey acc p.1 = none := atKey_none_of_get fun j q e => hk (List.mem_map.mpr ⟨(p.1, q), List.mem_of_getElem? e, rfl⟩)
    have e : storedH acc p.1 p.2.1 p.2.2 = acc ++ [p] := storedH_new hn _ _
    show PySem.storedAllH (storedH acc p.1 p.2.1 p.2.2) ps = _
    rw [e, storedAllH_new ps _ (by simpa using h), List.append_assoc]; rfl
theorem pairsT_of {pins : List (Addr × Obj)} {σ : L2.St} {H : Hp} {s : Shared} (I : Inv X pins σ H s) : ∀ {ps : List Addr} {kvs : List (List Key × V)}, Paired (fun p kv => ∃ q, SqT X.K H p [V.ref q, kv.2] ∧ H q = some (.tup (kv.1.map kV))) ps kvs →
    ∃ prs : List (List Key × Addr × Value), KT H kvs prs ∧ prs.length = ps.length ∧ prs.map (·.1) = kvs.map (·.1) ∧ ∀ (j : Nat) (x : List Key × Addr × Value), prs[j]? = some x → ∃ b, ps[j]? = some b ∧ IsTup s.heap b #[.ref x.2.1, x.2.2] ∧ H x.2.1 = some (.tup (x.1.map kV))
  | _, _, .nil => ⟨[], .nil, rfl, rfl, fun j q e => by simp at e⟩
  | _, _, .cons (a := p) (b := kv) h t => by
    obtain ⟨prs, r, hl, hm, hp⟩ := pairsT_of I t
    obtain ⟨q, h, hq⟩ := h
    obtain ⟨its, rv, ht, _⟩ := I.tuple h
    obtain ⟨u, y, ei, ru, ry⟩ := vals2 rv
    subst ei
    obtain rfl : u = Value.ref q := ru
    refine ⟨(kv.1, q, y) :: prs, .cons ⟨rfl, hq, ry⟩ r, by rw [List.length_cons, List.length_cons, hl], by simp [hm], fun j x e => ?_⟩
    cases j with
    | zero =>
      have e' : (kv.1, q, y) = x := Option.some.inj e
      subst e'
      exact ⟨p, rfl, ht, hq⟩
    | succ j =>
      obtain ⟨b, e1, e2⟩ := hp j x (by simpa using e)
      exact ⟨b, by simpa using e1, e2⟩
theorem dt_made {P : Program} {w : World} {H : Hp} {h' : Heap} {a : Addr} {kvs : List (List Key × V)} {prs : List (List Key × Addr × Value)} (hl : kvs.length ≤ sizeLine) (hm : (a == sysModules) = false) (r : KT H kvs prs) (ha : H a = none) (d : h'.DictOfH (tupleKind (mixKind P w)) a prs) :
    ObjOk P w (upd H a (.dT kvs)) h' a (.dT kvs) := by
  obtain ⟨q, es, ep, hq, h2, h3, h4, _, h5⟩ := d
  refine ⟨hl, hm, prs, r.keeps fun c ys ec => ?_, q, es, ep, hq, h2, h3, h4, h5⟩
  rw [upd_ne (fun z => by rw [z, ha] at ec; cases ec)]
  exact ec
/-- dict(xs) of a list of pairs (tuple, value), no key twice -/
theorem call_dictPT (hcalm : X.calm = true) (hu : X.A.units + 2 < cLine) : CallR X (.type "dict") (fun xs H Q => ∃ (a : Addr) (ps : List Addr) (kvs : List (List Key × V)), xs = [.ref a] ∧ SqL X.K H a (ps.map V.ref) ∧ Paired (fun p kv => ∃ q, SqT X.K H p [V.ref q, kv.2] ∧ H q = some (.tup (kv.1.map kV))) ps kvs ∧ (kvs.map (·.1)).Nodup ∧
    ∀ p, H p = none → Q (.ref p) (upd H p (.dT kvs))) := by
  intro pins s σ H xs us Q I r q
  obtain ⟨a, ps, kvs, ex, hq, hp, nd, q⟩ := q
  subst ex
  obtain ⟨u, eu, rx⟩ := vals1 r
  subst eu
  cases rx
  obtain ⟨its, rv, pl, hz⟩ := I.list hq
  have ei := refs_at rv
  subst ei
  rw [List.length_map] at hz
  obtain ⟨prs, rel, hl, hks, hpr⟩ := pairsT_of I hp
  obtain ⟨o, n, ho, hc, hd, hdat⟩ := pl
  have hnd : (prs.map (·.1)).Nodup := by rw [hks]; exact nd
  have est : PySem.storedAllH [] prs = prs := by
    have := storedAllH_new prs [] (by simpa using hnd)
    simpa using this
  refine PySem.call_dict_pairsH (K := List Key) (knd := tupleKind (mixKind X.prog X.w)) (ps := prs) (PySem.PairArg.list a (ps.map Value.ref).toArray (fun j => ps.getD j 0) (prs.map fun x => (Value.ref x.2.1, x.2.2))) (I.ok.hd hcalm) (tupleKind_room_in1 (A := X.A.in1) (by show X.A.units + 1 + 1 < cLine; omega))
    ⟨⟨o, n, ho, hc, hd, hdat⟩, by simp [hl], fun j k v e => ?_⟩ ⟨by simp, fun i key v e => ?_⟩ (fun h' hk x hx => ?_) (by simp [hl]; exact hz) fun h' tk hd' k => ?_
  · rw [List.getElem?_map] at e
    cases ex : prs[j]? with
    | none => rw [ex] at e; cases e
    | some x =>
      rw [ex] at e
      cases e
      obtain ⟨b, e1, e2, _⟩ := hpr j x ex
      have eb : ps.getD j 0 = b := by rw [List.getD_eq_getElem?_getD, e1]; rfl
      refine ⟨by show (List.map Value.ref ps).toArray[j]? = some (Value.ref (ps.getD j 0)); rw [eb]; simp [e1], ?_⟩
      show PairAt s.heap (ps.getD j 0) _ _
      rw [eb]
      exact .inl e2
  · have e : (prs.map fun x => (Value.ref x.2.1, x.2.2))[i]? = some (key, v) := e
    rw [List.getElem?_map] at e
    cases ex : prs[i]? with
    | none => rw [ex] at e; cases e
    | some x =>
      rw [ex] at e
      cases e
      exact ⟨x.1, x.2.1, rfl, rfl⟩
  · obtain ⟨j, ej⟩ := List.getElem?_of_mem hx
    obtain ⟨b, e1, e2, e3⟩ := hpr j x ej
    obtain ⟨o2, its2, n2, k1, k2⟩ := key_of I.hok e3
    exact ⟨o2, its2, n2, hk _ _ (Nat.ne_of_lt (Heap.lt_size k1)) (fun z => nomatch z) k1, k2⟩
  · rw [est] at hd'
    have hm : (s.heap.objs.size == sysModules) = false := beq_eq_false_iff_ne.mpr (Nat.ne_of_gt I.big)
    have hlen : kvs.length ≤ sizeLine := by
      have := Paired.length rel
      omega
    have fr := I.hok.fresh (Nat.le_refl s.heap.objs.size)
    exact ⟨.ref s.heap.objs.size, upd H s.heap.objs.size (.dT kvs), I.laid (t' := tk) (fun b o e => k b o (fun z => nomatch z) e) (Nat.le_refl _) (dt_made hlen hm rel fr hd'), rfl, q _ fr⟩
/-- {t: v} -/
def tDispT (tk tv : TE) : TE := fun σ H Q => ∀ p, H p = none → tk σ (upd H p (.dT [])) fun x H1 => tv σ H1 fun y H2 => H2 p = some (.dT []) ∧ ∃ (q : Addr) (ks : List Key), x = .ref q ∧ H2 q = some (.tup (ks.map kV)) ∧ Q (.ref p) (upd H2 p (.dT [(ks, y)]))
theorem pe_dispT {pos : Pos} {k v : Expr} {tk tv : TE} (hu : X.A.units < cLine) (hk : PE X k tk) (hv : PE X v tv) : PE X (.Dict [some k] [v] pos) (tDispT tk tv) := by
  refine ⟨fun pins s σ H Q I q => ?_⟩
  have hn := I.hok.fresh (Nat.le_refl s.heap.objs.size)
  have I1 := I.laid (a := s.heap.objs.size) (o := .dT []) (h' := s.heap.push { cls := .type "dict", data := .dict #[] }) (t' := s.toks) (fun _ _ q => Heap.get?_push_of_some _ q) (Nat.le_refl _) (dt_empty s.heap I.big)
  have h0 : pairTrees [some k] [v] X.env pos ≠ [] := by simp [pairTrees]
  rw [arm_eval_Dict, zip_pairTrees [some k] [v] X.env pos rfl rfl, dictDisplay_pairs _ h0 (by simp [pairTrees])]
  refine wpAny_bind (wpAny_standAt (wpAny_bind (PySem.wpAny_subDictH (K := List Key) (knd := tupleKind (mixKind X.prog X.w)) (Q := fun d s' => wpAny (model X.prog X.w) X.A (pure (Value.ref d)) (EP X pins σ Q) X.xe s') hu (by simp [pairTrees]) ?_)))
  refine pairTrees_cons_walk (thn (hk.run pins _ σ _ _ I1 (q _ hn)) fun u s1 ⟨x, H1, I1, rx, q1⟩ => thn (hv.run pins s1 σ H1 _ I1 q1) fun w2 s2 ⟨y, H2, I2, ry, q2⟩ => pairTrees_nil_walk ?_)
  obtain ⟨e, b, ks, ex, hb, q2⟩ := q2
  subst ex
  obtain rfl : u = Value.ref b := rx
  obtain ⟨z, hd, xs, rel, dd⟩ := dt_of I2.hok e
  cases rel
  refine ⟨[(ks, b, w2)], ⟨rfl, rfl, key_of I2.hok hb, trivial⟩, dd, fun h' tk' dd' hs => wpAny_pure ⟨.ref s.heap.objs.size, upd H2 s.heap.objs.size (.dT [(ks, y)]), ?_, rfl, q2⟩⟩
  have he : ∃ q, h'.get? s.heap.objs.size = some q := let ⟨q, _, _, hq, _⟩ := dd'; ⟨q, hq⟩
  have key := d_write I2 (h' := h') (t' := tk') (ob := .dT [(ks, y)]) (by rw [e]; exact True.intro) hs he (by
    obtain ⟨q, es, ep, hq, h2, h3, h4, _, h5⟩ := dd'
    refine ⟨by show 1 ≤ sizeLine; rw [sizeLine_eq]; omega, hd, [(ks, b, w2)], .cons ⟨rfl, ?_, ry⟩ .nil, q, es, ep, hq, h2, h3, h4, h5⟩
    show upd H2 s.heap.objs.size (.dT [(ks, y)]) b = _
    rw [upd_ne (ne_of hb e (fun z => nomatch z))]
    exact hb)
  exact key
end
def pairT (p : List Key × D) : D := .tup [.tup (p.1.map kD), p.2]
theorem drL_kD {c : Cy} {F : Hp} : ∀ {ks : List Key} {us : List V}, DrL c F us (ks.map kD) → us = ks.map kV
  | [], us, h => h.nil_iff
  | k :: ks, us, h => by
    obtain ⟨v, vr, rfl, q, t⟩ := h.cons_iff
    rw [kD_v q, drL_kD t]; rfl
theorem pairsT_v {c : Cy} {F : Hp} : ∀ {kds : List (List Key × D)} {vs : List V}, DrL c F vs (kds.map pairT) → ∃ (ps : List Addr) (kvs : List (List Key × V)), vs = ps.map V.ref ∧ kvs.map (·.1) = kds.map (·.1) ∧ DrL c F (kvs.map (·.2)) (kds.map (·.2)) ∧
    ∀ (M : Hp), Dj F M → Paired (fun p kv => ∃ q, SqT c.K (HH F M) p [V.ref q, kv.2] ∧ HH F M q = some (.tup (kv.1.map kV))) ps kvs
  | [], vs, h => ⟨[], [], h.nil_iff, rfl, .nil, fun M dj => .nil⟩
  | kd :: kds, vs, h => by
    obtain ⟨v, vr, rfl, q, t⟩ := h.cons_iff
    obtain ⟨ps, kvs, rfl, e, r, pp⟩ := pairsT_v t
    unfold pairT at q
    simp only [Dr] at q
    obtain ⟨p, us, rfl, hp, q⟩ := q
    obtain ⟨u1, us, rfl, q1, q⟩ := q.cons_iff
    obtain ⟨u2, us, rfl, q2, q⟩ := q.cons_iff
    have eu := q.nil_iff
    subst eu
    simp only [Dr] at q1
    obtain ⟨b, ws, rfl, hb, q1⟩ := q1
    have ek := drL_kD q1
    subst ek
    exact ⟨p :: ps, (kd.1, u2) :: kvs, rfl, by simp [e], .cons q2 r, fun M dj => .cons ⟨b, SqT.of (dj.f hp), dj.f hb⟩ (pp M dj)⟩
theorem new_dt {c : Cy} {F M : Hp} {ps : List (List Key × V)} {ds : List D} {p : Addr} {Q : VK} {Qd : D → Prop} (dj : Dj F M) (r : DrL c F (ps.map (·.2)) ds) (hp : HH F M p = none) (q : Qd (.dt (ps.map (·.1)) ds)) (k : ∀ d v F', Qd d → Same F F' → Dj F' M → Dr c F' v d → Q v (HH F' M)) :
    Q (.ref p) (upd (HH F M) p (.dT ps)) := by
  obtain ⟨hf, hm⟩ := hh_none hp
  rw [hh_updF hm]
  refine k _ _ _ q (Same.updF hf) (dj.updF hm) ?_
  simp only [Dr]
  exact ⟨p, ps, rfl, .inl upd_same, rfl, r.up (Same.updF hf)⟩
def rDictT (K : PySem.W.Frag) : List V → Hp → VK → Prop := fun xs H Q => ∃ (a : Addr) (ps : List Addr) (kvs : List (List Key × V)), xs = [.ref a] ∧ SqL K H a (ps.map V.ref) ∧ Paired (fun p kv => ∃ q, SqT K H p [V.ref q, kv.2] ∧ H q = some (.tup (kv.1.map kV))) ps kvs ∧ (kvs.map (·.1)).Nodup ∧
    ∀ p, H p = none → Q (.ref p) (upd H p (.dT kvs))
def dDictT : D → (D → Prop) → Prop
  | .lst ds, Q => ∃ kds : List (List Key × D), ds = kds.map pairT ∧ (kds.map (·.1)).Nodup ∧ Q (.dt (kds.map (·.1)) (kds.map (·.2)))
  | _, _ => False
section
variable {X : Cx}
theorem call_dictT (hc : X.calm = true) (hu : X.A.units + 65 < cLine) : CallR X (.type "dict") (rDictT X.K) := call_dictPT hc (by omega)
theorem ro1_dictT : Ro1 (cy X) (fun x H Q => rDictT X.K [x] H Q) dDictT := fun {b F M x d1} Qd Q dj r1 hw k => by
  cases d1 with
  | lst ds =>
    obtain ⟨kds, rfl, nd, q⟩ := hw
    obtain ⟨a, vs, rfl, _, h, r⟩ := r1.lst_of
    obtain ⟨ps, kvs, rfl, e, r2, pp⟩ := pairsT_v r
    refine ⟨a, ps, kvs, rfl, SqL.of h, pp M dj, by rw [e]; exact nd, fun p hp => ?_⟩
    exact new_dt dj r2 hp (by rw [e]; exact q) k
  | _ => exact hw.elim
/-- {t: v}, an own dict -/
def wfDispT (wk wv : WE) : List Sl → (Sl → List Sl → Prop) → Prop := fun ρ Q => wk ρ fun dk ρ1 => wv ρ1 fun d ρ2 => ∃ ks : List Key, dk = .tup (ks.map kD) ∧ Q (.ot [ks] [d]) ρ2
theorem xW {wk wv : WE} {ρ : List Sl} {Qs : Sl → List Sl → Prop} : wfDispT wk wv ρ Qs = wk ρ fun dk ρ1 => wv ρ1 fun d ρ2 => ∃ ks : List Key, dk = .tup (ks.map kD) ∧ Qs (.ot [ks] [d]) ρ2 := rfl
theorem df_dispT {e e2 : Expr} {te t2 : TE} {w w2 : WE} {pos : Pos} (hu : X.A.units + 65 < cLine) (hk : DE X e te w) (hv : DE X e2 t2 w2) : DF X (.Dict [some e] [e2] pos) (tDispT te t2) (wfDispT w w2) := ⟨pe_dispT (by omega) hk.pe hv.pe, fun {b ρ σ F M M0} R Qd Q hw k => by
  intro p hp
  obtain ⟨pf, pm⟩ := hh_none hp
  have nbp : b ≠ some p := fun e => by
    obtain ⟨_, _, _, h1, _⟩ := R.box p e
    rw [R.env.sub _ _ h1] at pm; cases pm
  have L := R.lay (o := .dT []) pf pm
  rw [hh_updM]
  refine hk.sn L _ _ hw fun dk ρ1 y F1 M1 M01 q A1 r1 => ?_
  refine hv.sn A1.rel _ _ q fun d ρ2 v F2 M2 M02 q2 A2 r2 => ?_
  obtain ⟨ks, rfl, q2⟩ := q2
  have A := A1.trans A2
  have e0 : M02 p = some (.dT []) := by rw [A.mr p nbp, upd_same]
  have e1 := A.rel.env.sub _ _ e0
  have e2 := A.rel.dj _ _ e1
  have r1' := r1.up A2.same
  simp only [Dr] at r1'
  obtain ⟨t, us, rfl, ht, ru⟩ := r1'
  rw [drL_kD ru] at ht
  refine ⟨hh_m e1, t, ks, rfl, A2.rel.dj.f ht, ?_⟩
  rw [hh_updM, ← upd_del]
  have mr' : MR b M0 (del M02 p) := fun a na => by
    by_cases e : a = p
    · subst e
      rw [del_same]
      cases z : M0 a with
      | none => rfl
      | some u => rw [R.env.sub _ _ z] at pm; cases pm
    · rw [del_ne e, A.mr a na, upd_ne e]
  refine k (.ot [ks] [d]) ρ2 p _ F2 (del M2 p) (del M02 p) q2 ⟨A.same, fun a o na qa => ?_, A.rel.unlay e0 nbp (R.lkM A.same mr'), mr'⟩ trivial ⟨[(ks, v)], rfl, rfl, .cons r2 .nil⟩ e2 del_same
  · have nap : a ≠ p := fun z => by rw [z, hp] at qa; cases qa
    have q1 : HH F (upd M p (.dT [])) a = some o := by rw [← hh_updM, upd_ne nap]; exact qa
    have q2 := A.ext a o na q1
    rcases hh_some q2 with z | ⟨z1, z2⟩
    · exact hh_m (by rw [del_ne nap]; exact z)
    · rw [hh_n (by rw [del_ne nap]; exact z1)]; exact z2⟩
end
end DL

/-! A call whose arguments are names, one of them an own list that is only read: it stays own. -/
namespace DL
open PySem PySem.Spec PyProof.Rows L2
variable [Lk]
def namesV (σ : L2.St) : List Nat → List V → Prop
  | [], vs => vs = []
  | j :: js, vs => ∃ v vr, vs = v :: vr ∧ σ[j]? = some (some v) ∧ namesV σ js vr
structure DNs (X : Cx) (es : List Expr) (t : TA) (js : List Nat) : Prop where
  pe : PA X es t
  sn : ∀ (σ : L2.St) (H : Hp) (Q : List V → Hp → Prop) (vs : List V), namesV σ js vs → Q vs H → t σ H Q
section
variable {X : Cx} {es : List Expr} {t : TA} {js : List Nat}
theorem dns_nil : DNs X [] tNil [] := ⟨pa_nil, fun σ H Q vs h q => by rw [show vs = [] from h] at q; exact q⟩
theorem dns_cons (j : Nat) {x : Str} {pos : Pos} (hr : DNs X es t js) (hN : X.N[j]? = some x := by rfl) (hv : Vis X.env.scope x := by first | exact Or.inl rfl | exact Or.inr (Or.inl rfl) | exact Or.inr (Or.inr rfl)) (hd : (x == ("__debug__" : Str)) = false := by decide)
    (hcd : (x == ("__classdict__" : Str)) = false := by decide) (hs : starEach (.Name x pos :: es) X.env = (false, eval (.Name x pos) X.env) :: starEach es X.env := by rfl) : DNs X (.Name x pos :: es) (tCons (tVar j) t) (j :: js) :=
  ⟨pa_cons (pe_var hN hv hd hcd) hr.pe hs, fun σ H Q vs h q => by
    obtain ⟨v, vr, rfl, e, h⟩ := h
    exact ⟨v, e, hr.sn σ H _ vr h q⟩⟩
end
/-- the shared data of some slots -/
def shs (ρ : List Sl) : List Nat → Option (List Sl)
  | [] => some []
  | j :: js => match ρ[j]?, shs ρ js with
    | some (.sh d), some r => some (.sh d :: r)
    | _, _ => none
theorem shs_v {c : Cy} {b : Option Addr} {ρ : List Sl} {σ : L2.St} {F M M0 : Hp} (R : Rel c b ρ σ F M M0) : ∀ {js : List Nat} {as : List Sl}, shs ρ js = some as → ∃ vs, namesV σ js vs ∧ ArgsD c none F as vs
  | [], as, h => by cases h; exact ⟨[], rfl, rfl⟩
  | j :: js, as, h => by
    unfold shs at h
    split at h
    · rename_i d r e1 e2
      cases h
      obtain ⟨vs, h1, h2⟩ := shs_v R e2
      obtain ⟨x, h3, h4⟩ := R.env.get e1
      exact ⟨x :: vs, ⟨x, vs, rfl, h3, h1⟩, ⟨x, vs, rfl, h4, h2⟩⟩
    · cases h
def scalD : D → Bool
  | .non => true
  | .bl _ => true
  | .int _ => true
  | .str _ => true
  | _ => false
theorem scal_any {c : Cy} {F G : Hp} {v : V} : ∀ {d : D}, scalD d = true → Dr c F v d → Dr c G v d
  | .non, _, h => by simpa only [Dr] using h
  | .bl _, _, h => by simpa only [Dr] using h
  | .int _, _, h => by simpa only [Dr] using h
  | .str _, _, h => by simpa only [Dr] using h
theorem Rel.freezeX {c : Cy} {b : Option Addr} {ρ : List Sl} {σ : L2.St} {F M M0 : Hp} {i : Nat} {sl : Sl} (R : Rel c b ρ σ F M M0) (e : ρ[i]? = some sl) (hs : isShal sl) :
    ∃ a o M', σ[i]? = some (some (.ref a)) ∧ ObR c F sl o ∧ F a = none ∧ M' a = none ∧ M = upd M' a o ∧ Rel c b (ρ.set i (.sh (obD sl))) σ (upd F a o) M' M0 := by
  obtain ⟨a, o, M', h1, h2, h3, h4, h5, h6, h7, h8⟩ := R.env.own e hs
  have sm : Same F (upd F a o) := Same.updF h3
  have dj : Dj (upd F a o) M' := Dj.updF (fun x u q => R.dj x u (by rw [h5, upd_ne (ne_of_none q h4)]; exact q)) h4
  have r : Dr c (upd F a o) (.ref a) (obD sl) := (h2.leD (.of sm)).dr upd_same
  have m0 : ∀ x u, M0 x = some u → F x = none → (upd F a o) x = none := fun x u q f => by rw [upd_ne (ne_of_none q h6)]; exact f
  have t1 := RelE.leD (LeD.of sm) m0 (M := M') (fun x u q f => by rw [upd_ne (ne_of_none q h4)]; exact f) (h7 (some (.ref a)))
  have hl : i < ρ.length := by
    rcases Nat.lt_or_ge i ρ.length with z | z
    · exact z
    · rw [List.getElem?_eq_none z] at e; cases e
  have t2 := RelE.setSh r t1 (List.getElem?_set_self hl) (fun z => z)
  rw [List.set_set, List.set_set] at t2
  have es : σ.set i (some (.ref a)) = σ := by
    obtain ⟨hi, ei⟩ := List.getElem?_eq_some_iff.mp h1
    rw [← ei]; exact List.set_getElem_self hi
  rw [es] at t2
  exact ⟨a, o, M', h1, h2, h3, h4, h5, dj, t2, fun x q => (R.box x q).leD (.of sm), R.lkS (sm)⟩
def wCallN (wf : WFn) (js : List Nat) (j : Nat) : WE := fun ρ Q => match ρ[j]? with
  | some (.ol ds) => match shs (ρ.set j (.sh (.lst ds))) js with
    | some as => wf as fun d => scalD d = true ∧ Q d ρ
    | none => False
  | _ => False
theorem xV {wf : WFn} {js : List Nat} {j : Nat} {ρ : List Sl} {Qd : D → List Sl → Prop} : wCallN wf js j ρ Qd = match ρ[j]? with
  | some (.ol ds) => match shs (ρ.set j (.sh (.lst ds))) js with
    | some as => wf as fun d => scalD d = true ∧ Qd d ρ
    | none => False
  | _ => False := rfl
theorem snd_callN {c : Cy} {E : XK} {wf : WFn} {t : TA} {js : List Nat} {j : Nat} (ht : ∀ (σ : L2.St) (H : Hp) (Q : List V → Hp → Prop) (vs : List V), namesV σ js vs → Q vs H → t σ H Q) : Snd c (tCall (spF c wf) [] E t) (wCallN wf js j) := fun {b ρ σ F M M0} R Qd Q hw k => by
  unfold wCallN at hw
  cases e1 : ρ[j]? with
  | none => rw [e1] at hw; exact hw.elim
  | some sl =>
    rw [e1] at hw
    cases sl with
    | ol ds =>
      simp only at hw
      cases e2 : shs (ρ.set j (.sh (.lst ds))) js with
      | none => rw [e2] at hw; exact hw.elim
      | some as =>
        rw [e2] at hw
        simp only at hw
        obtain ⟨a, o, M1, h1, h2, h3, h4, h5, R1⟩ := R.freezeX e1 trivial
        have R1 : Rel c b (ρ.set j (.sh (.lst ds))) σ (upd F a o) M1 M0 := R1
        have eH : HH F M = HH (upd F a o) M1 := by rw [h5, hh_freeze h4]
        obtain ⟨vs, n1, n2⟩ := shs_v R1 e2
        refine ht σ _ _ vs n1 ?_
        rw [List.append_nil, eH]
        refine ⟨none, upd F a o, M1, as, _, rfl, R1.dj, ⟨(fun x z => nomatch z), R1.env.nt⟩, n2, hw, fun d v F' M' q s dj bx mr r => ?_⟩
        have eM : M' = M1 := funext fun x => mr x (fun z => nomatch z)
        subst eM
        obtain ⟨hs, q⟩ := q
        have fa : F' a = some o := s _ _ upd_same
        have sF : Same F (del F' a) := fun x u e => by
          have ne : x ≠ a := fun z => by rw [z, h3] at e; cases e
          rw [del_ne ne]
          exact s x u (by rw [upd_ne ne]; exact e)
        have djF : Dj (del F' a) M := fun x u e => by
          by_cases z : x = a
          · rw [z]; exact del_same
          · rw [del_ne z]
            exact dj x u (by rw [h5, upd_ne z] at e; exact e)
        have eB : HH F' M' = HH (del F' a) M := by
          funext x
          by_cases z : x = a
          · rw [z, hh_n h4, fa, h5]; exact (hh_m upd_same).symm
          · cases y : M' x with
            | some u => rw [hh_m y, h5]; exact (hh_m (by rw [upd_ne z]; exact y)).symm
            | none => rw [hh_n y, h5, hh_n (by rw [upd_ne z]; exact y), del_ne z]
        rw [eB]
        exact k d ρ v (del F' a) M M0 q (R.grow sF djF) (scal_any hs r)
    | _ => exact hw.elim
section
variable {X : Cx} {CX : CXT} {k : Nat} {f : Addr} {fd : FuncData} {ps : List Str} {x : Str} {p pos : Pos} {e : Expr} {es : List Expr} {t : TA}
theorem de_callN (j : Nat) {wf : WFn} {js : List Nat} (G : FnOk X.prog X.w X.K X.mg X.base CX0 k f fd ps (spF (cy X) wf)) (hr : Room k X.A) (hg : Gl X x) (hm : X.mg x = some (.ref f)) (hk : PySem.W.keepIn X.K (.ref f) = true) (hb : Binds X.K fd ps [])
    (ha : DNs X (e :: es) t js) (hdb : (x == ("__debug__" : Str)) = false := by decide) (he : starEach (e :: es) X.env = (false, eval e X.env) :: starEach es X.env := by rfl) (hpl : (backTo pos (starEach es X.env)).any (·.1) = false := by rfl) :
    DE X (.Call (.Name x p) (e :: es) [] pos) (tCall (spF (cy X) wf) [] E0 t) (wCallN wf js j) := ⟨pe_call G hr hg hm hk hb .nil pass0 ha.pe hdb he hpl, snd_callN ha.sn⟩
end
end DL

/-! sorted of pairs (pair of ints, int). -/
namespace DL
open PySem PySem.Spec PyProof.Rows L2
variable [Lk]
abbrev T3 := (Int × Int) × Int
def lt3 (x y : T3) : Bool := decide (x.1.1 < y.1.1 ∨ (x.1.1 = y.1.1 ∧ (x.1.2 < y.1.2 ∨ (x.1.2 = y.1.2 ∧ x.2 < y.2))))
theorem lt3_no {x y : T3} : lt3 x y = false ↔ ¬ (x.1.1 < y.1.1 ∨ (x.1.1 = y.1.1 ∧ (x.1.2 < y.1.2 ∨ (x.1.2 = y.1.2 ∧ x.2 < y.2)))) := by
  unfold lt3
  rw [decide_eq_false_iff_not]
theorem lt3_yes {x y : T3} : lt3 x y = true ↔ (x.1.1 < y.1.1 ∨ (x.1.1 = y.1.1 ∧ (x.1.2 < y.1.2 ∨ (x.1.2 = y.1.2 ∧ x.2 < y.2)))) := by
  unfold lt3
  rw [decide_eq_true_iff]
theorem lt3_swo {α : Type} (k : α → T3) : SrtO.Swo fun x y => lt3 (k x) (k y) := by
  refine ⟨fun x y h => ?_, fun x y z h1 h2 => ?_⟩
  · have a := lt3_yes.mp h
    refine lt3_no.mpr ?_
    omega
  · have a := lt3_no.mp h1
    have b := lt3_no.mp h2
    refine lt3_no.mpr ?_
    omega
/-- v is ((i, j), n) -/
def IsP3 (h : Heap) (v : Value) (x : T3) : Prop := ∃ (a q : Addr) (o : Obj) (n : Nat) (t : Tok), v = .ref a ∧ h.get? a = some o ∧ o.cls = .type "tuple" ∧ o.data = .seq #[.ref q, .int x.2 t] n ∧ TS.TupInts h (.ref q) [x.1.1, x.1.2]
theorem IsP3.keeps {h h' : Heap} {v : Value} {x : T3} (p : IsP3 h v x) (k : ∀ b o, h.get? b = some o → o.cls = .type "tuple" → h'.get? b = some o) : IsP3 h' v x := by
  obtain ⟨a, q, o, n, t, e, ho, hc, hd, hi⟩ := p
  exact ⟨a, q, o, n, t, e, k _ _ ho hc, hc, hd, hi.keeps k⟩
theorem lex2 {i j i' j' : Int} : HT.lexLt [i, j] [i', j'] = decide (i < i' ∨ (i = i' ∧ j < j')) := by
  simp only [HT.lexLt]
  by_cases e : i = i'
  · subst e
    by_cases e2 : j = j'
    · subst e2; simp
    · simp [e2]
  · simp [e]
section
variable {prog : Program} {w : World} {A : Around} {E : Value → Shared → Prop} {s : Shared}
theorem p3_firsts {h : Heap} {k : Value → T3} : ∀ vs : List Value, (∀ v ∈ vs, IsP3 h v (k v)) → ∃ fs : List Value, PySem.W.KatTups h vs fs ∧ fs.length = vs.length ∧ ∀ f ∈ fs, ∃ (q : Addr) (o : Obj), f = Value.ref q ∧ h.get? q = some o ∧ o.cls = .type "tuple"
  | [], _ => ⟨[], PySem.W.KatTups.nil, rfl, fun f hf => by cases hf⟩
  | v :: vs, x => by
    obtain ⟨fs, kt, hl, hi⟩ := p3_firsts vs fun u hu => x u (List.mem_cons_of_mem _ hu)
    obtain ⟨a, q, o, n, t, rfl, ho, hc, hd, hq⟩ := x v List.mem_cons_self
    obtain ⟨q', xs, e, ⟨o2, ho2, hc2, _⟩, _⟩ := hq
    cases e
    refine ⟨.ref q :: fs, PySem.W.KatTups.cons ho hc hd rfl kt, by simp [hl], fun f hf => ?_⟩
    rcases List.mem_cons.mp hf with rfl | hf
    · exact ⟨q, o2, rfl, ho2, hc2⟩
    · exact hi f hf
theorem key2_of {h : Heap} {q : Addr} {i j : Int} (x : TS.TupInts h (.ref q) [i, j]) : IsTupleKey (L2.mixKind prog w) h [Sum.inl i, Sum.inl j] q := by
  obtain ⟨q', xs, e, ⟨o, ho, hc, n, hd⟩, hi⟩ := x
  cases e
  refine ⟨o, xs, n, ho, hc, hd, ?_⟩
  generalize xs.toList = ys at hi
  cases hi with
  | cons p t hi =>
    rename_i ys
    cases hi with
    | cons p2 t2 hi =>
      rename_i zs
      cases hi
      exact .cons (L2.mixKind_int prog w _ _) (.cons (L2.mixKind_int prog w _ _) .nil)
theorem p3_cmp {vs : List Value} {k : Value → T3} (hu : A.units < cLine) (hp : ∀ v ∈ vs, IsP3 s.heap v (k v)) : SrtO.Cmp prog w A s (tuples' false) (fun p => p.1 ∈ vs) (SrtO.lt2 fun v u => lt3 (k v) (k u)) := by
  intro p q hm hm'
  have h1 := hp _ hm
  have h2 := hp _ hm'
  show wpAny (model prog w) A (keyLt' (tuples' false) p.1 q.1) (fun r s' => s' = s ∧ r = lt3 (k p.1) (k q.1)) (fun _ _ => False) s
  generalize k p.1 = x at h1 ⊢
  generalize k q.1 = y at h2 ⊢
  obtain ⟨⟨i, j⟩, c⟩ := x
  obtain ⟨⟨i', j'⟩, c'⟩ := y
  obtain ⟨a, b, o, n, t, e, ho, hc, hd, hi⟩ := h1
  obtain ⟨a', b', o', n', t', e', ho', hc', hd', hi'⟩ := h2
  rw [e, e']
  refine PySem.W.kat_lt ho hd ho' hd' ?_
  show PySem.W.KatLex prog w A false (decide (2 < 2)) _ [(.ref b, .ref b'), (.int c t, .int c' t')] 0 s
  have k1 := key2_of (prog := prog) (w := w) hi
  have k2 := key2_of (prog := prog) (w := w) hi'
  refine PySem.W.kat_cons (wpAny_eqBool_tuple hu k1 k2 ?_)
  refine PySem.W.kat_go (fun e1 => ?_) (fun e1 => ?_)
  · have ee := of_decide_eq_true e1
    injection ee with ee1 ee2
    injection ee2 with ee2 _
    have ei : i = i' := Sum.inl.inj ee1
    have ej : j = j' := Sum.inl.inj ee2
    refine PySem.W.kat_yes (PySem.W.kat_cons (SeqAt.EqAt.int_int c t c' t' prog w _ _ ?_))
    refine PySem.W.kat_go (fun e2 => ?_) (fun e2 => ?_)
    · have ey : c = c' := by simpa using e2
      exact PySem.W.kat_yes (PySem.W.kat_nil ⟨rfl, (lt3_no.mpr (by show ¬ (i < i' ∨ (i = i' ∧ (j < j' ∨ (j = j' ∧ c < c')))); omega)).symm⟩)
    · refine PySem.W.kat_no (PySem.W.kat_one _ _ (PyProof.Rows.lt_int ?_))
      refine (show s = s ∧ decide (c < c') = lt3 ((i, j), c) ((i', j'), c') from ⟨rfl, ?_⟩)
      unfold lt3
      refine decide_eq_decide.mpr ?_
      show c < c' ↔ (i < i' ∨ (i = i' ∧ (j < j' ∨ (j = j' ∧ c < c'))))
      omega
  · have ne : ¬ (i = i' ∧ j = j') := fun z => (of_decide_eq_false e1) (by rw [z.1, z.2])
    obtain ⟨q1, xs, eq1, t1, i1⟩ := hi
    obtain ⟨q2, ys, eq2, t2, i2⟩ := hi'
    cases eq1
    cases eq2
    refine PySem.W.kat_no (PySem.W.kat_one _ _ (HT.lt_tupInts t1 t2 i1 i2 hu ?_))
    refine (show s = s ∧ HT.lexLt [i, j] [i', j'] = lt3 ((i, j), c) ((i', j'), c') from ⟨rfl, ?_⟩)
    rw [lex2]
    unfold lt3
    refine decide_eq_decide.mpr ?_
    show (i < i' ∨ (i = i' ∧ j < j')) ↔ (i < i' ∨ (i = i' ∧ (j < j' ∨ (j = j' ∧ c < c'))))
    omega
theorem p3_sortable {a : Addr} {vs : List Value} {k : Value → T3} (hu : A.units < cLine) (h0 : 0 < vs.length) (hp : ∀ v ∈ vs, IsP3 s.heap v (k v)) (ha : ∀ o, s.heap.get? a = some o → o.cls ≠ .type "tuple") : SrtO.SortableO prog w A s a vs fun v u => lt3 (k v) (k u) := fun h' keep => by
  have hp' : ∀ v ∈ vs, IsP3 h' v (k v) := fun v hm => (hp v hm).keeps fun b o e c => keep b o (fun z => ha o (z ▸ e) c) e
  obtain ⟨fs, h1, h2, h3⟩ := p3_firsts vs hp'
  refine ⟨tuples' false, fun Q E hq => ?_, p3_cmp hu hp'⟩
  refine PySem.W.kat_kind (T := .type "tuple") h1 (by omega) (fun f hm => ?_) (by rfl) ?_
  · obtain ⟨q, o, rfl, ho, hc⟩ := h3 f hm
    have z : PySem.W.Looks (model prog w) h' (typeOf (.ref q)) o.cls := (PySem.W.Looks.ld ho).andThen .now
    rw [hc] at z
    exact z
  · have e : (Value.type "tuple" != Value.type "tuple") = false := by first | rfl | decide | simp
    rw [e]
    exact hq
end
/-- sorted(xs), xs a list of ((i, j), n) -/
def rSortP3 (K : PySem.W.Frag) : List V → Hp → VK → Prop := fun vs H Q => ∃ (a : Addr) (xs : List V) (k : V → T3), vs = [V.ref a] ∧ SqL K H a xs ∧ (∀ x ∈ xs, ∃ t q, x = V.ref t ∧ H t = some (.tup [.ref q, .int (k x).2]) ∧ H q = some (.tup [.int (k x).1.1, .int (k x).1.2])) ∧
  ∀ ys p, ys.Pairwise (fun x y => lt3 (k y) (k x) = false) → ys.Perm xs → H p = none → Q (.ref p) (upd H p (.lst ys))
section
variable {X : Cx} {c : Cy}
theorem cr_sortedP3 (hu : X.A.units + 65 < cLine) : CallR X (.builtin "sorted") (rSortP3 X.K) := by
  intro pins s σ H vs us Q I r h
  obtain ⟨a, xs, k, rfl, hs, hx, q⟩ := h
  obtain ⟨its, rv, hl, hz⟩ := I.list hs
  obtain ⟨u, rfl, ru⟩ := vals1 r
  obtain rfl : u = Value.ref a := ru
  obtain ⟨e1, e2⟩ := refs_back rv fun x m => by
    obtain ⟨t, _, e, _⟩ := hx x m
    exact ⟨t, e⟩
  have hp : ∀ v ∈ its, IsP3 s.heap v (k (backV v)) := fun v hv => by
    obtain ⟨t, rfl⟩ := e2 v hv
    have hm : V.ref t ∈ xs := by rw [e1]; exact List.mem_map.mpr ⟨_, hv, rfl⟩
    obtain ⟨t', b, e, ht, hb⟩ := hx _ hm
    cases e
    obtain ⟨_, its2, r2, o, ho, hc, n, hd⟩ := I.hok _ _ ht
    obtain ⟨u1, u2, rfl, ri, rj⟩ := vals2 r2
    obtain rfl : u1 = Value.ref b := ri
    obtain ⟨t2, rfl⟩ := rj
    refine ⟨t, b, o, n, t2, rfl, ho, hc, hd, ?_⟩
    exact tupI_raw I (SqT.of hb)
  refine SrtO.sorted_ord (lt3_swo fun v => k (backV v)) hl.isList (by rw [← rv.length]; exact hz) (fun h2 h₁ a ha kk => ?_) fun out hs hb => ?_
  · refine p3_sortable (s := { s with heap := h₁ }) (by show X.A.units + 1 + 1 < _; omega) (by omega) (fun v hm => (hp v hm).keeps fun b o e _ => (kk b o e).2) fun o e => ?_
    have e' := e.symm.trans ha
    cases e'
    intro z
    exact absurd (Value.type.inj z) (by decide)
  · have h3 : ∀ u ∈ out, ∃ a, u = Value.ref a := fun u hu => e2 u (hb.perm.mem_iff.mp hu)
    have hpm : (out.map backV).Perm xs := by rw [e1]; exact hb.perm.map backV
    obtain ⟨n, hn⟩ := PyProof.Rows.sortedAll_at s.heap its out.toArray
    refine ⟨.ref (s.heap.objs.size + 1), upd H (s.heap.objs.size + 1) (.lst (out.map backV)), I.laid (t' := s.toks) (fun _ _ => PyProof.Rows.sortedAll_old) (Nat.le_succ _) ⟨?_, out, n, vals_back h3, hn⟩, rfl, q _ _ (List.pairwise_map.mpr hs) hpm (I.hok.fresh (Nat.le_succ _))⟩
    rw [hpm.length_eq]
    exact hz
/-! ### as data -/
def t3D (e : T3) : D := .tup [.tup [.int e.1.1, .int e.1.2], .int e.2]
def dSortP : D → (D → Prop) → Prop
  | .lst ds, Q => ∃ es : List T3, ds = es.map t3D ∧ ∀ es' : List T3, es'.Perm es → es'.Pairwise (fun x y => lt3 y x = false) → Q (.lst (es'.map t3D))
  | _, _ => False
def kOf (H : Hp) : V → T3
  | .ref t => match H t with
    | some (.tup [.ref q, .int n]) => match H q with
      | some (.tup [.int i, .int j]) => ((i, j), n)
      | _ => default
    | _ => default
  | _ => default
theorem t3_dr {F M : Hp} (dj : Dj F M) {v : V} {e : T3} (h : Dr c F v (t3D e)) : kOf (HH F M) v = e ∧ ∃ t q, v = V.ref t ∧ HH F M t = some (.tup [.ref q, .int e.2]) ∧ HH F M q = some (.tup [.int e.1.1, .int e.1.2]) := by
  simp only [t3D, Dr] at h
  obtain ⟨t, us, rfl, ht, r⟩ := h
  obtain ⟨u1, us, rfl, r1, r⟩ := r.cons_iff
  obtain ⟨u2, us, rfl, r2, r⟩ := r.cons_iff
  have := r.nil_iff; subst this
  simp only [Dr] at r1 r2
  subst r2
  obtain ⟨q, ws, rfl, hq, r⟩ := r1
  obtain ⟨w1, ws, rfl, s1, r⟩ := r.cons_iff
  obtain ⟨w2, ws, rfl, s2, r⟩ := r.cons_iff
  have := r.nil_iff; subst this
  simp only [Dr] at s1 s2
  subst s1 s2
  have h1 := dj.f ht
  have h2 := dj.f hq
  exact ⟨by simp only [kOf, h1, h2], t, q, rfl, h1, h2⟩
theorem drL_map {F : Hp} {α : Type} {g : α → D} {k : V → α} : ∀ {ys : List V}, (∀ y ∈ ys, Dr c F y (g (k y))) → DrL c F ys ((ys.map k).map g)
  | [], _ => .nil
  | y :: ys, h => .cons (h y List.mem_cons_self) (drL_map fun z hz => h z (List.mem_cons_of_mem _ hz))
theorem drL_each {F : Hp} {α : Type} {g : α → D} {k : V → α} (hk : ∀ v e, Dr c F v (g e) → k v = e) : ∀ {es : List α} {vs : List V}, DrL c F vs (es.map g) → es = vs.map k ∧ ∀ v ∈ vs, Dr c F v (g (k v))
  | [], vs, h => by rw [h.nil_iff]; exact ⟨rfl, fun v hv => by cases hv⟩
  | e :: es, vs, h => by
    obtain ⟨v, vr, rfl, q, t⟩ := h.cons_iff
    obtain ⟨h1, h2⟩ := drL_each hk t
    have hv := hk v e q
    refine ⟨by rw [List.map_cons, hv, ← h1], fun u hu => ?_⟩
    rcases List.mem_cons.mp hu with rfl | hu
    · rw [hv]; exact q
    · exact h2 u hu
theorem ro1_sortP : Ro1 (cy X) (fun x H Q => rSortP3 X.K [x] H Q) dSortP := fun {b F M x d1} Qd Q dj r1 hw k => by
  cases d1 with
  | lst ds =>
    obtain ⟨es, rfl, q⟩ := hw
    obtain ⟨a, vs, rfl, _, h, r⟩ := r1.lst_of
    obtain ⟨e1, e2⟩ := drL_each (k := kOf (HH F M)) (fun v e h => (t3_dr dj h).1) r
    refine ⟨a, vs, kOf (HH F M), rfl, SqL.of h, fun v hv => (t3_dr dj (e2 v hv)).2, fun ys p hs hpm hn => ?_⟩
    refine new_lst (c := cy X) dj (drL_map (k := kOf (HH F M)) (g := t3D) fun y hy => e2 y (hpm.mem_iff.mp hy)) hn (q _ ?_ ?_) k
    · rw [e1]; exact hpm.map _
    · exact List.pairwise_map.mpr hs
  | _ => exact hw.elim
end
/-! ### xs * k -/
def dRep : D → D → (D → Prop) → Prop
  | .lst ds, .int k, Q => (-(2 ^ 63) ≤ k ∧ k < 2 ^ 63) ∧ ds.length * k.toNat ≤ sizeLine ∧ Q (.lst (List.replicate k.toNat ds).flatten)
  | _, _, _ => False
theorem drL_rep {c : Cy} {F : Hp} {vs : List V} {ds : List D} (h : DrL c F vs ds) : ∀ n : Nat, DrL c F (List.replicate n vs).flatten (List.replicate n ds).flatten
  | 0 => .nil
  | n + 1 => by
    rw [List.replicate_succ, List.replicate_succ, List.flatten_cons, List.flatten_cons]
    exact h.append (drL_rep h n)
theorem rop_rep {c : Cy} : Rop c rRep dRep := fun {b F M x y d1 d2} Qd Q dj r1 r2 hw k => by
  cases d1 with
  | lst ds =>
    cases d2 with
    | int j =>
      obtain ⟨a, vs, rfl, _, h, r⟩ := r1.lst_of
      obtain ⟨⟨j1, j2⟩, hz, q⟩ := hw
      exact ⟨a, j, vs, rfl, r2.int_of, h, j1, j2, by rw [r.length]; exact hz, fun p hp => new_lst dj (drL_rep r _) hp q fun d v F' a b c' e => k d v F' a b c' (fun x f m => by
        obtain ⟨o, ho⟩ := Option.isSome_iff_exists.mp m
        exact c' x o ho) e⟩
    | _ => exact hw.elim
  | _ => exact hw.elim
/-- one sorted list -/
theorem t3_uniq {es fs : List T3} (h : es.Perm fs) (h1 : es.Pairwise (fun x y => lt3 y x = false)) (h2 : fs.Pairwise (fun x y => lt3 y x = false)) : es = fs :=
  h.eq_of_pairwise (fun a b _ _ x y => by
    have x := lt3_no.mp x
    have y := lt3_no.mp y
    obtain ⟨⟨i, j⟩, c⟩ := a
    obtain ⟨⟨i', j'⟩, c'⟩ := b
    simp only at x y
    have : i = i' := by omega
    have : j = j' := by omega
    have : c = c' := by omega
    simp_all) h1 h2
end DL

/-! Defs that return a list of their own; name += list. -/
namespace DL
open PySem PySem.Spec PyProof.Rows L2
variable [Lk]
section
variable {X : Cx} {pos : Pos} {e : Expr} {te : TE} {w : WE}
/-! ### name += xs, an own list -/
def wAugL (i : Nat) (w : WE) : WS := fun ρ E => (∃ ds, ρ[i]? = some (.ol ds)) ∧ w ρ fun d ρ1 => match d with
  | .lst es => ∃ ds, ρ1[i]? = some (.ol ds) ∧ ds.length + es.length ≤ sizeLine ∧ E.nx (ρ1.set i (.ol (ds ++ es)))
  | _ => False
theorem xR {i : Nat} {ρ : List Sl} {E : EnD} : wAugL i w ρ E = ((∃ ds, ρ[i]? = some (.ol ds)) ∧ w ρ fun d ρ1 => match d with
  | .lst es => ∃ ds, ρ1[i]? = some (.ol ds) ∧ ds.length + es.length ≤ sizeLine ∧ E.nx (ρ1.set i (.ol (ds ++ es)))
  | _ => False) := rfl
theorem ip_ext : PIp X .Add rExt2 := fun pins s σ H x y v u Q I r1 r2 h => iop_ext pins s σ H x y v u Q I r1 r2 h
theorem ds_augL {i : Nat} {x : Str} {pos' : Pos} (hN : X.N.Nodup) (hi : X.N[i]? = some x) (hx : Loc X.env.scope x) (he : DE X e te w) (hf : X.fn x = true ∨ X.env.scope.names.lookup x = some .local := by first | exact .inl rfl | exact .inr rfl | assumption) :
    DS X (.AugAssign (.Name x pos') .Add e pos) (tAug i te rExt2) (wAugL i w) := ⟨ps_aug hN hi hx he.pe ip_ext hf, fun {b ρ σ F M M0} R E Dn hw f => by
  obtain ⟨⟨ds0, e0⟩, hw⟩ := hw
  obtain ⟨a, vs0, h1, h2, h3, h4, h5⟩ := R.ownL e0
  refine ⟨.ref a, h1, ?_⟩
  refine he.sn R _ _ hw fun d ρ1 v F1 M1 M01 q A r => ?_
  cases d with
  | lst es =>
    obtain ⟨ds, e1, hz, q⟩ := q
    obtain ⟨vs, g1, g2, g3, g4⟩ := Rel.fixed A h1 A.rel e1
    simp only [Dr] at r
    obtain ⟨c, us, rfl, hc, ru⟩ := r
    refine ⟨a, c, vs, us, rfl, rfl, g3, A.rel.dj.f hc, by rw [g1.length, ru.length]; exact hz, ?_⟩
    rw [hh_updM]
    have R2 := g4 (ds ++ es) (vs ++ us) (g1.append ru)
    have es2 : σ.set i (some (.ref a)) = σ := by
      obtain ⟨hl, el⟩ := List.getElem?_eq_some_iff.mp h1
      rw [← el]; exact List.set_getElem_self hl
    show Dn.nx (σ.set i (some (.ref a))) _
    rw [es2]
    exact f.nx _ _ F1 _ M01 q A.same R2 A.mr
  | _ => exact q.elim⟩
end
/-! ### a def that returns a list of its own -/
abbrev WFl := List Sl → (Sl → Prop) → Prop
def spL (c : Cy) (wf : WFl) : Sp := fun vs H Q _ => ∃ (b : Option Addr) (F M : Hp) (as : List Sl) (Qd : Sl → Prop), H = HH F M ∧ Dj F M ∧ ((∀ a, b = some a → Box F M a) ∧ NT M) ∧ ArgsD c b F as vs ∧ wf as Qd ∧
  ∀ sl u p F' M', Qd sl → Same F F' → Dj F' M' → (∀ a, b = some a → Box F' M' a) → MR b M M' → F' p = none → M' p = none → isShal sl → ObR c F' sl u → Q (.ref p) (HH F' (upd M' p u))
structure FinL (c : Cy) (b : Option Addr) (F M0 : Hp) (Qd : Sl → Prop) (Dn : Ends) : Prop where
  rt : ∀ sl u p F' M', Qd sl → Same F F' → Dj F' M' → (∀ a, b = some a → Box F' M' a) → MR b M0 M' → F' p = none → M' p = none → isShal sl → ObR c F' sl u → Dn.rt (.ref p) (HH F' (upd M' p u))
abbrev WSl := List Sl → (Sl → Prop) → Prop
def SnsL (c : Cy) (ts : TS) (w : WSl) : Prop := ∀ {b : Option Addr} {ρ : List Sl} {σ : L2.St} {F M M0 : Hp}, Rel c b ρ σ F M M0 → ∀ (Qd : Sl → Prop) (Dn : Ends), w ρ Qd → FinL c b F M0 Qd Dn → ts Dn σ (HH F M)
structure DSsL (X : Cx) (s : List Stmt) (ts : TS) (w : WSl) : Prop where
  ps : PSs X s ts
  sn : SnsL (cy X) ts w
theorem FinL.on {c : Cy} {b : Option Addr} {F M0 F1 M01 : Hp} {Qd : Sl → Prop} {Dn : Ends} (f : FinL c b F M0 Qd Dn) (s : Same F F1) (m : MR b M0 M01) : FinL c b F1 M01 Qd Dn :=
  ⟨fun sl u p F' M' q s' dj bx m' => f.rt sl u p F' M' q (s.trans s') dj bx (m.trans m')⟩
section
variable {X : Cx} {st : Stmt} {rest : List Stmt} {t u : TS} {wt : WS} {wu : WSl} {pos : Pos}
def wSeqL (w1 : WS) (w2 : WSl) : WSl := fun ρ Qd => w1 ρ { nx := fun ρ' => w2 ρ' Qd, rt := fun _ _ => False }
theorem dssL_cons (h1 : DS X st t wt) (h2 : DSsL X rest u wu) : DSsL X (st :: rest) (tSeq t u) (wSeqL wt wu) := ⟨pss_cons h1.ps h2.ps, fun {b ρ σ F M M0} R Qd Dn hw f =>
  h1.sn R _ { Dn with nx := u Dn } hw ⟨fun ρ' σ' F' M' M0' e s r m => h2.sn r Qd Dn e (f.on s m), fun _ _ _ _ _ z => z.elim, fun _ _ _ _ _ z => z.elim, fun _ _ _ _ _ _ _ z => z.elim⟩⟩
def wRetL (i : Nat) : WSl := fun ρ Qd => ∃ sl, ρ[i]? = some sl ∧ isShal sl ∧ Qd sl
theorem dssL_ret (i : Nat) {x : Str} {p : Pos} (hN : X.N[i]? = some x := by rfl) (hv : Vis X.env.scope x := by first | exact Or.inl rfl | exact Or.inr (Or.inl rfl) | exact Or.inr (Or.inr rfl)) (hd : (x == ("__debug__" : Str)) = false := by decide)
    (hcd : (x == ("__classdict__" : Str)) = false := by decide) : DSsL X [.Return (some (.Name x p)) pos] (tRet (tVar i)) (wRetL i) := ⟨pss_one (ps_ret (pe_var hN hv hd hcd)), fun {b ρ σ F M M0} R Qd Dn hw f => by
  obtain ⟨sl, e, hs, q⟩ := hw
  obtain ⟨a, o, M', h1, h2, h3, h4, h5, h6, h7, h8⟩ := R.env.own e hs
  refine ⟨.ref a, h1, ?_⟩
  have dj' : Dj F M' := fun x z y => R.dj x z (by rw [h5, upd_ne (fun k => by rw [k, h4] at y; cases y)]; exact y)
  obtain ⟨F2, s2, eh, dj2⟩ := (h7 none).frzAll dj'
  have n2 : F2 a = none ∧ M0 a = none := hh_none (by rw [← eh, hh_n h4]; exact h3)
  have eM : HH F M = HH F2 (upd M0 a o) := by rw [h5, ← hh_updM, eh, hh_updM]
  rw [eM]
  exact f.rt sl o a F2 M0 q s2 dj2 (fun x z => (R.box x z).leD (.of s2)) (MR.refl _ _) n2.1 n2.2 hs (h2.leD (.of s2))⟩
/-- a call of such a def: a new own list -/
def wfCallL (wf : WFl) (wa : WAs) : List Sl → (Sl → List Sl → Prop) → Prop := fun ρ Q => wa ρ fun as ρ1 => wf as fun sl => Q sl ρ1
theorem xS {wf : WFl} {wa : WAs} {ρ : List Sl} {Q : Sl → List Sl → Prop} : wfCallL wf wa ρ Q = wa ρ fun as ρ1 => wf as fun sl => Q sl ρ1 := rfl
variable {f : Addr} {fd : FuncData} {ps : List Str} {x : Str} {p : Pos} {k : Nat} {e : Expr} {es : List Expr} {ta : TA} {wa : WAs}
theorem df_callL {wf : WFl} (G : FnOk X.prog X.w X.K X.mg X.base CX0 k f fd ps (spL (cy X) wf)) (hr : Room k X.A) (hg : Gl X x) (hm : X.mg x = some (.ref f)) (hk : PySem.W.keepIn X.K (.ref f) = true) (hb : Binds X.K fd ps [])
    (ha : DAs X (e :: es) ta wa) (hdb : (x == ("__debug__" : Str)) = false := by decide) (he : starEach (e :: es) X.env = (false, eval e X.env) :: starEach es X.env := by rfl) (hpl : (backTo pos (starEach es X.env)).any (·.1) = false := by rfl) :
    DF X (.Call (.Name x p) (e :: es) [] pos) (tCall (spL (cy X) wf) [] E0 ta) (wfCallL wf wa) := ⟨pe_call G hr hg hm hk hb .nil pass0 ha.pe hdb he hpl, fun {b ρ σ F M M0} R Qd Q hw kk => by
  refine ha.sn R _ _ hw fun as ρ1 vs F1 M1 M01 q1 A1 r1 => ?_
  rw [List.append_nil]
  refine ⟨b, F1, M1, as, _, rfl, A1.rel.dj, ⟨fun a z => ?_, A1.rel.env.nt⟩, r1, q1, fun sl u a F' M' q s dj bx mr n1 n2 hs r => ?_⟩
  · obtain ⟨da, ns, n, h1, h2, h3⟩ := A1.rel.box a z
    exact ⟨da, ns, n, A1.rel.env.sub _ _ h1, h2, h3⟩
  · obtain ⟨M0', A2⟩ := A1.rel.after s dj bx mr
    exact kk sl ρ1 a u F' M' M0' q (A1.trans A2) hs r n1 n2⟩
end
section
variable {P : Program} {w : World} {K : PySem.W.Frag} {mg : Str → Option Value} {base : Heap}
theorem fun_okL {x qual : Str} {st : Stmt} {f : Addr} {fd : FuncData} {N ps : List Str} {k : Nat} {wf : WFl} (F : Fun K x qual st f fd) (S : FnScope N ps (defScope st)) (len : ∀ as Qd, wf as Qd → as.length = ps.length)
    (hbody : ∀ (cdv : Value) (A : Around) (outer : List Env) (s : Shared) (H : Hp) (E : XK), Room k (A.deeper (envOfC qual (defScope st) s.heap.objs.size f cdv)) →
      letI := Lk.top
      ∃ t ws, DSsL (cxOf CX0 P w K mg base N qual (defScope st) f cdv A outer s H E).nox (defBody st) t ws ∧ ∀ as Qd, wf as Qd → ws (startD N as) Qd) :
    FnOk P w K mg base CX0 (k + 1) f fd ps (spL ⟨K, mg⟩ wf) := by
  refine F.ok S (fun vs H Q E h => ?_) (fun cdv A outer s H vs Q E hr h => ?_)
  · obtain ⟨b, F, M, as, Qd, _, _, _, ar, hw, _⟩ := h
    rw [ar.length, len as Qd hw]
  · obtain ⟨b, F, M, as, Qd, rfl, dj, bx, ar, hw, hq⟩ := h
    letI := Lk.top
    obtain ⟨t, ws, hd, hp⟩ := hbody cdv A outer s (HH F M) E hr
    refine ⟨t, hd.ps, ?_⟩
    have R : Rel ⟨K, mg⟩ b (startD N as) (L2.start N vs) F M M := by
      refine ⟨dj, ?_, bx.1, trivial⟩
      unfold startD L2.start
      rw [ar.length]
      exact ar.rel bx.2
    exact hd.sn R Qd _ (hp as Qd hw) ⟨fun sl u p F' M' q s dj bx m n1 n2 hs r => hq sl u p F' M' q s dj bx m n1 n2 hs r⟩
end
/-! ### range(a, b, c) -/
theorem itc_ok {c : Cy} {F : Hp} (lo s : Int) (n : Nat) : ItOk c (Itc lo s n) F ((List.range n).map fun i : Nat => D.int (lo + (i : Int) * s)) := fun F' M' s' dj _ i => by
  refine ⟨fun d hd => ?_, fun e => ?_⟩
  · rw [List.getElem?_map] at hd
    have hi : i < n := by
      rcases Nat.lt_or_ge i n with z | z
      · exact z
      · rw [List.getElem?_eq_none (by simpa using z)] at hd; cases hd
    rw [List.getElem?_range hi] at hd
    have e := Option.some.inj hd
    subst e
    refine ⟨hi, fun x H3 hy => ?_⟩
    obtain ⟨rfl, rfl⟩ := hy
    exact ⟨F', rfl, Same.refl _, dj, by simp only [Dr]⟩
  · simp at e
    show n ≤ i
    omega
def wRg3 (wt : WA) : WA := fun ρ Q => wt ρ fun ds ρ1 => match ds with
  | [.int i, .int j, .int c] => ∃ n : Nat, RgC i j c n ∧ Q ((List.range n).map fun t : Nat => D.int (i + (t : Int) * c)) ρ1
  | _ => False
theorem xN {wt : WA} {ρ : List Sl} {Q : List D → List Sl → Prop} : wRg3 wt ρ Q = wt ρ fun ds ρ1 => match ds with
  | [.int i, .int j, .int c] => ∃ n : Nat, RgC i j c n ∧ Q ((List.range n).map fun t : Nat => D.int (i + (t : Int) * c)) ρ1
  | _ => False := rfl
section
variable {X : Cx} {tg : Expr}
theorem di_range3 {a a' a2 : Expr} {ta : TA} {wt : WA} {p pos : Pos} (hg : Gl X "range") (hm : X.mg "range" = none) (ha : DA X [a, a', a2] ta wt)
    (hs : starEach [a, a', a2] X.env = (false, eval a X.env) :: starEach [a', a2] X.env := by rfl) (hpl : (backTo pos (starEach [a', a2] X.env)).any (·.1) = false := by rfl) :
    DI X tg (.Call (.Name "range" p) [a, a', a2] [] pos) (iRng3 ta) (wRg3 wt) :=
  ⟨pi_range3 hg hm ha.pe hs hpl, fun {b ρ σ F M M0} R Qd Q hw k => by
    refine ha.sn R _ _ hw fun ds ρ1 vs F1 M1 M01 q A r => ?_
    match ds, q, r with
    | [.int i, .int j, .int s], ⟨n, q0, q⟩, r =>
      obtain ⟨v, vr, rfl, r1, r2⟩ := r.cons_iff
      obtain ⟨v', vr', rfl, r1', r2'⟩ := r2.cons_iff
      obtain ⟨v2, vr2, rfl, r12, r22⟩ := r2'.cons_iff
      simp only [Dr] at r1 r1' r12
      have e2 := r22.nil_iff
      subst r1 r1' r12 e2
      exact ⟨i, j, s, n, rfl, q0, k _ ρ1 _ F1 M1 M01 q A (itc_ok (c := cy X) (F := F1) i s n)⟩⟩
end
theorem xT {w1 : WS} {w2 : WSl} {ρ : List Sl} {Qd : Sl → Prop} : wSeqL w1 w2 ρ Qd = w1 ρ { nx := fun ρ' => w2 ρ' Qd, rt := fun _ _ => False } := rfl
theorem xU {i : Nat} {ρ : List Sl} {Qd : Sl → Prop} : wRetL i ρ Qd = ∃ sl, ρ[i]? = some sl ∧ isShal sl ∧ Qd sl := rfl
end DL

/-! Walks over a new dict; tuple(list); xs[::-1]; sorted pairs. -/
namespace DL
open PySem PySem.Spec PyProof.Rows L2
variable [Lk]
/-- what is got is a thing that may change: from now on it is locked -/
def tFrz (te : TE) : TE := fun σ H Q => te σ H fun v H' => ∃ d u, H' d = some u ∧ Mut (some u) ∧ ∀ od, Q v (upd H' d (.frz od u))
theorem pe_frz {X : Cx} {e : Expr} {te : TE} (h : PE X e te) : PE X e (tFrz te) := ⟨fun pins s σ H Q I hw => by
  refine thn (h.run pins s σ H _ I hw) fun v s1 ⟨x, H1, I1, r, d, u, hd, mu, q⟩ => ?_
  obtain ⟨od, I2⟩ := I1.lock hd mu
  exact ⟨x, _, I2, r, q od⟩⟩
def wKeysO (wf : List Sl → (Sl → List Sl → Prop) → Prop) : WA := fun ρ Q => wf ρ fun sl ρ1 => match sl with
  | .ok ks _ => Q (ks.map kD) ρ1
  | .ot ks _ => Q (ks.map fun k => .tup (k.map kD)) ρ1
  | _ => False
theorem xO {wf : List Sl → (Sl → List Sl → Prop) → Prop} {ρ : List Sl} {Q : List D → List Sl → Prop} : wKeysO wf ρ Q = wf ρ fun sl ρ1 => match sl with
  | .ok ks _ => Q (ks.map kD) ρ1
  | .ot ks _ => Q (ks.map fun k => .tup (k.map kD)) ρ1
  | _ => False := rfl
section
variable {X : Cx} {e tg : Expr} {te : TE} {wf : List Sl → (Sl → List Sl → Prop) → Prop} {pos : Pos}
theorem di_keysO (h : DF X e te wf) : DI X tg e (iKeys (tFrz te)) (wKeysO wf) := ⟨pi_keys (pe_frz h.pe), fun {b ρ σ F M M0} R Qd Q hw k => by
  refine h.sn R _ _ hw fun sl ρ1 a u F1 M1 M01 q A hs r n1 n2 => ?_
  have hn : HH F1 M1 a = none := by rw [hh_n n2]; exact n1
  have go : ∀ od : Obj, Aft (cy X) b F M M0 ρ1 σ (upd F1 a (.frz od u)) M1 M01 := fun od => by
    have s1 : Same F1 (upd F1 a (.frz od u)) := Same.updF n1
    exact A.trans (A.rel.grow s1 (A.rel.dj.updF n2))
  have eh : ∀ od : Obj, upd (HH F1 (upd M1 a u)) a (.frz od u) = HH (upd F1 a (.frz od u)) M1 := fun od => by
    rw [← hh_updM, upd_upd, hh_updF n2]
  cases sl with
  | ok ks ds =>
    obtain ⟨ps, rfl, e, rd⟩ := r
    refine ⟨a, .dK ps, hh_m upd_same, trivial, fun od => ?_⟩
    rw [eh od]
    refine ⟨a, od, rfl, .inl ⟨ps, (go od).rel.dj.f upd_same, ?_⟩⟩
    have q' : Qd ((ps.map (·.1)).map kD) ρ1 := by rw [e]; exact q
    exact k _ ρ1 _ _ M1 M01 q' (go od) (itk_ok (c := cy X) upd_same)
  | ot ks ds =>
    obtain ⟨ps, rfl, e, rd⟩ := r
    refine ⟨a, .dT ps, hh_m upd_same, trivial, fun od => ?_⟩
    rw [eh od]
    refine ⟨a, od, rfl, .inr ⟨ps, (go od).rel.dj.f upd_same, ?_⟩⟩
    have q' : Qd ((ps.map (·.1)).map fun k => .tup (k.map kD)) ρ1 := by rw [e]; exact q
    exact k _ ρ1 _ _ M1 M01 q' (go od) (itkt_ok (c := cy X) upd_same)
  | _ => exact q.elim⟩
/-! ### tuple(xs) -/
def xP : D → (D → Prop) → Prop
  | .lst ds, Q => Q (.tup ds)
  | .tup ds, Q => Q (.tup ds)
  | _, _ => False
theorem ro1_tuple : Ro1 (cy X) (fun x H Q => ∃ p ys, [x] = [V.ref p] ∧ ((SqL X.K H p ys ∧ ∀ l, H l = none → Q (.ref l) (upd H l (.tup ys))) ∨ (SqT X.K H p ys ∧ Q (.ref p) H))) xP := fun {b F M x d1} Qd Q dj r1 hw k => by
  cases d1 with
  | lst ds =>
    obtain ⟨a, vs, rfl, _, h, r⟩ := r1.lst_of
    exact ⟨a, vs, rfl, .inl ⟨SqL.of h, fun l hl => new_tup dj r hl hw k⟩⟩
  | tup ds =>
    obtain ⟨a, vs, rfl, h, r⟩ := r1.tup_of
    refine ⟨a, vs, rfl, .inr ⟨SqT.of (dj.f h), k _ _ F hw (Same.refl _) dj ?_⟩⟩
    simp only [Dr]
    exact ⟨a, vs, rfl, h, r⟩
  | _ => exact hw.elim
/-! ### xs[::-1] -/
def xQ : D → (D → Prop) → Prop
  | .lst ds, Q => Q (.lst ds.reverse)
  | _, _ => False
theorem drL_rev {c : Cy} {F : Hp} : ∀ {ds : List D} {vs : List V}, DrL c F vs ds → DrL c F vs.reverse ds.reverse
  | [], vs, h => by rw [h.nil_iff]; exact .nil
  | d :: ds, vs, h => by
    obtain ⟨v, vr, rfl, q, t⟩ := h.cons_iff
    rw [List.reverse_cons, List.reverse_cons]
    exact (drL_rev t).append (.cons q .nil)
variable {w : WE}
theorem de_rev {k : Nat} {p1 p2 p3 : Pos} (h : DP X e te w) : DE X (.Subscript e (.Slice none none (some (.UnaryOp .USub (.Constant (.int 1) k p1) p2)) p3) pos) (tRevL X.K te) (wUn xQ w) := ⟨pe_revL h.pe, fun {b ρ σ F M M0} R Qd Q hw kk => by
  refine h.sn R _ _ hw fun d ρ1 v F1 M1 M01 q A r => ?_
  cases d with
  | lst ds =>
    obtain ⟨a, vs, rfl, _, hh, rr⟩ := r.lst_of
    refine ⟨a, vs, rfl, SqL.of hh, fun p hp => ?_⟩
    refine new_lst (Qd := fun d => Qd d ρ1) A.rel.dj (drL_rev rr) hp q fun d v F' q' s dj r' => ?_
    exact kk d ρ1 v F' M1 M01 q' (A.trans (A.rel.grow s dj)) r'
  | _ => exact q.elim⟩
/-! ### sorted pairs of ints -/
def lt2P (x y : Int × Int) : Bool := decide (x.1 < y.1 ∨ (x.1 = y.1 ∧ x.2 < y.2))
def p2D (p : Int × Int) : D := .tup [.int p.1, .int p.2]
def dSort2 : D → (D → Prop) → Prop
  | .lst ds, Q => ∃ es : List (Int × Int), ds = es.map p2D ∧ ∀ es' : List (Int × Int), es'.Perm es → es'.Pairwise (fun x y => lt2P y x = false) → Q (.lst (es'.map p2D))
  | _, _ => False
def kOf2 (H : Hp) : V → Int × Int
  | .ref t => match H t with
    | some (.tup [.int i, .int j]) => (i, j)
    | _ => default
  | _ => default
theorem p2_dr {c : Cy} {F M : Hp} (dj : Dj F M) {v : V} {e : Int × Int} (h : Dr c F v (p2D e)) : kOf2 (HH F M) v = e ∧ ∃ t, v = V.ref t ∧ HH F M t = some (.tup [.int e.1, .int e.2]) := by
  simp only [p2D, Dr] at h
  obtain ⟨t, us, rfl, ht, r⟩ := h
  obtain ⟨u1, us, rfl, r1, r⟩ := r.cons_iff
  obtain ⟨u2, us, rfl, r2, r⟩ := r.cons_iff
  have := r.nil_iff; subst this
  simp only [Dr] at r1 r2
  subst r1 r2
  have h1 := dj.f ht
  exact ⟨by simp only [kOf2, h1], t, rfl, h1⟩
theorem lt2P_no {x y : Int × Int} : lt2P x y = false ↔ ¬ (x.1 < y.1 ∨ (x.1 = y.1 ∧ x.2 < y.2)) := by unfold lt2P; rw [decide_eq_false_iff_not]
theorem ro1_sort2 : Ro1 (cy X) (fun x H Q => rSortedPO X.K [x] H Q) dSort2 := fun {b F M x d1} Qd Q dj r1 hw k => by
  cases d1 with
  | lst ds =>
    obtain ⟨es, rfl, q⟩ := hw
    obtain ⟨a, vs, rfl, _, h, r⟩ := r1.lst_of
    obtain ⟨e1, e2⟩ := drL_each (k := kOf2 (HH F M)) (fun v e h => (p2_dr dj h).1) r
    refine ⟨a, vs, kOf2 (HH F M), rfl, SqL.of h, fun v hv => (p2_dr dj (e2 v hv)).2, fun ys p hs hb hn => ?_⟩
    refine new_lst (c := cy X) dj (drL_map (k := kOf2 (HH F M)) (g := p2D) fun y hy => e2 y (hb.perm.mem_iff.mp hy)) hn (q _ ?_ ?_) k
    · rw [e1]; exact hb.perm.map _
    · rw [List.pairwise_map]
      refine hs.imp fun {x y} hxy => ?_
      exact lt2P_no.mpr (SrtO.lexB_no.mp hxy)
  | _ => exact hw.elim
end
theorem p2_uniq {es fs : List (Int × Int)} (h : es.Perm fs) (h1 : es.Pairwise (fun x y => lt2P y x = false)) (h2 : fs.Pairwise (fun x y => lt2P y x = false)) : es = fs :=
  h.eq_of_pairwise (fun a b _ _ x y => by
    have x := lt2P_no.mp x
    have y := lt2P_no.mp y
    obtain ⟨i, j⟩ := a
    obtain ⟨i', j'⟩ := b
    simp only at x y
    have : i = i' := by omega
    have : j = j' := by omega
    simp_all) h1 h2
end DL

/-! a < b < c < d. -/
namespace DL
open PySem PySem.Spec PyProof.Rows L2
variable [Lk]
def tChain4 (r r' r'' : R2) (ta tb tc td : TE) : TE := fun σ H Q => ta σ H fun x H1 => tb σ H1 fun y H2 => r x y H2 fun z H3 => ∃ k, z = .bl k ∧
  (if k = true then tc σ H3 fun u H4 => r' y u H4 fun z' H5 => ∃ k', z' = .bl k' ∧ (if k' = true then td σ H5 fun w' H6 => r'' u w' H6 Q else Q (.bl false) H5) else Q (.bl false) H3)
theorem pe_chain4 {X : Cx} {a b c d' : Expr} {pos : Pos} {ta tb tc td : TE} {op op' op'' : CmpOp} {r r' r'' : R2} (ho : OpR X (compareOp op) r) (ho' : OpR X (compareOp op') r') (ho'' : OpR X (compareOp op'') r'') (ha : PE X a ta) (hb : PE X b tb) (hc : PE X c tc) (hd : PE X d' td)
    (hm : lastMarks [op, op', op''] [b, c, d'] = false) : PE X (.Compare a [op, op', op''] [b, c, d'] pos) (tChain4 r r' r'' ta tb tc td) := by
  refine ⟨fun pins s σ H Q I h => ?_⟩
  refine Compare_chain (thn (ha.run pins s σ H _ I h) fun v s1 ⟨x, H1, I1, r1, q1⟩ => chain_link (thn (hb.run pins s1 σ H1 _ I1 q1) fun u s2 ⟨y, H2, I2, r2, q2⟩ =>
    thn (ho pins s2 σ H2 x y v u _ I2 r1 r2 q2) fun d s3 ⟨z, H3, I3, r3, k, e, q3⟩ => ?_)) hm
  subst e
  cases r3
  refine wpAny_truthy_bool ?_
  cases k with
  | false => exact ite_ff ⟨.bl false, H3, I3, rfl, q3⟩
  | true =>
    refine ite_tt (chain_link (thn (hc.run pins s3 σ H3 _ I3 q3) fun w' s4 ⟨z', H4, I4, r4, q4⟩ => thn (ho' pins s4 σ H4 y z' u w' _ I4 r2 r4 q4) fun d s5 ⟨z5, H5, I5, r5, k, e, q5⟩ => ?_))
    subst e
    cases r5
    refine wpAny_truthy_bool ?_
    cases k with
    | false => exact ite_ff ⟨.bl false, H5, I5, rfl, q5⟩
    | true => exact ite_tt (chain_last (thn (hd.run pins s5 σ H5 _ I5 q5) fun w'' s6 ⟨z6, H6, I6, r6, q6⟩ => ho'' pins s6 σ H6 z' z6 w' w'' Q I6 r4 r6 q6))
def wChain4 (wr wr' wr'' : D → D → (D → Prop) → Prop) (wa wb wc wd : WE) : WE := fun ρ Q => wa ρ fun d1 ρ1 => wb ρ1 fun d2 ρ2 => wr d1 d2 fun d => match d with
  | .bl true => wc ρ2 fun d3 ρ3 => wr' d2 d3 fun d' => match d' with
    | .bl true => wd ρ3 fun d4 ρ4 => wr'' d3 d4 fun d'' => Q d'' ρ4
    | .bl false => Q (.bl false) ρ3
    | _ => False
  | .bl false => Q (.bl false) ρ2
  | _ => False
theorem snd_chain4 {c : Cy} {r r' r'' : R2} {wr wr' wr'' : D → D → (D → Prop) → Prop} {ta tb tc td : TE} {wa wb wc wd : WE} (hr : Rop c r wr) (hr' : Rop c r' wr') (hr'' : Rop c r'' wr'') (ha : Snp c ta wa) (hb : Snp c tb wb) (hc : Snp c tc wc) (hd : Snp c td wd) : Snd c (tChain4 r r' r'' ta tb tc td) (wChain4 wr wr' wr'' wa wb wc wd) := fun {b ρ σ F M M0} R Qd Q hw k => by
  refine ha R _ _ hw fun d1 ρ1 x F1 M1 M01 q1 A1 r1 => ?_
  refine hb A1.rel _ _ q1 fun d2 ρ2 y F2 M2 M02 q2 A2 r2 => ?_
  refine hr (b := b) _ _ A2.rel.dj (r1.stay A2.same A2.ext) r2 q2 fun d v F3 q s dj nf rv => ?_
  have A3 := (A1.trans A2).trans (A2.rel.grow s dj)
  cases d with
  | bl j =>
    simp only [Dr] at rv
    refine ⟨j, rv, ?_⟩
    cases j with
    | true =>
      rw [if_pos rfl]
      refine hc A3.rel _ _ q fun d3 ρ3 z F4 M4 M04 q3 A4 r3 => ?_
      refine hr' (b := b) _ _ A4.rel.dj ((r2.stay s (A2.rel.grow s dj).ext).stay A4.same A4.ext) r3 q3 fun d' v' F5 q' s' dj' nf' rv' => ?_
      have A5 := (A3.trans A4).trans (A4.rel.grow s' dj')
      cases d' with
      | bl j' =>
        simp only [Dr] at rv'
        refine ⟨j', rv', ?_⟩
        cases j' with
        | true =>
          rw [if_pos rfl]
          refine hd A5.rel _ _ q' fun d4 ρ4 z4 F6 M6 M06 q4 A6 r4 => ?_
          refine hr'' (b := b) _ _ A6.rel.dj ((r3.stay s' (A4.rel.grow s' dj').ext).stay A6.same A6.ext) r4 q4 fun d'' v'' F7 q'' s'' dj'' nf'' rv'' => ?_
          exact k d'' ρ4 v'' F7 M6 M06 q'' ((A5.trans A6).trans (A6.rel.grow s'' dj'')) rv''
        | false =>
          rw [if_neg Bool.false_ne_true]
          exact k _ ρ3 _ F5 M4 M04 q' A5 (by simp only [Dr])
      | _ => exact q'.elim
    | false =>
      rw [if_neg Bool.false_ne_true]
      exact k _ ρ2 _ F3 M2 M02 q A3 (by simp only [Dr])
  | _ => exact q.elim
theorem de_chain4 {X : Cx} {a b' c' d' : Expr} {pos : Pos} {ta tb tc td : TE} {wa wb wc wd : WE} {op op' op'' : CmpOp} {r r' r'' : R2} {wr wr' wr'' : D → D → (D → Prop) → Prop} (ho : OpR X (compareOp op) r) (ho' : OpR X (compareOp op') r') (ho'' : OpR X (compareOp op'') r'') (hr : Rop (cy X) r wr) (hr' : Rop (cy X) r' wr') (hr'' : Rop (cy X) r'' wr'') (ha : DP X a ta wa) (hb : DP X b' tb wb) (hc : DP X c' tc wc) (hd : DP X d' td wd)
    (hm : lastMarks [op, op', op''] [b', c', d'] = false) : DE X (.Compare a [op, op', op''] [b', c', d'] pos) (tChain4 r r' r'' ta tb tc td) (wChain4 wr wr' wr'' wa wb wc wd) :=
  ⟨pe_chain4 ho ho' ho'' ha.pe hb.pe hc.pe hd.pe hm, snd_chain4 hr hr' hr'' ha.sn hb.sn hc.sn hd.sn⟩
theorem zw {wr wr' wr'' : D → D → (D → Prop) → Prop} {wa wb wc wd : WE} {ρ : List Sl} {Qd : D → List Sl → Prop} : wChain4 wr wr' wr'' wa wb wc wd ρ Qd = wa ρ fun d1 ρ1 => wb ρ1 fun d2 ρ2 => wr d1 d2 fun d => ∃ k, d = .bl k ∧ (k = true → wc ρ2 fun d3 ρ3 => wr' d2 d3 fun d' => ∃ k', d' = .bl k' ∧ (k' = true → wd ρ3 fun d4 ρ4 => wr'' d3 d4 fun d'' => Qd d'' ρ4) ∧ (k' = false → Qd (.bl false) ρ3)) ∧ (k = false → Qd (.bl false) ρ2) := by
  unfold wChain4
  congr 1; funext d1 ρ1; congr 1; funext d2 ρ2; congr 1; funext d
  cases d with
  | bl j => cases j with
    | false => simp
    | true =>
      simp only [D.bl.injEq]
      simp only [exists_eq_left', true_implies, Bool.true_eq_false, false_implies, and_true]
      congr 1; funext d3 ρ3; congr 1; funext d'
      cases d' with
      | bl j' => cases j' <;> simp
      | _ => simp
  | _ => simp
end DL

/-! a + b as an own list. -/
namespace DL
open PySem PySem.Spec PyProof.Rows L2
variable [Lk]
def wfCat (wa wb : WE) : List Sl → (Sl → List Sl → Prop) → Prop := fun ρ Q => wa ρ fun d1 ρ1 => wb ρ1 fun d2 ρ2 => match d1, d2 with
  | .lst a, .lst b => a.length + b.length ≤ sizeLine ∧ Q (.ol (a ++ b)) ρ2
  | _, _ => False
theorem df_cat {X : Cx} {a b' : Expr} {ta tb : TE} {wa wb : WE} {pos : Pos} (ha : DP X a ta wa) (hb : DP X b' tb wb) : DF X (.BinOp a .Add b' pos) (tOp rAddU ta tb) (wfCat wa wb) :=
  ⟨pe_op op_addU ha.pe hb.pe, fun {b ρ σ F M M0} R Qd Q hw k => by
  refine ha.sn R _ _ hw fun d1 ρ1 x F1 M1 M01 q1 A1 r1 => ?_
  refine hb.sn A1.rel _ _ q1 fun d2 ρ2 y F2 M2 M02 q2 A2 r2 => ?_
  have r1 := r1.stay A2.same A2.ext
  cases d1 with
  | lst ds =>
    cases d2 with
    | lst es =>
      obtain ⟨a, vs, rfl, _, h1, e1⟩ := r1.lst_of
      obtain ⟨a', vs', rfl, _, h2, e2⟩ := r2.lst_of
      refine .inr (.inr ⟨a, a', vs, vs', rfl, rfl, h1, h2, by rw [e1.length, e2.length]; exact q2.1, fun p hp => ?_⟩)
      obtain ⟨hf, hm⟩ := hh_none hp
      rw [hh_updM]
      exact k (.ol (ds ++ es)) ρ2 p _ F2 M2 M02 q2.2 (A1.trans A2) trivial ⟨_, rfl, e1.append e2⟩ hf hm
    | _ => exact q2.elim
  | _ => exact q2.elim⟩
theorem zx {wa wb : WE} {ρ : List Sl} {Q : Sl → List Sl → Prop} : wfCat wa wb ρ Q = wa ρ fun d1 ρ1 => wb ρ1 fun d2 ρ2 => match d1, d2 with
  | .lst a, .lst b => a.length + b.length ≤ sizeLine ∧ Q (.ol (a ++ b)) ρ2
  | _, _ => False := rfl
end DL

/-! Defs that may raise: what is known of the heap since the def began, and what an exception shows. -/
namespace DL
open PySem PySem.Spec PyProof.Rows L2
/-- what an exception shows: its class's name and its fields -/
structure Xn where
  n : Str
  fs : List (Str × V)
/-- the exception of class cls with the dict d shows x -/
def XnR (mg : Str → Option Value) (H : Hp) (x : Xn) (cls : Value) (d : Option Addr) : Prop := ∃ C, mg x.n = some (.ref C) ∧ cls = .ref C ∧ ((x.fs = [] ∧ d = none) ∨ (x.fs ≠ [] ∧ ∃ a, d = some a ∧ H a = some (.xd x.fs)))
abbrev WFx := List Sl → (D → Prop) → (Xn → Prop) → Prop
/-- a def that may raise -/
def spX (c : Cy) (wf : WFx) : Sp := fun vs H Q E => ∃ (F M : Hp) (as : List Sl) (Qd : D → Prop) (EX : Xn → Prop), H = HH F M ∧ (Dj F M ∧ NT M) ∧ ArgsD c none F as vs ∧ wf as Qd EX ∧
  (∀ d v F', Qd d → Same F F' → Dj F' M → Dr c F' v d → Q v (HH F' M)) ∧ ∀ x cls d H', EX x → Ext none H H' → XnR c.mg H' x cls d → E cls d H'
/-- the def began in this heap -/
@[reducible] def Lk.from (F0 M00 : Hp) : Lk where
  lk := fun b F M => b = none ∧ Same F0 F ∧ ∀ a o, M00 a = some o → M a = some o
  mono := fun {b F F' M M'} h s m => ⟨h.1, h.2.1.trans s, fun a o q => by rw [m a (by rw [h.1]; exact fun z => nomatch z)]; exact h.2.2 a o q⟩
  lay := fun {b F M p o} h e => ⟨h.1, h.2.1, fun a u q => by
    have := h.2.2 a u q
    rw [upd_ne (fun z => by rw [z, e] at this; cases this)]
    exact this⟩
theorem ext_from {F0 M00 : Hp} {c : Cy} {b : Option Addr} {ρ : List Sl} {σ : L2.St} {F M M0 : Hp} (R : @Rel (Lk.from F0 M00) c b ρ σ F M M0) : Ext none (HH F0 M00) (HH F M) := fun a o _ q => by
  letI := Lk.from F0 M00
  rcases hh_some q with z | ⟨z1, z2⟩
  · exact hh_m (R.env.sub _ _ (R.lk.2.2 a o z))
  · exact R.dj.f (R.lk.2.1 a o z2)
theorem mr_none {M M' : Hp} (h : MR none M M') : M' = M := funext fun a => h a fun z => nomatch z
section
variable {P : Program} {w : World} {K : PySem.W.Frag} {mg : Str → Option Value} {base : Heap}
/-- THE RULE for a def that may raise -/
theorem fun_okX {x qual : Str} {st : Stmt} {f : Addr} {fd : FuncData} {N ps : List Str} {k : Nat} {wf : WFx} (FF : Fun K x qual st f fd) (S : FnScope N ps (defScope st)) (len : ∀ as Qd EX, wf as Qd EX → as.length = ps.length) (ws : (Xn → Prop) → WS)
    (hbody : ∀ (cdv : Value) (A : Around) (outer : List Env) (s : Shared) (F M : Hp) (E : XK) (EX : Xn → Prop), Room k (A.deeper (envOfC qual (defScope st) s.heap.objs.size f cdv)) → (∀ x cls d H', EX x → Ext none (HH F M) H' → XnR mg H' x cls d → E cls d H') →
      letI := Lk.from F M
      ∃ t, DSs (cxOf (L2.CX P w) P w K mg base N qual (defScope st) f cdv A outer s (HH F M) E) (defBody st) t (ws EX))
    (hp : ∀ as Qd EX, wf as Qd EX → ws EX (startD N as) { nx := fun _ => Qd .non, rt := fun d _ => Qd d }) :
    FnOk P w K mg base (L2.CX P w) (k + 1) f fd ps (spX ⟨K, mg⟩ wf) := by
  refine FF.okX S (fun vs H Q E h => ?_) (fun cdv A outer s H vs Q E hr h => ?_)
  · obtain ⟨F, M, as, Qd, EX, _, _, ar, hw, _⟩ := h
    rw [ar.length, len as Qd EX hw]
  · obtain ⟨F, M, as, Qd, EX, rfl, dj, ar, hw, hq, hE⟩ := h
    letI := Lk.from F M
    obtain ⟨t, hd⟩ := hbody cdv A outer s F M E EX hr hE
    refine ⟨t, hd.ps, ?_⟩
    have R : Rel ⟨K, mg⟩ none (startD N as) (L2.start N vs) F M M := by
      refine ⟨dj.1, ?_, (fun a z => nomatch z), ⟨rfl, Same.refl _, fun _ _ q => q⟩⟩
      unfold startD L2.start
      rw [show vs.length = as.length from ar.length]
      exact relE_nos (ar.relE M dj.2)
    have fin : ∀ d v ρ' σ' F' M' M0', Qd d → Same F F' → Rel ⟨K, mg⟩ none ρ' σ' F' M' M0' → MR none M M0' → Dr ⟨K, mg⟩ F' v d → Q v (HH F' M') := fun d v ρ' σ' F' M' M0' q s' R' m' r => by
      obtain ⟨F2, s2, eh, dj2⟩ := R'.env.frzAll R'.dj
      rw [eh]
      have e := mr_none m'
      subst e
      exact hq d v F2 q (s'.trans s2) dj2 (r.up s2)
    exact hd.sn R _ _ (hp as Qd EX hw) ⟨fun ρ' σ' F' M' M0' e s' R' m' => fin .non .non ρ' σ' F' M' M0' e s' R' m' (by simp only [Dr]), fun _ _ _ _ _ z => z.elim, fun _ _ _ _ _ z => z.elim, fin⟩
end
/-! ### raise and calls in such a def -/
def wRaise (EX : Xn → Prop) (n : Str) : WS := fun _ _ => EX ⟨n, []⟩
theorem zz {EX : Xn → Prop} {n : Str} {ρ : List Sl} {E : EnD} : wRaise EX n ρ E = EX ⟨n, []⟩ := rfl
def wCallX (EX : Xn → Prop) (wf : WFx) (wt : WAs) : WE := fun ρ Q => wt ρ fun as ρ1 => wf as (fun d => Q d ρ1) EX
theorem z3 {EX : Xn → Prop} {wf : WFx} {wt : WAs} {ρ : List Sl} {Q : D → List Sl → Prop} : wCallX EX wf wt ρ Q = wt ρ fun as ρ1 => wf as (fun d => Q d ρ1) EX := rfl
def wCallX0 (wf : WFx) (wt : WAs) : WE := fun ρ Q => wt ρ fun as ρ1 => (∀ s ∈ as, s ≠ .bx) ∧ wf as (fun d => Q d ρ1) fun _ => False
theorem z7 {wf : WFx} {wt : WAs} {ρ : List Sl} {Q : D → List Sl → Prop} : wCallX0 wf wt ρ Q = wt ρ fun as ρ1 => (∀ s ∈ as, s ≠ .bx) ∧ wf as (fun d => Q d ρ1) fun _ => False := rfl
section
variable {X : Cx} {F0 M00 : Hp} {E : XK} {EX : Xn → Prop}
/-- raise C(), C without an __init__ of its own -/
theorem ds_raise0 {st : Stmt} {n : Str} {C : Addr} (ps : PS X st (fun _ _ H => E (.ref C) none H)) (hm : X.mg n = some (.ref C)) (hE : ∀ x cls d H', EX x → Ext none (HH F0 M00) H' → XnR X.mg H' x cls d → E cls d H') :
    letI := Lk.from F0 M00
    DS X st (fun _ _ H => E (.ref C) none H) (wRaise EX n) :=
  letI := Lk.from F0 M00
  ⟨ps, fun {b ρ σ F M M0} R Ed Dn hw f => hE _ _ _ _ hw (ext_from R) ⟨C, hm, rfl, .inl ⟨rfl, rfl⟩⟩⟩
variable {f : Addr} {fd : FuncData} {ps : List Str} {x : Str} {p pos : Pos} {k : Nat} {e : Expr} {es : List Expr} {ta : TA} {wa : WAs} {wf : WFx}
/-- a call that may raise, in a def that may raise -/
theorem de_callX (G : FnOk X.prog X.w X.K X.mg X.base (L2.CX X.prog X.w) k f fd ps (spX (cy X) wf)) (hr : Room k X.A) (hg : Gl X x) (hm : X.mg x = some (.ref f)) (hk : PySem.W.keepIn X.K (.ref f) = true) (hb : Binds X.K fd ps []) (hx : Passes (L2.CX X.prog X.w) X E)
    (hE : ∀ x cls d H', EX x → Ext none (HH F0 M00) H' → XnR X.mg H' x cls d → E cls d H')
    (ha : letI := Lk.from F0 M00; DAs X (e :: es) ta wa) (hdb : (x == ("__debug__" : Str)) = false := by decide) (he : starEach (e :: es) X.env = (false, eval e X.env) :: starEach es X.env := by rfl) (hpl : (backTo pos (starEach es X.env)).any (·.1) = false := by rfl) :
    letI := Lk.from F0 M00
    DE X (.Call (.Name x p) (e :: es) [] pos) (tCall (spX (cy X) wf) [] E ta) (wCallX EX wf wa) :=
  letI := Lk.from F0 M00
  ⟨pe_call G hr hg hm hk hb .nil hx ha.pe hdb he hpl, fun {b ρ σ F M M0} R Qd Q hw kk => by
  have hbn : b = none := R.lk.1
  subst hbn
  refine ha.sn R _ _ hw fun as ρ1 vs F1 M1 M01 q1 A1 r1 => ?_
  rw [List.append_nil]
  refine ⟨F1, M1, as, _, EX, rfl, ⟨A1.rel.dj, A1.rel.env.nt⟩, r1, q1, fun d v F' q s dj r => ?_, fun x cls d H' hx ex xr => hE x cls d H' hx ((ext_from A1.rel).trans ex) xr⟩
  exact kk d ρ1 v F' M1 M01 q (A1.trans (A1.rel.grow s dj)) r⟩
/-- a call that may raise and does not -/
theorem de_callX0 [Lk] (G : FnOk X.prog X.w X.K X.mg X.base (L2.CX X.prog X.w) k f fd ps (spX (cy X) wf)) (hr : Room k X.A) (hg : Gl X x) (hm : X.mg x = some (.ref f)) (hk : PySem.W.keepIn X.K (.ref f) = true) (hb : Binds X.K fd ps [])
    (ha : DAs X (e :: es) ta wa) (hdb : (x == ("__debug__" : Str)) = false := by decide) (he : starEach (e :: es) X.env = (false, eval e X.env) :: starEach es X.env := by rfl) (hpl : (backTo pos (starEach es X.env)).any (·.1) = false := by rfl) :
    DE X (.Call (.Name x p) (e :: es) [] pos) (tCall (spX (cy X) wf) [] E0 ta) (wCallX0 wf wa) :=
  ⟨pe_call G hr hg hm hk hb .nil passL ha.pe hdb he hpl, fun {b ρ σ F M M0} R Qd Q hw kk => by
  refine ha.sn R _ _ hw fun as ρ1 vs F1 M1 M01 q1 A1 r1 => ?_
  rw [List.append_nil]
  refine ⟨F1, M1, as, _, _, rfl, ⟨A1.rel.dj, A1.rel.env.nt⟩, r1.nobox q1.1, q1.2, fun d v F' q s dj r => ?_, fun x cls d H' hx => hx.elim⟩
  exact kk d ρ1 v F' M1 M01 q (A1.trans (A1.rel.grow s dj)) r⟩
end
end DL

/-! try: return f(..) except C: return a constant. -/
namespace DL
open PySem PySem.Spec PyProof.Rows L2
variable [Lk]
/-- the class c takes the exceptions of these names -/
def Takn (K : PySem.W.Frag) (mg : Str → Option Value) (c : Value) (ns : List Str) : Prop := ∀ n ∈ ns, ∀ C, mg n = some (.ref C) → PySem.W.exmOne K (.ref C) c = some true
theorem Takn.one {K : PySem.W.Frag} {mg : Str → Option Value} {c : Value} {n : Str} {C : Addr} (h : mg n = some (.ref C)) (e : PySem.W.exmOne K (.ref C) c = some true) : Takn K mg c [n] := fun m hm C' h' => by
  rw [List.mem_singleton.mp hm, h] at h'
  cases h'
  exact e
def wTryRet (ns : List Str) (d0 : D) (wf : WFx) (wa : WAs) : WS := fun ρ E => wa ρ fun as ρ1 => (∀ s ∈ as, s ≠ .bx) ∧ wf as (fun d => E.rt d ρ1) fun x => x.n ∈ ns ∧ E.rt d0 ρ1
theorem z8 {ns : List Str} {d0 : D} {wf : WFx} {wa : WAs} {ρ : List Sl} {E : EnD} : wTryRet ns d0 wf wa ρ E = wa ρ fun as ρ1 => (∀ s ∈ as, s ≠ .bx) ∧ wf as (fun d => E.rt d ρ1) fun x => x.n ∈ ns ∧ E.rt d0 ρ1 := rfl
section
variable {X : Cx} {e : Expr} {es : List Expr} {t : TA} {wa : WAs} {wf : WFx}
theorem ds_tryRet {x n : Str} {c : Value} {ns : List Str} {d0 : D} {v0 : V} {np p1 p2 p3 p4 p5 p6 pos : Pos} {se : Expr} (hs : X.stack = X.env :: X.outer) (hf : X.env.frame = some X.env.locals) (hc : Names X x c) (hm : Takn X.K X.mg c ns)
    (has : DAs X es t wa) (hv : ∀ X' : Cx, PE X' se (tC v0)) (hd : ∀ F, Dr (cy X) F v0 d0)
    (hb : ∀ (W : WX) (pn : List (Addr × Obj)) (xe : Value → Shared → Prop), Takes (X.tr pn xe) W → PE (X.tr pn xe) (.Call (.Name n p5) es [] p6) (tCall (spX (cy X) wf) [] (fun cls d H => ∀ σ, W cls d σ H) t)) :
    DS X (.Try [.Return (some (.Call (.Name n p5) es [] p6)) p1] [.ExceptHandler (some (.Name x np)) none [.Return (some se) p3] p4] [] [] pos)
      (fun D σ H => (tRet (tCall (spX (cy X) wf) [] (fun cls d H => ∀ σ, wOnly X.K c (fun _ _ _ => tRet (tC v0)) (fun _ _ _ _ => False) D cls d σ H) t)) D σ H) (wTryRet ns d0 wf wa) := by
  refine ⟨ps_try_only (X := X) (c := c) (tb := fun W => tRet (tCall (spX (cy X) wf) [] (fun cls d H => ∀ σ, W cls d σ H) t)) hs hf hc takes0 (fun W pn xe tk _ => pss_one (ps_ret (hb W pn xe tk))) (fun a oe cls d pn _ _ => pss_one (ps_ret (hv _))), ?_⟩
  intro b ρ σ F M M0 R E Dn hw fin
  refine has.sn R _ _ hw fun as ρ1 vs F1 M1 M01 q A ar => ?_
  rw [List.append_nil]
  refine ⟨F1, M1, as, _, _, rfl, ⟨A.rel.dj, A.rel.env.nt⟩, ar.nobox q.1, q.2, fun d v F' h s dj r => ?_, fun x cls d H' hx ex xr σ' => ?_⟩
  · have A2 := A.rel.grow s dj
    exact fin.rt d v ρ1 σ F' M1 M01 h (A.same.trans s) A2.rel A.mr r
  · obtain ⟨C, h1, rfl, _⟩ := xr
    obtain ⟨F', rfl, s, R'⟩ := A.rel.ext0 ex
    exact ⟨true, hm _ hx.1 C h1, fun _ a _ => fin.rt d0 v0 ρ1 σ F' M1 M01 hx.2 (A.same.trans s) R' A.mr (hd F'), fun z => nomatch z⟩
end
end DL

/-! def raised(way, ..): try: way(..) except X as e: return isinstance(e, C); return False: the way is a def. -/
namespace DL
open PySem PySem.Spec PyProof.Rows L2
/-- the i-th slot holds the def at f; the wish of exceptions may read the slots -/
def tCallLS (i : Nat) (f : Addr) (sp : Sp) (E : L2.St → XK) (t : TA) : TE := fun σ H Q => σ[i]? = some (some (.ref f)) ∧ t σ H fun vs H1 => sp vs H1 Q (E σ)
section
variable {X : Cx} {CX : CXT} {k i : Nat} {f : Addr} {fd : FuncData} {ps : List Str} {sp : Sp} {E : L2.St → XK} {x : Str} {p pos : Pos} {e : Expr} {es : List Expr} {t : TA}
theorem pe_callLS (F : FnOk X.prog X.w X.K X.mg X.base CX k f fd ps sp) (hr : Room k X.A) (hN : X.N[i]? = some x) (hv : Vis X.env.scope x) (hk : PySem.W.keepIn X.K (.ref f) = true) (hb : Binds X.K fd ps []) (hx : ∀ σ, PassesAt CX X σ (E σ)) (ha : PA X (e :: es) t)
    (hdb : (x == ("__debug__" : Str)) = false := by decide) (hcd : (x == ("__classdict__" : Str)) = false := by decide)
    (he : starEach (e :: es) X.env = (false, eval e X.env) :: starEach es X.env := by rfl) (hpl : (backTo pos (starEach es X.env)).any (·.1) = false := by rfl) : PE X (.Call (.Name x p) (e :: es) [] pos) (tCallLS i f sp E t) := by
  refine ⟨fun pins s σ H Q I h => ?_⟩
  obtain ⟨hs, ht⟩ := h
  refine wpAny_Call_Name_kw (thn ((pe_var (pos := p) hN hv hdb hcd).run pins s σ H (fun v H1 => v = .ref f ∧ H1 = H) I ⟨.ref f, hs, rfl, rfl⟩) fun u s1 ⟨v, H1, I1, r1, q1⟩ => ?_)
  obtain ⟨rfl, rfl⟩ := q1
  cases r1
  refine PySem.W.callWith_K (h₀ := X.base) I.ok.mod.kin hk (thn (ha.run pos pins s1 σ _ _ I1 ht) fun us s2 ⟨vs, H2, I2, r, q⟩ => ⟨I2.kIn, ?_⟩) he hpl
  exact run_fnS F hr hb (hx σ) I2 r q
end
theorem kitOne_self {K : PySem.W.Frag} {t : Value} : PySem.W.kitOne K t t = some true := by unfold PySem.W.kitOne; rw [if_pos (beq_self_eq_true t)]
/-- what is asked: the way, called with these, comes back (then False), or raises C (then True) -/
def wRaised (cn : Str) (wf : WFx) : WFn := fun as Qd => ∃ ds : List D, as = ds.map Sl.sh ∧ wf as (fun _ => Qd (.bl false)) fun x => x = ⟨cn, []⟩ ∧ Qd (.bl true)
/-- .. with the way's address ahead -/
def spR (c : Cy) (f1 : Addr) (wf : WFn) : Sp := fun vs H Q E => ∃ vs', vs = .ref f1 :: vs' ∧ spF c wf vs' H Q E
section
variable {P : Program} {w : World} {K : PySem.W.Frag} {mg : Str → Option Value} {base : Heap}
/-- the suite's reading: isinstance(e, C) for an exception of C without a dict -/
def tIsE (K : PySem.W.Frag) (C : Addr) (i : Nat) (a : Addr) (cls : Value) (d : Option Addr) : TS := fun D σ H => (cls = .ref C ∧ d = none) ∧ tRet (tCB (rIsE K C a) (tCons (tVar i) (tCons (tC (.ref C)) tNil))) D σ H
theorem pss_isE {X : Cx} {C : Addr} {a : Addr} {cls : Value} {d : Option Addr} {j : Nat} {se : Expr} {p2 : Pos} (h : cls = .ref C → d = none → PE X se (tCB (rIsE X.K C a) (tCons (tVar j) (tCons (tC (.ref C)) tNil)))) : PSs X [.Return (some se) p2] (tIsE X.K C j a cls d) := by
  by_cases hc : cls = .ref C ∧ d = none
  · obtain ⟨t, ht⟩ : ∃ t, t = tRet (tCB (rIsE X.K C a) (tCons (tVar j) (tCons (tC (.ref C)) tNil))) := ⟨_, rfl⟩
    have := pss_one (ps_ret (pos := p2) (h hc.1 hc.2))
    exact ⟨fun pins s σ H D I hw => this.run pins s σ H D I hw.2⟩
  · exact ⟨fun pins s σ H D I hw => absurd hw.1 hc⟩
theorem fun_okR {x qual : Str} {st : Stmt} {f f1 : Addr} {fd : FuncData} {N ps : List Str} {k j : Nat} {wf : WFx} {cn xc : Str} {C CM : Addr} (FF : Fun K x qual st f fd) (S : FnScope N ps (defScope st)) (len : ∀ as Qd EX, wf as Qd EX → as.length + 1 = ps.length) (hN1 : 1 ≤ N.length)
    {es : List Expr} {se e2 : Expr} {n wn : Str} {np p1 p2 p3 p4 p5 p6 p7 : Pos} (hbd : defBody st = [.Try [.Expr (.Call (.Name wn p6) es [] p7) p1] [.ExceptHandler (some (.Name xc np)) (some n) [.Return (some se) p2] p3] [] [] p4, .Return (some e2) p5])
    (hN : N[j]? = some n) (hcn : mg cn = some (.ref C)) (hme : PySem.W.exmOne K (.ref C) (.ref CM) = some true) (hki : PySem.W.kitOne K (.ref C) (.ref C) = some true)
    (hbody : ∀ (cdv : Value) (A : Around) (outer : List Env) (s : Shared) (H : Hp) (E : XK), Room k (A.deeper (envOfC qual (defScope st) s.heap.objs.size f cdv)) →
      letI := Lk.top
      ∃ (t : TA) (wa : WAs), DAs (cxOf CX0 P w K mg base N qual (defScope st) f cdv A outer s H E).nox es t wa ∧
        (∀ (ds : List D) (Q : List Sl → List Sl → Prop), ds.length + 1 = ps.length → Q (ds.map Sl.sh) (.no :: startD (N.drop 1) (ds.map Sl.sh)) → wa (.no :: startD (N.drop 1) (ds.map Sl.sh)) Q) ∧
        (∀ (W : WX) (pn : List (Addr × Obj)) (xe : Value → Shared → Prop), Takes ((cxOf CX0 P w K mg base N qual (defScope st) f cdv A outer s H E).nox.tr pn xe) W →
          PSs ((cxOf CX0 P w K mg base N qual (defScope st) f cdv A outer s H E).nox.tr pn xe) [.Expr (.Call (.Name wn p6) es [] p7) p1] (tDrop (tCallLS 0 f1 (spX ⟨K, mg⟩ wf) (fun σ => L2.WE W σ) t))) ∧
        (∀ (a : Addr) (oe : Obj) (cls : Value) (d : Option Addr) (pn : List (Addr × Obj)), Zc cls d oe → (∃ vs, oe.data = .fields vs) → PSs ((cxOf CX0 P w K mg base N qual (defScope st) f cdv A outer s H E).nox.suite a ((a, oe) :: pn)) [.Return (some se) p2] (tIsE K C j a cls d)) ∧
        PE (cxOf CX0 P w K mg base N qual (defScope st) f cdv A outer s H E).nox e2 (tC (.bl false)) ∧
        Names (cxOf CX0 P w K mg base N qual (defScope st) f cdv A outer s H E).nox xc (.ref CM) ∧ (cxOf CX0 P w K mg base N qual (defScope st) f cdv A outer s H E).nox.env.kindOf n = some .local) :
    FnOk P w K mg base CX0 (k + 1) f fd ps (spR ⟨K, mg⟩ f1 (wRaised cn wf)) := by
  refine FF.ok S (fun vs H Q E h => ?_) (fun cdv A outer s H vs Q E hr h => ?_)
  · obtain ⟨vs', rfl, b, F, M, as, Qd, _, _, _, ar, ⟨ds, _, hw⟩, _⟩ := h
    rw [List.length_cons, ar.length, len as _ _ hw]
  · letI := Lk.top
    obtain ⟨vs', rfl, b, F, M, as, Qd, rfl, dj, bx, ar, ⟨ds, rfl, hw⟩, hq⟩ := h
    obtain ⟨t, wa, ha, hwa, hb, hsu, h2, hnm, hlo⟩ := hbody cdv A outer s (HH F M) E hr
    have hl := len _ _ _ hw
    rw [List.length_map] at hl
    have ps1 : PS (cxOf CX0 P w K mg base N qual (defScope st) f cdv A outer s (HH F M) E).nox (.Try [.Expr (.Call (.Name wn p6) es [] p7) p1] [.ExceptHandler (some (.Name xc np)) (some n) [.Return (some se) p2] p3] [] [] p4) _ :=
      ps_try_as (Wout := fun _ _ _ _ => False) (i := j) (tb := fun W => tDrop (tCallLS 0 f1 (spX ⟨K, mg⟩ wf) (fun σ => L2.WE W σ) t)) (ts := tIsE K C j) rfl rfl S.nd hN hlo hnm takes0 (fun W pn xe tk _ => hb W pn xe tk) hsu
    refine ⟨_, by rw [hbd]; exact pss_cons ps1 (pss_one (ps_ret h2)), ?_⟩
    have R : Rel ⟨K, mg⟩ b (.no :: startD (N.drop 1) (ds.map Sl.sh)) (L2.start N (.ref f1 :: vs')) F M M := by
      refine ⟨dj, ?_, bx.1, trivial⟩
      have e : L2.start N (.ref f1 :: vs') = some (.ref f1) :: L2.start (N.drop 1) vs' := by
        unfold L2.start
        rw [List.map_cons, List.cons_append, List.length_cons, List.length_drop]
        congr 3
        omega
      rw [e]
      refine ⟨_, _, rfl, ?_⟩
      unfold startD L2.start
      rw [ar.length]
      exact ar.rel bx.2
    have fin : ∀ (v : V) (d : D) {F' M' M0' : Hp} {ρ' : List Sl} {σ' : L2.St}, Qd d → Same F F' → Rel ⟨K, mg⟩ b ρ' σ' F' M' M0' → MR b M M0' → Dr ⟨K, mg⟩ F' v d → Q v (HH F' M') := fun v d {F' M' M0' ρ' σ'} q s' R' m' r => by
      obtain ⟨F2, s2, eh, dj2⟩ := R'.env.frzAll R'.dj
      rw [eh]
      exact hq d v F2 M0' q (s'.trans s2) dj2 (fun a z => (R'.box a z).leD (.of s2)) m' (r.up s2)
    refine ⟨rfl, ?_⟩
    refine ha.sn R (fun as1 _ => as1 = ds.map Sl.sh) _ (hwa ds _ hl rfl) fun as1 ρ1 vs1 F1 M1 M01 q A ar1 => ?_
    subst q
    have nb : ∀ s ∈ ds.map Sl.sh, s ≠ .bx := fun s hs => by
      obtain ⟨d, _, rfl⟩ := List.mem_map.mp hs
      exact fun z => nomatch z
    refine ⟨F1, M1, ds.map Sl.sh, _, _, rfl, ⟨A.rel.dj, A.rel.env.nt⟩, ar1.nobox nb, hw, fun d v F' q s' dj' r => ?_, fun xx cls d H' hx ex xr => ?_⟩
    · have A2 := A.rel.grow s' dj'
      exact fin (.bl false) (.bl false) q (A.same.trans s') A2.rel A.mr (by simp only [Dr])
    · obtain ⟨rfl, q⟩ := hx
      obtain ⟨C', h1, rfl, h3⟩ := xr
      have h1 : mg cn = some (.ref C') := h1
      rw [hcn] at h1
      cases h1
      have hd : d = none := by
        rcases h3 with h3 | h3
        · exact h3.2
        · exact absurd rfl h3.1
      subst hd
      obtain ⟨F', rfl, s', R'⟩ := A.rel.ext0 ex
      refine ⟨true, hme, fun _ a _ => ⟨⟨rfl, rfl⟩, ?_⟩, fun z => nomatch z⟩
      have hj : j < (L2.start N (.ref f1 :: vs')).length := by
        have := (List.getElem?_eq_some_iff.mp hN).1
        unfold L2.start
        rw [List.length_append, List.length_replicate, List.length_map]
        omega
      refine ⟨.ref a, List.getElem?_set_self hj, ?_⟩
      exact ⟨.ref C, .ref C, true, rfl, fun u r => r, hki, fin (.bl true) (.bl true) q (A.same.trans s') R' A.mr (by simp only [Dr])⟩
end
end DL
namespace DL
open PySem PySem.Spec PyProof.Rows L2
section
variable [Lk] {X : Cx} {e : Expr} {es : List Expr} {t : TA} {wt : WAs} {k : Nat} {f f1 : Addr} {fd : FuncData} {ps : List Str} {x fn : Str} {p pos np : Pos} {wf : WFn}
/-- a call whose first argument is a def of the module -/
theorem de_callF (G : FnOk X.prog X.w X.K X.mg X.base CX0 k f fd ps (spR (cy X) f1 wf)) (hr : Room k X.A) (hg : Gl X x) (hm : X.mg x = some (.ref f)) (hk : PySem.W.keepIn X.K (.ref f) = true) (hb : Binds X.K fd ps []) (hgf : Gl X fn) (hmf : X.mg fn = some (.ref f1))
    (ha : DAs X es t wt) (hdb : (x == ("__debug__" : Str)) = false := by decide) (hdf : (fn == ("__debug__" : Str)) = false := by decide) (he : starEach (.Name fn np :: es) X.env = (false, eval (.Name fn np) X.env) :: starEach es X.env := by rfl) (hpl : (backTo pos (starEach es X.env)).any (·.1) = false := by rfl) :
    DE X (.Call (.Name x p) (.Name fn np :: es) [] pos) (tCall (spR (cy X) f1 wf) [] E0 (tCons (tC (.ref f1)) t)) (wCall wf wt) := ⟨pe_call G hr hg hm hk hb .nil pass0 (pa_cons (pe_glob hgf hmf rfl hdf) ha.pe he) hdb he hpl, fun {b ρ σ F M M0} R Qd Q hw kk => by
  refine ha.sn R _ _ hw fun as ρ1 vs F1 M1 M01 q1 A1 r1 => ?_
  show spR (cy X) f1 wf ((V.ref f1 :: vs) ++ []) _ Q E0
  rw [List.append_nil]
  refine ⟨vs, rfl, b, F1, M1, as, _, rfl, A1.rel.dj, ⟨fun a z => ?_, A1.rel.env.nt⟩, r1, q1, fun d v F' M' q s dj bx mr r => ?_⟩
  · obtain ⟨da, ns, n, h1, h2, h3⟩ := A1.rel.box a z
    exact ⟨da, ns, n, A1.rel.env.sub _ _ h1, h2, h3⟩
  · obtain ⟨M0', A2⟩ := A1.rel.after s dj bx mr
    exact kk d ρ1 v F' M' M0' q (A1.trans A2) r⟩
end
end DL

/-! repr of lists that hold dicts of flat values: only a dict is compared with sys.modules. -/
namespace DL
open PySem PySem.Spec PyProof.Rows L2
section
variable (prog : Program) (w : World) (h₀ : Heap)
/-- v reads as d, and repr shows it so wherever it stands -/
def RepAt (v : Value) (d : PyData) : Prop := ∃ as bs, Reads h₀ v d as ∧ ReadAtMost h₀ d.depth bs ∧ ReprK prog w bs h₀ d.depth v d.shown
def RepsAt : List Value → List PyData → Prop
  | [], [] => True
  | v :: vs, d :: ds => RepAt prog w h₀ v d ∧ RepsAt vs ds
  | _, _ => False
end
section
variable {prog : Program} {w : World} {h₀ : Heap}
theorem RepAt.flat {v : Value} {d : PyData} {as : List Addr} (r : Reads h₀ v d as) (hs : d.showable = true) (hn : d.hasDict = false) (hz : d.shown.length ≤ sizeLine) : RepAt prog w h₀ v d := by
  obtain ⟨bs, h1, h2⟩ := ReprK.of_reads (prog := prog) (w := w) r hs (fun h => by rw [hn] at h; cases h) hz
  exact ⟨as, bs, r, h1, h2⟩
theorem RepsAt.all : ∀ {vs : List Value} {ds : List PyData}, RepsAt prog w h₀ vs ds → ∃ as bs, ReadsAll h₀ vs ds as ∧ ReadAtMost h₀ (PyData.depthAll ds) bs ∧ ReprAllK prog w bs h₀ (PyData.depthAll ds) vs (PyData.shownAll ds)
  | [], [], _ => ⟨[], [], .nil, (fun _ h => nomatch h), by simp only [PyData.shownAll]; exact .nil⟩
  | v :: vs, d :: ds, h => by
    obtain ⟨⟨a1, b1, r1, m1, k1⟩, hr⟩ := h
    obtain ⟨a2, b2, r2, m2, k2⟩ := RepsAt.all hr
    have l1 : d.depth ≤ PyData.depthAll (d :: ds) := by simp only [PyData.depthAll]; exact Nat.le_max_left _ _
    have l2 : PyData.depthAll ds ≤ PyData.depthAll (d :: ds) := by simp only [PyData.depthAll]; exact Nat.le_max_right _ _
    refine ⟨a1 ++ a2, b1 ++ b2, .cons r1 r2, (m1.mono l1).append (m2.mono l2), ?_⟩
    simp only [PyData.shownAll]
    exact .cons ((k1.more fun b hb => List.mem_append_left _ hb).level_le l1) (k2.more_le (fun b hb => List.mem_append_right _ hb) l2)
/-- a list of such things -/
theorem RepAt.list {a : Addr} {o : Obj} {vs : Array Value} {n : Nat} {xs : List PyData} (h1 : h₀.get? a = some o) (h2 : o.cls = .type "list") (h3 : o.data = .seq vs n) (hr : RepsAt prog w h₀ vs.toList xs) : RepAt prog w h₀ (.ref a) (.list xs) := by
  obtain ⟨as, bs, h4, hb, hk⟩ := hr.all
  have r : Reads h₀ (.ref a) (.list xs) (a :: as) := .list h1 h2 h3 h4
  have dp : PyData.depthAll xs < (PyData.list xs).depth := by simp only [PyData.depth]; omega
  have hna := not_mem_of_deeper r dp hb
  refine ⟨_, a :: bs, r, ReadAtMost.cons r (Nat.le_of_lt dp) hb, ?_⟩
  simp only [PyData.depth, PyData.shown]
  obtain ⟨l⟩ := vs
  cases l with
  | nil =>
    cases h4
    simp only [PyData.shownAll, listText_nil]
    exact ReprK.listEmpty h1 h2 h3
  | cons x l => exact ReprK.list h1 h2 h3 hna (by simpa using hk.length_eq) fun i y e => hk.item i y (by simpa using e)
/-- a dict of flat things -/
theorem RepAt.dict {a : Addr} {o : Obj} {es : Array DictEntry} {n : Nat} {kvs : List (PyData × PyData)} (h1 : h₀.get? a = some o) (h2 : o.cls = .type "dict") (h3 : o.data = .dict es n) (hsys : (a == sysModules) = false)
    (hk : RepsAt prog w h₀ (es.toList.map (·.key)) (kvs.map (·.1))) (hv : RepsAt prog w h₀ (es.toList.map (·.val)) (kvs.map (·.2))) : RepAt prog w h₀ (.ref a) (.dict kvs) := by
  obtain ⟨a1, b1, r1, m1, k1⟩ := hk.all
  obtain ⟨a2, b2, r2, m2, k2⟩ := hv.all
  have r : Reads h₀ (.ref a) (.dict kvs) (a :: a1 ++ a2) := .dict h1 h2 h3 r1 r2
  have hb : ReadAtMost h₀ (PyData.depthKv kvs) (b1 ++ b2) := (m1.mono (PyData.depthAll_keys_le kvs)).append (m2.mono (PyData.depthAll_vals_le kvs))
  have dp : PyData.depthKv kvs < (PyData.dict kvs).depth := by simp only [PyData.depth]; omega
  have hna := not_mem_of_deeper r dp hb
  refine ⟨_, a :: (b1 ++ b2), r, ReadAtMost.cons r (Nat.le_of_lt dp) hb, ?_⟩
  simp only [PyData.depth, PyData.shown, PyData.shownKv_eq]
  exact ReprK.dict h1 h2 h3 hsys hna (ReprEntriesK.of_two es.toList _ _ (k1.more_le (fun b hb => List.mem_append_left _ hb) (PyData.depthAll_keys_le kvs)) (k2.more_le (fun b hb => List.mem_append_right _ hb) (PyData.depthAll_vals_le kvs)))
/-- repr(xs) -/
theorem call_repr_list {A : Around} {E : Value → Shared → Prop} {s : Shared} {Q : Value → Shared → Prop} {a : Addr} {o : Obj} {vs : Array Value} {n : Nat} {xs : List PyData} (h1 : h₀.get? a = some o) (h2 : o.cls = .type "list") (h3 : o.data = .seq vs n) (hr : RepsAt prog w h₀ vs.toList xs)
    (hg : A.guards = some []) (hu : A.units + ((PyData.list xs).depth + 1) < cLine) (hk0 : ∀ b o, h₀.get? b = some o → s.heap.get? b = some o) (hz : (PyData.list xs).shown.length ≤ sizeLine)
    (hQ : ∀ h' u tk, (∀ b o, s.heap.get? b = some o → h'.get? b = some o) → Q (.str (PyData.list xs).shown u) { s with heap := h', toks := tk }) : wpAny (model prog w) A (call (.builtin "repr") [.ref a]) Q E s := by
  obtain ⟨as, bs, h4, hb, hk⟩ := hr.all
  have r : Reads h₀ (.ref a) (.list xs) (a :: as) := .list h1 h2 h3 h4
  have dp : PyData.depthAll xs < (PyData.list xs).depth := by simp only [PyData.depth]; omega
  have hna := not_mem_of_deeper r dp hb
  simp only [PyData.depth] at hu
  simp only [PyData.shown] at hQ hz
  have hT : s.TypeIs (.ref a) "list" := ⟨o, hk0 _ _ h1, h2⟩
  refine call_repr_slot (by omega) hT F.slot_list_repr.toG ?_
  obtain ⟨l⟩ := vs
  cases l with
  | nil =>
    cases h4
    simp only [PyData.shownAll, listText_nil] at hQ
    exact call_list_repr_empty hT (hk0 _ _ h1) h3 ⟨_, _, rfl, hQ s.heap _ _ fun _ _ e => e⟩
  | cons x l => exact call_list_reprK h1 h2 h3 hna (by simpa using hk.length_eq) (fun i y e => hk.item i y (by simpa using e)) hg (fun b _ => Clear.nil b) (by show A.units + 1 + _ < cLine; omega) hk0 (fun h' u tk hk' => ⟨_, _, rfl, hQ h' u tk hk'⟩) hz
end
end DL
namespace DL
open PySem PySem.Spec PyProof.Rows L2
/-- keys and flat values as Python data -/
def kP : Key → PyData
  | .inl i => .int i
  | .inr x => .str x
/-- what such a repr shows: numbers, or dicts from keys to numbers -/
inductive It where
  | ns (l : List Int)
  | rows (l : List (List Key × List Int))
def rowPy (r : List Key × List Int) : PyData := .dict ((r.1.map kP).zip (r.2.map PyData.int))
def It.py : It → PyData
  | .ns l => .list (l.map PyData.int)
  | .rows l => .list (l.map rowPy)
def It.d : It → D
  | .ns l => .lst (l.map D.int)
  | .rows l => .lst (l.map fun r => .dk r.1 (r.2.map D.int))
section
variable {prog : Program} {w : World} {h₀ : Heap}
theorem RepAt.int {i : Int} {t : Tok} (h : i.natAbs < 10 ^ 12) : RepAt prog w h₀ (.int i t) (.int i) := by
  have S : Shw (.int i) := .of (by simp only [smD, Bool.and_eq_true, decide_eq_true_eq]; omega) (by simp only [depD]; omega) (by simp only [szD]; omega)
  have e : toPy (.int i) = .int i := by simp only [toPy]
  have h1 := S.sh
  have h2 := S.sz
  rw [e] at h1 h2
  exact RepAt.flat (.int i t) h1 (by simp only [PyData.hasDict]) h2
theorem row_items : ∀ {ps : List (Key × V)} {vs : List (Key × Value)} {es : List DictEntry}, KV ps vs → Pairs (mixKind prog w) es vs → ∀ {ks : List Key} {ns : List Int}, ps.map (·.1) = ks → ps.map (·.2) = ns.map V.int →
    (∀ k ∈ ks, (kP k).showable = true ∧ (kP k).shown.length ≤ 1000) → (∀ x ∈ ns, x.natAbs < 10 ^ 12) →
    RepsAt prog w h₀ (es.map (·.key)) (((ks.map kP).zip (ns.map PyData.int)).map (·.1)) ∧ RepsAt prog w h₀ (es.map (·.val)) (((ks.map kP).zip (ns.map PyData.int)).map (·.2)) := by
  intro ps vs es kv pr
  induction kv generalizing es with
  | nil =>
    cases pr
    intro ks ns e1 e2 _ _
    cases e1
    have : ns = [] := by cases ns with
      | nil => rfl
      | cons _ _ => cases e2
    subst this
    exact ⟨trivial, trivial⟩
  | @cons p q ps qs hq t ih =>
    cases pr with
    | cons hk hv pr =>
      intro ks ns e1 e2 ok on
      cases ns with
      | nil => cases e2
      | cons n ns =>
        subst e1
        rw [List.map_cons, List.map_cons] at e2
        injection e2 with e2 e3
        obtain ⟨i1, i2⟩ := ih pr rfl e3 (fun k h => ok k (List.mem_cons_of_mem _ h)) (fun x h => on x (List.mem_cons_of_mem _ h))
        have okk := ok p.1 (by simp)
        refine ⟨⟨?_, i1⟩, ⟨?_, i2⟩⟩
        · have hk : keyIs q.1 _ = true := hk
          rw [← hq.1] at hk
          rcases keyIs_shape hk with ⟨i, t, e, ev⟩ | ⟨x, t, e, ev⟩
          · have e1 : kP p.1 = .int i := by rw [e]; rfl
            rw [e1] at okk
            show RepAt prog w h₀ (DictEntry.key _) (kP p.1)
            rw [ev, e1]
            exact RepAt.flat (.int i t) okk.1 (by simp only [PyData.hasDict]) (Nat.le_trans okk.2 (by decide))
          · have e1 : kP p.1 = .str x := by rw [e]; rfl
            rw [e1] at okk
            show RepAt prog w h₀ (DictEntry.key _) (kP p.1)
            rw [ev, e1]
            exact RepAt.flat (.str x t) okk.1 (by simp only [PyData.hasDict]) (Nat.le_trans okk.2 (by decide))
        · have hr := hq.2
          rw [e2] at hr
          obtain ⟨t, ht⟩ := hr
          show RepAt prog w h₀ (DictEntry.val _) (.int n)
          rw [hv, ht]
          exact RepAt.int (on n (by simp))
end
end DL

namespace DL
open PySem PySem.Spec PyProof.Rows L2
def It.ok : It → Prop
  | .ns l => ∀ x ∈ l, x.natAbs < 10 ^ 12
  | .rows l => ∀ r ∈ l, (∀ x ∈ r.2, x.natAbs < 10 ^ 12) ∧ ∀ k ∈ r.1, (kP k).showable = true ∧ (kP k).shown.length ≤ 1000
/-- repr of such a list -/
def dReprR : D → (D → Prop) → Prop := fun d Q => ∃ its : List It, d = .lst (its.map It.d) ∧ (∀ it ∈ its, it.ok) ∧
  (PyData.list (its.map It.py)).shown.length ≤ sizeLine ∧ (PyData.list (its.map It.py)).depth ≤ 60 ∧ Q (.str (PyData.list (its.map It.py)).shown)
section
variable {X : Cx} {pins : List (Addr × Obj)} {σ : L2.St} {s : Shared} {c : Cy} {F M : Hp}
theorem row_at (I : Inv X pins σ (HH F M) s) (dj : Dj F M) {v : V} {u : Value} {r : List Key × List Int} (h : Dr c F v (.dk r.1 (r.2.map D.int))) (ru : RelV v u) (on : ∀ x ∈ r.2, x.natAbs < 10 ^ 12) (ok : ∀ k ∈ r.1, (kP k).showable = true ∧ (kP k).shown.length ≤ 1000) :
    RepAt X.prog X.w s.heap u (rowPy r) := by
  simp only [Dr] at h
  obtain ⟨a, ps, rfl, rd, hk, hv⟩ := h
  cases ru
  obtain ⟨_, hsys, vs, kv, o, es, ep, h1, hx, h3, _, pr, _⟩ := dk_rd I.hok (same_rd dj.same rd)
  obtain ⟨i1, i2⟩ := row_items (h₀ := s.heap) kv pr hk hv.ints ok on
  exact RepAt.dict h1 hx.1 h3 hsys i1 i2
theorem reps_of {g : α → D} {py : α → PyData} : ∀ {l : List α} {vs : List V} {us : List Value}, (∀ a ∈ l, ∀ v u, Dr c F v (g a) → RelV v u → RepAt X.prog X.w s.heap u (py a)) → DrL c F vs (l.map g) → Vals vs us → RepsAt X.prog X.w s.heap us (l.map py)
  | [], vs, us, _, h, r => by
    have : vs = [] := h.nil_iff
    subst this
    cases r
    trivial
  | a :: l, vs, us, st, h, r => by
    obtain ⟨v, vr, rfl, q, t⟩ := h.cons_iff
    cases r with
    | cons r1 r2 => exact ⟨st a (by simp) _ _ q r1, reps_of (fun b hb => st b (by simp [hb])) t r2⟩
theorem list_at (I : Inv X pins σ (HH F M) s) (dj : Dj F M) {g : α → D} {py : α → PyData} {l : List α} {v : V} {u : Value} (st : ∀ a ∈ l, ∀ v u, Dr c F v (g a) → RelV v u → RepAt X.prog X.w s.heap u (py a)) (h : Dr c F v (.lst (l.map g))) (ru : RelV v u) :
    ∃ (a : Addr) (o : Obj) (vs : Array Value) (n : Nat), u = .ref a ∧ s.heap.get? a = some o ∧ o.cls = .type "list" ∧ o.data = .seq vs n ∧ RepsAt X.prog X.w s.heap vs.toList (l.map py) := by
  simp only [Dr] at h
  obtain ⟨a, vs, rfl, hF, r⟩ := h
  cases ru
  obtain ⟨its, rv, ⟨o, n, ho, hc, _, hd⟩, _⟩ := I.list (SqL.of (dj.f hF))
  exact ⟨a, o, _, n, rfl, ho, hc, hd, reps_of st r rv⟩
theorem item_at (I : Inv X pins σ (HH F M) s) (dj : Dj F M) {it : It} (ok : it.ok) {v : V} {u : Value} (h : Dr c F v it.d) (ru : RelV v u) : RepAt X.prog X.w s.heap u it.py := by
  cases it with
  | ns l =>
    obtain ⟨a, o, vs, n, rfl, h1, h2, h3, h4⟩ := list_at I dj (g := D.int) (py := PyData.int) (fun x hx v u h r => by
      simp only [Dr] at h
      subst h
      obtain ⟨t, rfl⟩ := r
      exact RepAt.int (ok x hx)) h ru
    exact RepAt.list h1 h2 h3 h4
  | rows l =>
    obtain ⟨a, o, vs, n, rfl, h1, h2, h3, h4⟩ := list_at I dj (g := fun r => .dk r.1 (r.2.map D.int)) (py := rowPy) (fun x hx v u h r => row_at I dj h r (ok x hx).1 (ok x hx).2) h ru
    exact RepAt.list h1 h2 h3 h4
end
section
variable {X : Cx}
/-- the reading of repr for such a list -/
def rReprR (X : Cx) : List V → Hp → VK → Prop := fun xs H Q => ∃ (c : Cy) (F M : Hp) (a : Addr) (vs : List V) (its : List It), xs = [.ref a] ∧ H = HH F M ∧ Dj F M ∧ HH F M a = some (.lst vs) ∧ DrL c F vs (its.map It.d) ∧ (∀ it ∈ its, it.ok) ∧
  (PyData.list (its.map It.py)).shown.length ≤ sizeLine ∧ (PyData.list (its.map It.py)).depth ≤ 60 ∧ Q (.str (PyData.list (its.map It.py)).shown) H
theorem call_reprR (hgd : X.A.guards = some []) (hu : X.A.units + 64 < cLine) : CallR X (.builtin "repr") (rReprR X) := by
  intro pins s σ H xs us Q I r h
  obtain ⟨c, F, M, a, vs, its, rfl, rfl, dj, hH, hd, ok, hz, hdp, q⟩ := h
  obtain ⟨u, rfl, ru⟩ := vals1 r
  cases ru
  obtain ⟨us, rv, ⟨o, n, ho, hc, _, ho2⟩, _⟩ := I.list (SqL.of hH)
  have h4 := reps_of (X := X) (s := s) (py := It.py) (fun it hi v u h r => item_at I dj (ok it hi) h r) hd rv
  exact call_repr_list ho hc ho2 h4 hgd (by omega) (fun _ _ e => e) hz fun h' t tk hk => ⟨.str _, _, I.kept hk, ⟨t, rfl⟩, q⟩
theorem ro1_reprR : Ro1 (cy X) (fun x H Q => rReprR X [x] H Q) dReprR := fun {b F M x d1} Qd Q dj r1 hw k => by
  cases d1 with
  | lst ds =>
    obtain ⟨its, e, ok, hz, hdp, q⟩ := hw
    cases e
    obtain ⟨a, vs, rfl, _, hH, hd⟩ := r1.lst_of
    exact ⟨cy X, F, M, a, vs, its, rfl, rfl, dj, hH, hd, ok, hz, hdp, k _ _ F q (Same.refl _) dj .of_str⟩
  | _ => obtain ⟨its, e, _⟩ := hw; cases e
end
end DL
namespace DL
open PySem PySem.Spec PyProof.Rows L2
theorem int_fit {x : Int} (h : x.natAbs < 10 ^ 12) : (PyData.int x).leavesShort 13 = true ∧ (PyData.int x).weight ≤ 41 := by
  have q := smD_all (.int x) (by simp only [smD, Bool.and_eq_true, decide_eq_true_eq]; omega)
  have e : toPy (.int x) = .int x := by simp only [toPy]
  have q3 := q.2.2.1
  have q4 := q.2.2.2
  have q1 := PyData.leavesShort_of_canLay0 13 _ (okD_lay (.int x) q.1) q3
  rw [e] at q1 q4
  simp only [szD] at q4
  exact ⟨q1, q4⟩
theorem all_fit {α : Type} {py : α → PyData} {B : Nat} : ∀ {l : List α}, (∀ a ∈ l, (py a).leavesShort 13 = true ∧ (py a).weight ≤ B) → PyData.leavesShortAll 13 (l.map py) = true ∧ PyData.weightAll (l.map py) ≤ l.length * (B + 1)
  | [], _ => ⟨by simp only [List.map_nil, PyData.leavesShortAll], by simp only [List.map_nil, PyData.weightAll]; omega⟩
  | a :: l, h => by
    obtain ⟨h1, h2⟩ := h a (by simp)
    obtain ⟨i1, i2⟩ := all_fit (l := l) fun b hb => h b (by simp [hb])
    simp only [List.map_cons, PyData.leavesShortAll, PyData.weightAll, h1, i1, Bool.and_self, List.length_cons, Nat.add_mul, true_and]
    omega
theorem kv_fit : ∀ {ks : List Key} {ns : List Int}, (∀ k ∈ ks, (kP k).leavesShort 13 = true ∧ (kP k).weight ≤ 41) → (∀ x ∈ ns, x.natAbs < 10 ^ 12) →
    PyData.leavesShortKv 13 ((ks.map kP).zip (ns.map PyData.int)) = true ∧ PyData.weightKv ((ks.map kP).zip (ns.map PyData.int)) ≤ ns.length * 84
  | [], ns, _, _ => ⟨by simp only [List.map_nil, List.zip_nil_left, PyData.leavesShortKv], by simp only [List.map_nil, List.zip_nil_left, PyData.weightKv]; omega⟩
  | k :: ks, [], _, _ => ⟨by simp only [List.map_nil, List.zip_nil_right, PyData.leavesShortKv], by simp only [List.map_nil, List.zip_nil_right, PyData.weightKv]; omega⟩
  | k :: ks, n :: ns, hk, hn => by
    obtain ⟨h1, h2⟩ := hk k (by simp)
    obtain ⟨h3, h4⟩ := int_fit (hn n (by simp))
    obtain ⟨i1, i2⟩ := kv_fit (ks := ks) (ns := ns) (fun b hb => hk b (by simp [hb])) fun b hb => hn b (by simp [hb])
    simp only [List.map_cons, List.zip_cons_cons, PyData.leavesShortKv, PyData.weightKv, h1, h3, i1, Bool.and_self, List.length_cons, Nat.add_mul, true_and]
    omega
/-- small enough, with letters as keys -/
def It.small : It → Prop
  | .ns l => l.length ≤ 100 ∧ ∀ x ∈ l, x.natAbs < 10 ^ 12
  | .rows l => l.length ≤ 100 ∧ ∀ r ∈ l, (r.2.length ≤ 10 ∧ ∀ x ∈ r.2, x.natAbs < 10 ^ 12) ∧ ∀ k ∈ r.1, ∃ f : Str, k = .inr f ∧ f.length = 1 ∧ PyData.strOk f = true
theorem letter_fit {f : Str} (h1 : f.length = 1) (h2 : PyData.strOk f = true) : (PyData.str f).showable = true ∧ (PyData.str f).shown.length ≤ 1000 ∧ (PyData.str f).leavesShort 13 = true ∧ (PyData.str f).weight ≤ 41 := by
  have hsz : f.cps.size = 1 := h1
  have q := smD_all (.str f) (by simpa only [smD] using h2)
  have e : toPy (.str f) = .str f := by simp only [toPy]
  have q1 := PyData.leavesShort_of_canLay0 13 _ (okD_lay (.str f) q.1) q.2.2.1
  rw [e] at q1
  have hw : (PyData.str f).weight = 1 := by simp only [PyData.weight]; exact hsz
  have := PyData.shown_le 13 (by decide) (.str f) q1
  rw [hw] at this
  exact ⟨by simp only [PyData.showable], by omega, q1, by omega⟩
theorem It.small.ok : ∀ {it : It}, it.small → it.ok
  | .ns l, h => h.2
  | .rows l, h => fun r hr => ⟨(h.2 r hr).1.2, fun k hk => by
    obtain ⟨f, rfl, h1, h2⟩ := (h.2 r hr).2 k hk
    have := letter_fit h1 h2
    exact ⟨this.1, this.2.1⟩⟩
theorem It.small.fit : ∀ {it : It}, it.small → it.py.leavesShort 13 = true ∧ it.py.weight ≤ 100000
  | .ns l, h => by
    obtain ⟨h1, h2⟩ := all_fit (py := PyData.int) (B := 41) fun x hx => int_fit (h.2 x hx)
    have := Nat.mul_le_mul_right 42 h.1
    simp only [It.py, PyData.leavesShort, PyData.weight, h1, true_and]
    omega
  | .rows l, h => by
    obtain ⟨h1, h2⟩ := all_fit (py := rowPy) (B := 840) (l := l) fun r hr => by
      obtain ⟨⟨a1, a2⟩, a3⟩ := h.2 r hr
      obtain ⟨k1, k2⟩ := kv_fit (ks := r.1) (ns := r.2) (fun k hk => by
        obtain ⟨f, rfl, f1, f2⟩ := a3 k hk
        have := letter_fit f1 f2
        exact ⟨this.2.2.1, this.2.2.2⟩) a2
      have := Nat.mul_le_mul_right 84 a1
      unfold rowPy
      simp only [PyData.leavesShort, PyData.weight, k1, true_and]
      omega
    have := Nat.mul_le_mul_right 841 h.1
    simp only [It.py, PyData.leavesShort, PyData.weight, h1, true_and]
    omega
theorem dep_ints (l : List Int) : PyData.depthAll (l.map PyData.int) = 0 := by
  induction l with
  | nil => simp only [List.map_nil, PyData.depthAll]
  | cons x l ih => simp only [List.map_cons, PyData.depthAll, PyData.depth, ih]; rfl
theorem dep_kv : ∀ (ks : List Key) (ns : List Int), PyData.depthKv ((ks.map kP).zip (ns.map PyData.int)) = 0
  | [], ns => by simp only [List.map_nil, List.zip_nil_left, PyData.depthKv]
  | k :: ks, [] => by simp only [List.map_nil, List.zip_nil_right, PyData.depthKv]
  | k :: ks, n :: ns => by
    have e : (kP k).depth = 0 := by cases k <;> simp only [kP, PyData.depth]
    simp only [List.map_cons, List.zip_cons_cons, PyData.depthKv, PyData.depth, e, dep_kv ks ns]
    rfl
theorem dep_rows (l : List (List Key × List Int)) : PyData.depthAll (l.map rowPy) ≤ 1 := by
  induction l with
  | nil => simp only [List.map_nil, PyData.depthAll]; omega
  | cons r l ih =>
    simp only [List.map_cons, PyData.depthAll]
    have e : (rowPy r).depth = 1 := by unfold rowPy; simp only [PyData.depth, dep_kv]
    omega
theorem dep_its (l : List It) : PyData.depthAll (l.map It.py) ≤ 2 := by
  induction l with
  | nil => simp only [List.map_nil, PyData.depthAll]; omega
  | cons it l ih =>
    simp only [List.map_cons, PyData.depthAll]
    have e : it.py.depth ≤ 2 := by
      cases it with
      | ns x => simp only [It.py, PyData.depth, dep_ints]; omega
      | rows x => have := dep_rows x; simp only [It.py, PyData.depth]; omega
    omega
theorem dReprR_of {its : List It} {Q : D → Prop} (h : ∀ it ∈ its, it.small) (hl : its.length ≤ 6) (q : Q (.str (PyData.list (its.map It.py)).shown)) : dReprR (.lst (its.map It.d)) Q := by
  have hd : (PyData.list (its.map It.py)).depth ≤ 60 := by have := dep_its its; simp only [PyData.depth]; omega
  refine ⟨its, rfl, fun it hi => (h it hi).ok, ?_, hd, q⟩
  obtain ⟨h1, h2⟩ := all_fit (py := It.py) (B := 100000) fun it hi => (h it hi).fit
  have := Nat.mul_le_mul_right 100001 hl
  refine PyData.shown_fits (B := 13) (by decide) (by decide) (by simp only [PyData.leavesShort]; exact h1) ?_
  have e : (2 : Nat) ^ 20 = 1048576 := by decide
  simp only [PyData.weight]
  omega
end DL

/-! {k: v for x in xs if ..}: a new own dict. -/
namespace DL
open PySem PySem.Spec PyProof.Rows L2
variable [Lk]
def wDcL (vs : List Nat) (wg : WG) (wt : WT) (wk wv : WE) : List D → List Sl → List Key → List D → (List Key → List D → List Sl → Prop) → Prop
  | [], ρ, ks, acc, Q => Q ks acc ρ
  | d :: ds, ρ, ks, acc, Q => wg d ρ fun ρ1 => wt ρ1 fun k ρ2 => match k with
    | true => wk ρ2 fun dk ρ3 => wv ρ3 fun y ρ4 => ∃ key, keyD dk = some key ∧ noOwnB ρ4 vs = true ∧ wDcL vs wg wt wk wv ds (wipeD ρ4 vs) (putA ks acc key y).1 (putA ks acc key y).2 Q
    | false => noOwnB ρ2 vs = true ∧ wDcL vs wg wt wk wv ds (wipeD ρ2 vs) ks acc Q
def wDc (vs : List Nat) (wi : WA) (wg : WG) (wt : WT) (wk wv : WE) : List Sl → (Sl → List Sl → Prop) → Prop := fun ρ Q => wi ρ fun ds ρ1 => ds.length ≤ sizeLine ∧ noOwnB ρ1 vs = true ∧
  wDcL vs wg wt wk wv ds (wipeD ρ1 vs) [] [] fun ks acc ρ2 => noOwnB ρ2 vs = true ∧ Q (.ok ks acc) (wipeD ρ2 vs.reverse)
section
variable {c : Cy}
theorem snf_dc_at {c : Cy} {vs : List Nat} {wi : TI} {g : TG} {tt : TT} {tk tv : TE} {w : WA} {wg : WG} {wt : WT} {wk wv : WE} {is : List Nat} (his : ∀ i ∈ is, i ∈ vs) {b : Option Addr} {ρ : List Sl} {σ : L2.St} {F M M0 : Hp} (R : Rel c b ρ σ F M M0) (hi : SniAt c wi w b ρ σ F M M0) (hg : Sng c g wg is) (ht : Snt c tt wt) (hkk : Snd c tk wk) (he : Snd c tv wv)
    (Qd : Sl → List Sl → Prop) (Q : VK) (hw : wDc vs w wg wt wk wv ρ Qd) (k : ∀ sl ρ' a o F' M' M0', Qd sl ρ' → Aft c b F M M0 ρ' σ F' M' M0' → isShal sl → ObR c F' sl o → F' a = none → M' a = none → Q (.ref a) (HH F' (upd M' a o))) : tDc wi g tt tk tv vs σ (HH F M) Q := by
  refine hi _ _ hw fun ds ρ1 J F1 M1 M01 q A it => ?_
  obtain ⟨hlen, hno, q⟩ := q
  intro p hp
  obtain ⟨hpf, hpm⟩ := hh_none hp
  have nbp : b ≠ some p := fun e => by
    obtain ⟨_, _, _, h1, _⟩ := A.rel.box p e
    rw [A.rel.env.sub _ _ h1] at hpm; cases hpm
  refine ⟨fun i m H' => m = ds.length - i ∧ i ≤ ds.length ∧ ∃ (ρ' : List Sl) (F' M' M0' : Hp) (ks : List Key) (acc : List D) (us : List (Key × V)), H' = HH F' (upd M' p (.dK us)) ∧ F' p = none ∧ M' p = none ∧ Same F1 F' ∧ Ext b (HH F1 M1) (HH F' M') ∧
      Rel c b ρ' (L2.wipe σ vs) F' M' M0' ∧ MR b M01 M0' ∧ us.map (·.1) = ks ∧ DrL c F' (us.map (·.2)) acc ∧ us.length ≤ i ∧ wDcL vs wg wt wk wv (ds.drop i) ρ' ks acc fun ks acc ρ2 => noOwnB ρ2 vs = true ∧ Qd (.ok ks acc) (wipeD ρ2 vs.reverse), ⟨ds.length, by simp, Nat.zero_le _, wipeD ρ1 vs, F1, M1, M01, [], [], [], hh_updM, hpf, hpm, Same.refl _, Ext.refl _ _,
      ⟨A.rel.dj, A.rel.env.wipe (noOwn_of hno), A.rel.box, A.rel.lk⟩, MR.refl _ _, rfl, .nil, Nat.zero_le _, q⟩, ?_⟩
  rintro i m H' ⟨rfl, hil, ρ', F', M', M0', ks, acc, us, rfl, fp, mp, s, x, R', mr, ek, dr, hal, hw'⟩
  by_cases hlt : i < ds.length
  · have ed : ds.drop i = ds[i] :: ds.drop (i + 1) := List.drop_eq_getElem_cons hlt
    rw [ed] at hw'
    have hd : ds[i]? = some ds[i] := List.getElem?_eq_getElem hlt
    have L := R'.lay (o := .dK us) fp mp
    refine .inr ⟨((it F' _ s L.dj L.env.nt i).1 _ hd).1, fun H2 => i + 1 ≤ ds.length ∧ ∃ (ρ' : List Sl) (F' M' M0' : Hp) (ks : List Key) (acc : List D) (us : List (Key × V)), H2 = HH F' (upd M' p (.dK us)) ∧ F' p = none ∧ M' p = none ∧ Same F1 F' ∧ Ext b (HH F1 M1) (HH F' M') ∧
      Rel c b ρ' (L2.wipe σ vs) F' M' M0' ∧ MR b M01 M0' ∧ us.map (·.1) = ks ∧ DrL c F' (us.map (·.2)) acc ∧ us.length ≤ i + 1 ∧ wDcL vs wg wt wk wv (ds.drop (i + 1)) ρ' ks acc fun ks acc ρ2 => noOwnB ρ2 vs = true ∧ Qd (.ok ks acc) (wipeD ρ2 vs.reverse), fun H2 n2 => ⟨ds.length - (i + 1), by omega, rfl, n2.1, n2.2⟩, fun y H3 hy => ?_⟩
    obtain ⟨F3, rfl, s3, dj3, r3⟩ := ((it F' _ s L.dj L.env.nt i).1 _ hd).2 y H3 hy
    have A3 := L.grow s3 dj3
    -- what is to be shown of any later state
    have back : ∀ {F4 M4 M04 : Hp} {ρ4 : List Sl}, Same F' F4 → Ext b (HH F' (upd M' p (.dK us))) (HH F4 M4) → Rel c b ρ4 (L2.wipe σ vs) F4 M4 M04 → MR b (upd M0' p (.dK us)) M04 →
        M4 p = some (.dK us) ∧ F4 p = none ∧ Same F1 F4 ∧ Ext b (HH F1 M1) (HH F4 (del M4 p)) ∧ Rel c b ρ4 (L2.wipe σ vs) F4 (del M4 p) (del M04 p) ∧ MR b M01 (del M04 p) := fun {F4 M4 M04 ρ4} s4 x4 R4 m4 => by
      have e0 : M04 p = some (.dK us) := by rw [m4 p nbp, upd_same]
      have e1 := R4.env.sub _ _ e0
      have e2 := R4.dj _ _ e1
      have mr' : MR b M01 (del M04 p) := fun a na => by
        by_cases e : a = p
        · subst e
          rw [del_same]
          cases z : M01 a with
          | none => rfl
          | some u => rw [A.rel.env.sub _ _ z] at hpm; cases hpm
        · rw [del_ne e, m4 a na, upd_ne e, mr a na]
      refine ⟨e1, e2, s.trans s4, fun a o na qa => ?_, R4.unlay e0 nbp (A.rel.lkM (s.trans s4) mr'), mr'⟩
      have nap : a ≠ p := fun z => by rw [z, hp] at qa; cases qa
      have q1 : HH F' (upd M' p (.dK us)) a = some o := by rw [← hh_updM, upd_ne nap]; exact x a o na qa
      have q2 := x4 a o na q1
      rcases hh_some q2 with z | ⟨z1, z2⟩
      · exact hh_m (by rw [del_ne nap]; exact z)
      · rw [hh_n (by rw [del_ne nap]; exact z1)]; exact z2
    refine hg A3.rel r3 _ _ hw' fun ρ4 σ4 F4 M4 M04 q4 s4 x4 R4 m4 wz => ⟨(wz vs his).trans (wipe_idem σ vs), ?_⟩
    refine ht R4 _ _ q4 fun kk ρ5 F5 M5 M05 q5 A5 => ?_
    have sA := (s3.trans s4).trans A5.same
    have xA := (A3.ext.trans x4).trans A5.ext
    have mA := m4.trans A5.mr
    -- the slots of the block are forgotten
    have wr : ∀ {F6 M6 M06 : Hp} {ρ6 : List Sl}, Rel c b ρ6 σ4 F6 M6 M06 → noOwnB ρ6 vs = true → Rel c b (wipeD ρ6 vs) (L2.wipe σ vs) F6 M6 M06 := fun {F6 M6 M06 ρ6} R6 n6 => by
      have t := R6.env.wipe (noOwn_of n6)
      have e : L2.wipe σ4 vs = L2.wipe σ vs := by
        exact (wz vs his).trans (wipe_idem σ vs)
      rw [e] at t
      exact ⟨R6.dj, t, R6.box, R6.lk⟩
    cases kk with
    | true =>
      rw [if_pos rfl]
      refine hkk A5.rel _ _ q5 fun dk ρ6 y6 F6 M6 M06 q6 A6 r6 => ?_
      refine he A6.rel _ _ q6 fun d ρ7 z F7 M7 M07 q7 A7 r7 => ?_
      obtain ⟨key, hkey, hno7, q7⟩ := q7
      have A67 := A6.trans A7
      obtain ⟨e1, e2, b3, b4, b5, b6⟩ := back (sA.trans A67.same) (xA.trans A67.ext) (wr A7.rel hno7) (mA.trans A67.mr)
      obtain ⟨p1, p2⟩ := putK_A (k := key) (dr.up (sA.trans A67.same)) r7
      refine ⟨us, key, keyD_v hkey r6, hh_m e1, by omega, hlt, wipeD ρ7 vs, F7, del M7 p, del M07 p, _, _, putK us key z, ?_, e2, del_same, b3, b4, b5, b6, p1, p2, ?_, ?_⟩
      · rw [hh_updM, upd_del]
      · unfold putK
        split
        · rw [List.length_map]; omega
        · rw [List.length_append, List.length_singleton]; omega
      · rw [ek]; exact q7
    | false =>
      rw [if_neg Bool.false_ne_true]
      obtain ⟨e1, e2, b3, b4, b5, b6⟩ := back sA xA (wr A5.rel q5.1) mA
      refine ⟨hlt, wipeD ρ5 vs, F5, del M5 p, del M05 p, ks, acc, us, ?_, e2, del_same, b3, b4, b5, b6, ek, dr.up sA, by omega, q5.2⟩
      rw [upd_del, upd_self e1]
  · have e : i = ds.length := by omega
    subst e
    rw [List.drop_length] at hw'
    refine .inl ⟨(it F' _ s (R'.dj.updM fp) (R'.lay (o := .dK us) fp mp).env.nt _).2 rfl, ?_⟩
    obtain ⟨hn2, hq⟩ := hw'
    obtain ⟨ρ2, e2, t2⟩ := R'.env.unwipe (noOwn_of hn2)
    subst e2
    exact k _ _ p _ F' M' M0' hq ⟨A.same.trans s, A.ext.trans x, ⟨R'.dj, t2, R'.box, R'.lk⟩, A.mr.trans mr⟩ trivial ⟨us, rfl, ek, dr⟩ fp mp
end
section
variable {X : Cx}
theorem df_dc {kx vx tg iter : Expr} {ifs : List Expr} {scope : Scope} {own : List (Str × Nat)} {pos : Pos} {wi : TI} {g : TG} {tt : TT} {tk tv : TE} {w : WA} {wg : WG} {wt : WT} {wk wv : WE} {is : List Nat} (hc : X.calm = true) (hN : X.N.Nodup) (hi : DI X tg iter wi w) (ok : BlkOk X.N X.env.scope scope own)
    (hg0 : DG (X.blk {} (fun _ => none) scope (compEnvC scope [] 0 X.env) []) tg g wg is) (ht0 : DTs (X.blk {} (fun _ => none) scope (compEnvC scope [] 0 X.env) []) ifs tt wt) (hk0 : DE (X.blk {} (fun _ => none) scope (compEnvC scope [] 0 X.env) []) kx tk wk) (he0 : DE (X.blk {} (fun _ => none) scope (compEnvC scope [] 0 X.env) []) vx tv wv)
    (hg : ∀ (s : Shared) (H : Hp) (C : Addr) (cl : List (Str × Addr)) (fp : List Addr), DG (X.blk s H scope (compEnvC scope cl C X.env) fp) tg g wg is) (ht : ∀ (s : Shared) (H : Hp) (C : Addr) (cl : List (Str × Addr)) (fp : List Addr), DTs (X.blk s H scope (compEnvC scope cl C X.env) fp) ifs tt wt)
    (hk : ∀ (s : Shared) (H : Hp) (C : Addr) (cl : List (Str × Addr)) (fp : List Addr), DE (X.blk s H scope (compEnvC scope cl C X.env) fp) kx tk wk) (he : ∀ (s : Shared) (H : Hp) (C : Addr) (cl : List (Str × Addr)) (fp : List Addr), DE (X.blk s H scope (compEnvC scope cl C X.env) fp) vx tv wv) (his : ∀ i ∈ is, i ∈ own.map (·.2) := by decide) (hs : ∀ x, foldedSetIterable iter X.env x = pure x := by intro _; rfl) :
    DF X (.DictComp kx vx [⟨tg, iter, ifs, 0⟩] scope pos) (tDc wi g tt tk tv (own.map (·.2))) (wDc (own.map (·.2)) w wg wt wk wv) :=
  ⟨pe_dc hc hN hi.pi ok (fun s H C cl fp => (hg s H C cl fp).pg) (fun s H C cl fp => (ht s H C cl fp).pe) (fun s H C cl fp => (hk s H C cl fp).pe) (fun s H C cl fp => (he s H C cl fp).pe) hs,
    fun {b ρ σ F M M0} R Qd Q hw k => snf_dc_at (c := cy X) his R (hi.sn R) hg0.sn ht0.sn hk0.sn he0.sn Qd Q hw k⟩
end
theorem zy {vs : List Nat} {wi : WA} {wg : WG} {wt : WT} {wk wv : WE} {ρ : List Sl} {Q : Sl → List Sl → Prop} : wDc vs wi wg wt wk wv ρ Q = wi ρ fun ds ρ1 => ds.length ≤ sizeLine ∧ noOwnB ρ1 vs = true ∧
  wDcL vs wg wt wk wv ds (wipeD ρ1 vs) [] [] fun ks acc ρ2 => noOwnB ρ2 vs = true ∧ Q (.ok ks acc) (wipeD ρ2 vs.reverse) := rfl
section
variable {X : Cx} {o e : Expr} {es : List Expr} {te : TE} {t : TA} {w : WE} {wt : WAs} {pos apos : Pos} {k : Nat} {f C : Addr} {fd : FuncData} {ps : List Str} {n m : Str}
/-- o.m(e, ..), o shared -/
theorem de_methA {wf : WFn} {pl : Sem Bool} (G : FnOk X.prog X.w X.K X.mg X.base CX0 k f fd ps (spF (cy X) wf)) (hr : Room k X.A) (hn : X.mg n = some (.ref C)) (hc : Cls X.K C) (hm : Meth X.K C m f) (hb : Binds X.K fd ps []) (he : DE X o te w) (ha : DAs X (e :: es) t wt)
    (hst : starEach (e :: es) X.env = (false, eval e X.env) :: starEach es X.env := by rfl) (hpl : (backTo pos (starEach es X.env)).any (·.1) = false := by rfl)
    (ht : eval (.Call (.Attribute o m apos) (e :: es) [] pos) X.env = (do
      let ov ← eval o X.env
      standAt apos.atName
      let (f, first) ← holding [ov] (getMethod ov m pl)
      callWith pos f first (backTo pos (starEach (e :: es) X.env)) (backToKw pos (keywordEach [] X.env))) := by rfl) :
    DE X (.Call (.Attribute o m apos) (e :: es) [] pos) (tMeth C m (spF (cy X) wf) [] E0 te t) (wMeth n m wf w wt) := ⟨pe_meth he.pe hc hm G hr hb .nil pass0 ha.pe hst hpl ht, snd_meth hn he.sn ha.sn⟩
end
end DL

/-! An exception's own __init__ that begins with super().__init__(e). -/
namespace DL
open PySem PySem.Spec PyProof.Rows L2
/-- names of a def with the cell __class__ -/
structure FnScopeS (N P : List Str) (sc : Scope) : Prop where
  kind : sc.kind = .function
  co : sc.isCoroutine = false
  gen : sc.isGenerator = false
  nd : N.Nodup
  pre : N.take P.length = P
  par : ∀ x ∈ P, sc.names.lookup x = some .local
  nocell : ∀ y ∈ sc.names, y.2 ≠ .cell
  free : ∀ y ∈ sc.names, y.2 = .free → y.1 = "__class__"
  sup : sc.names.lookup ("super" : Str) = some .globalImplicit
  cls : sc.names.lookup ("__class__" : Str) = some .free
/-- what is known of the def's function object -/
structure SupFn (P : Program) (K : PySem.W.Frag) (mg : Str → Option Value) (D cc f : Addr) (cdv : Value) (fd : FuncData) (p0 : Str) : Prop where
  fn : ∃ oc od osl, K.lookup f = some ⟨oc, od, .func fd, osl⟩
  hd : ∃ ar, (fd.params.posonlyargs ++ fd.params.args).head? = some ar ∧ ar.arg = p0
  code : ∃ cda ccl cdd vs ccs file tf, cdv = .ref cda ∧ K.lookup cda = some ⟨ccl, cdd, .fields vs, ccs⟩ ∧ vs[2]? = some (.str file tf) ∧ ((P.main.file : Str) == file) = true
  cell : ∃ cl cld csl, K.lookup cc = some ⟨cl, cld, .cell (some (.ref D)), csl⟩
  cD : ∃ cdD, PySem.W.clsIn K D = some cdD
  sp : mg "super" = none
  tp : PySem.W.nsIn K cStatics "thirdparty.any" = some none
  top : (P.main.scope.names.lookup ("super" : Str)).isSome = false
/-- what is known of the class that is made -/
structure SupC (K : PySem.W.Frag) (C D : Addr) : Prop where
  ox : OexC K C
  sub : PySem.W.mroIn K C (.ref D) = some true
  ve : PySem.W.subIn K (.ref C) (.type "ValueError") = some true
  ini : PySem.W.ks_superIn K C D "__init__" = some (some (.builtin "ValueError.__init__"))
theorem lookup_rev_zip {x : Str} {u : Value} : ∀ {ps : List Str} {us : List Value} {i : Nat}, ps.Nodup → ps[i]? = some x → us[i]? = some u → (ps.zip us).reverse.lookup x = some u
  | [], _, _, _, h, _ => by simp at h
  | _ :: _, [], _, _, _, h => by simp at h
  | p :: ps, w :: us, 0, nd, h1, h2 => by
    simp at h1 h2
    subst h1; subst h2
    have hn : (ps.zip us).reverse.lookup p = none := by
      rw [List.lookup_eq_none_iff]
      intro q hq
      have := (List.of_mem_zip (List.mem_reverse.mp hq)).1
      simp only [bne_iff_ne, ne_eq, beq_iff_eq]
      intro e
      have e' : p = q.1 := by simpa using e
      exact (List.nodup_cons.mp nd).1 (e' ▸ this)
    rw [List.zip_cons_cons, List.reverse_cons, List.lookup_append, hn]
    simp [List.lookup]
  | p :: ps, w :: us, i + 1, nd, h1, h2 => by
    rw [List.zip_cons_cons, List.reverse_cons, List.lookup_append, lookup_rev_zip (i := i) (List.nodup_cons.mp nd).2 (by simpa using h1) (by simpa using h2)]
    rfl
theorem start_get {N : List Str} {vs : List V} {i : Nat} {v : V} (h : (L2.start N vs)[i]? = some (some v)) : vs[i]? = some v := by
  simp only [L2.start, List.getElem?_append, List.length_map] at h
  split at h
  · simpa using h
  · simp [List.getElem?_replicate] at h
/-- the context of such a def's body -/
def cxSup (P : Program) (w : World) (K : PySem.W.Frag) (mg : Str → Option Value) (base : Heap) (N : List Str) (qual : Str) (scope : Scope) (f cc : Addr) (cd : Value) (A : Around) (outer : List Env) (s : Shared) (H : Hp) : Cx where
  prog := P
  w := w
  K := K
  mg := mg
  base := base
  A := A.deeper (PySem.W.ksEnv qual scope s.heap.objs.size f cd cc)
  N := N
  s_0 := s
  H_0 := H
  env := PySem.W.ksEnv qual scope s.heap.objs.size f cd cc
  outer := outer
  stack := PySem.W.ksEnv qual scope s.heap.objs.size f cd cc :: outer
  ex := []
  calm := true
  fn := fun x => x != "__class__"
  pn := []
  xe := fun _ _ => False
theorem inv_sup {P : Program} {w : World} {K : PySem.W.Frag} {mg : Str → Option Value} {base : Heap} {N ps : List Str} {qual : Str} {scope : Scope} {f cc D : Addr} {cd : Value} {A : Around} {outer : List Env} {s : Shared} {H : Hp} {us : List Value} {vs : List V} {h1 : Heap} {tk : Nat}
    (S : FnScopeS N ps scope) (hd : A.handled = none) (e0 : Env0 P w K mg base A outer s H) (hl : vs.length = ps.length) (r : Vals vs us) (hc : ∃ cl cld csl, K.lookup cc = some ⟨cl, cld, .cell (some (.ref D)), csl⟩)
    (hn : h1.Ns s.heap.objs.size (fun x => (ps.zip us).reverse.lookup x)) (hk : ∀ b o, s.heap.get? b = some o → h1.get? b = some o) :
    Inv (cxSup P w K mg base N qual scope f cc cd A outer s H) [] (L2.start N vs) H { s with heap := h1, toks := tk } := by
  have hpl : ps.length ≤ N.length := by have := congrArg List.length S.pre; rw [List.length_take] at this; omega
  obtain ⟨cl, cld, csl, hcell⟩ := hc
  have bc := e0.bs _ _ (e0.mod.kin _ _ hcell)
  have noA : ∀ b : Addr, b ∉ (cxSup P w K mg base N qual scope f cc cd A outer s H).ex := fun b z => absurd (show b ∈ ([] : List Addr) from z) (by simp)
  have lk : ∀ y c, (cxSup P w K mg base N qual scope f cc cd A outer s H).env.cells.lookup y = some c → y = "__class__" ∧ c = cc := fun y c h => by
    have h : List.lookup y [(("__class__" : Str), cc)] = some c := h
    by_cases e : y = "__class__"
    · subst e
      simp [List.lookup] at h
      exact ⟨rfl, h.symm⟩
    · have e' : (y == ("__class__" : Str)) = false := by simpa using e
      simp [List.lookup, e'] at h
  refine ⟨⟨e0.mod, S.kind, rfl, rfl, Nat.le_refl _, fun y z c h1 h2 => ?_, fun y hy => ?_, fun y c hf h => ?_, fun _ => hd, Around.frames_deeper e0.frames, .inr ⟨rfl, rfl⟩, fun b z => absurd z (noA b), e0.bs, e0.bsz, fun b _ _ => noA b, fun b z => absurd z (noA b), e0.funs, e0.frf⟩,
    rfl, e0.bare, Un.kept hk, ⟨_, hn, fun i y v h1 h2 h3 => ?_⟩, fun y c h => ?_, e0.hok.fresh (Nat.le_refl _), fun y c h => ?_, fun p hp => absurd (show p ∈ ([] : List (Addr × Obj)) from hp) (by simp), e0.hok.kept hk, ?_⟩
  · rw [(lk _ _ h1).1, (lk _ _ h2).1]
  · have hy : scope.names.lookup y = some .cell ∨ scope.names.lookup y = some .free := hy
    rcases hy with hy | hy
    · exact absurd rfl (S.nocell _ (PySem.mem_of_lookup hy))
    · have e := S.free _ (PySem.mem_of_lookup hy) rfl
      have e : y = "__class__" := e
      subst e
      exact ⟨cc, by show List.lookup _ [(("__class__" : Str), cc)] = _; simp [List.lookup]⟩
  · obtain ⟨rfl, _⟩ := lk _ _ h
    have hf : ((("__class__" : Str) != "__class__") = true) := hf
    simp at hf
  · have ha := start_get h2
    have hi := (List.getElem?_eq_some_iff.mp ha).1
    obtain ⟨u, hu, rv⟩ := r.get ha
    have hp : ps[i]? = some y := by
      rw [← S.pre, List.getElem?_take_of_lt (by omega)]; exact h1
    have ndP : ps.Nodup := by rw [← S.pre]; exact S.nd.sublist (List.take_sublist _ _)
    exact ⟨u, rv, .inl ⟨S.par y (List.mem_of_getElem? hp), lookup_rev_zip ndP hp hu⟩⟩
  · obtain ⟨_, rfl⟩ := lk _ _ h
    exact ⟨_, _, hk _ _ bc.1, rfl⟩
  · obtain ⟨_, rfl⟩ := lk _ _ h
    exact bc.2
  · unfold L2.start
    show _ = N.length
    rw [List.length_append, List.length_map, List.length_replicate]
    omega

/-! ### the wrapper is called -/
section
open PySem.W
variable {prog : Program} {w : World} {A : Around} {E : Value → Shared → Prop} {h : Heap} {g : Array GenState} {d : Drawn} {t : Nat} {os : OsState}
variable {nm q : Str} {C N : Addr} {bs bm : List Value} {hdct : Bool} {sn : List Str} {sub : List Value} {ab : Bool} {col : Option Bool} {dd : Option Addr} {k0 k1 k2 k3 k5 : Option Value}
theorem call_wrapped {u e t0 : Addr} {rest : List Value} {Q : Value → Shared → Prop} (hT : HandSPX.refsVE bm = true)
    (hC : h.get? C = some (excClassObj nm q C N bs bm hdct sn sub ab col dd k0 k1 k2 k3 k5 "ValueError.__new__")) (he : h.get? e = some (HandSPX.excO C t0)) (hu : h.get? u = some (kxs_mw "ValueError.__init__" e)) (hrest : rest.length ≤ sizeLine)
    (hq : ∀ h' t1, (∀ b o, b ≠ e → h.get? b = some o → h'.get? b = some o) → h'.get? e = some (HandSPX.excO C t1) → Q .none ⟨h', g, d, t, os⟩) :
    wpAny (model prog w) A (call (.ref u) rest) Q E ⟨h, g, d, t, os⟩ := by
  refine wpAny_call (codeAny_of_tree ?_)
  show wpAny _ A.in1 (callAny (.ref u) ⟨rest, []⟩) _ _ _
  simp only [callAny]
  refine wpAny_bind (wpAny_load hu ?_)
  simp only [kxs_mw, show (Value.type "method-wrapper" == Value.type "method" || Value.type "method-wrapper" == Value.type "builtin_function_or_method" || Value.type "method-wrapper" == Value.type "method-wrapper") = true by decide, if_true]
  refine KFB.if_so (by decide) ?_
  refine wpAny_bind (ESX.check_bound F.excBase_ValueError hC he rfl ?_)
  refine wpAny_bind (wpAny_pure (wpAny_pure ?_))
  refine ⟨Code.quiet_builtin _ (by decide +kernel), codeAny_builtin F.excBase_ValueError.initEntry ?_⟩
  rw [Around.under_plainId F.excBase_ValueError.init.plain _]
  wp_walk
  refine hq _ h.objs.size (fun b o hb ho => ?_) ?_
  · rw [Heap.get?_update_other _ _ (Ne.symm hb)]
    exact Heap.get?_push_of_some _ ho
  · rw [Heap.get?_update_self _ (Heap.get?_push_of_some _ he) rfl]
    rfl
end
/-- super().__init__(e, ..), then the rest -/
def tSup (K : PySem.W.Frag) (D : Addr) (ta : TA) (tr : TS) : TS := fun Dn σ H => ∃ a C : Addr, σ[0]? = some (some (.ref a)) ∧ SupC K C D ∧ H a = some (exo a C none) ∧
  ta σ H fun ws H1 => ws.length ≤ 1000 ∧ H1 a = some (exo a C none) ∧ tr Dn σ H1
theorem fn_sup {P : Program} {w : World} {K : PySem.W.Frag} {mg : Str → Option Value} {base : Heap} {k : Nat} {f cc D : Addr} {name qual x0 : Str} {params : Arguments} {scope : Scope} {dV kV doc pm cdv ct oc : Value} {an od : Option Addr} {osl : Array (Option Value)} {N ps : List Str} {sp : Sp}
    {e : Expr} {es : List Expr} {rest : List Stmt} {p0 p1 p2 p3 p4 : Pos} {ta : TA} {tr : TS} (S : FnScopeS N ps scope)
    (lk : K.lookup f = some ⟨oc, od, .func (PySem.W.ksFn name qual params (.Expr (.Call (.Attribute (.Call (.Name "super" p0) [] [] p1) "__init__" p2) (e :: es) [] p3) p4 :: rest) scope dV kV doc pm an cdv ct cc), osl⟩)
    (sf : SupFn P K mg D cc f cdv (PySem.W.ksFn name qual params (.Expr (.Call (.Attribute (.Call (.Name "super" p0) [] [] p1) "__init__" p2) (e :: es) [] p3) p4 :: rest) scope dV kV doc pm an cdv ct cc) x0)
    (hx0 : ps[0]? = some x0) (hcd : PySem.W.codeIn K cdv qual = true) (len : ∀ vs H Q E, sp vs H Q E → vs.length = ps.length)
    (hswap : ∀ env, swapsWith (.Call (.Attribute (.Call (.Name "super" p0) [] [] p1) "__init__" p2) (e :: es) [] p3) none p4.line env = pure false)
    (hev : ∀ (env : Env), ∃ pl, eval (.Call (.Attribute (.Call (.Name "super" p0) [] [] p1) "__init__" p2) (e :: es) [] p3) env = (do
      let ov ← attributeBase (.Call (.Name "super" p0) [] [] p1) "__init__" env (eval (.Call (.Name "super" p0) [] [] p1) env)
      standAt p2.atName
      let (f, first) ← holding [ov] (getMethod ov "__init__" pl)
      callWith p3 f first (backTo p3 (starEach (e :: es) env)) []))
    (hst : ∀ env, starEach (e :: es) env = (false, eval e env) :: starEach es env) (hpl : ∀ env, (backTo p3 (starEach es env)).any (·.1) = false)
    (hbody : ∀ (A : Around) (outer : List Env) (s : Shared) (H : Hp), Room k (A.deeper (PySem.W.ksEnv qual scope s.heap.objs.size f cdv cc)) →
      PA (cxSup P w K mg base N qual scope f cc cdv A outer s H) (e :: es) ta ∧ PSs (cxSup P w K mg base N qual scope f cc cdv A outer s H) rest tr)
    (hsp : ∀ vs H Q E, sp vs H Q E → tSup K D ta tr { nx := fun _ H' => Q .non H', rt := Q } (L2.start N vs) H) :
    FnOk P w K mg base CX0 (k + 1) f (PySem.W.ksFn name qual params (.Expr (.Call (.Attribute (.Call (.Name "super" p0) [] [] p1) "__init__" p2) (e :: es) [] p3) p4 :: rest) scope dV kV doc pm an cdv ct cc) ps sp := by
  refine ⟨len, fun A outer s H args us vs Q E hr e0 hb r hq => ?_⟩
  have hl := len _ _ _ _ hq
  have KX : K.In s.heap := e0.mod.kin.keeps fun b o e => (e0.bs b o e).1
  have lim : s.heap.NoLimit := e0.mod.nolimit.keeps fun b o e => (e0.bs b o e).1
  refine ks_codeAny_call_defAt (fd := PySem.W.ksFn name qual params (.Expr (.Call (.Attribute (.Call (.Name "super" p0) [] [] p1) "__init__" p2) (e :: es) [] p3) p4 :: rest) scope dV kV doc pm an cdv ct cc) (binds := ps.zip us) hr.depth (KX _ _ lk) rfl lim (PySem.W.codeRec_of KX hcd) rfl hb S.nocell
    (fun y hy => S.par _ (List.of_mem_zip hy).1) (fun h₁ hns hk₁ => ?_) S.co S.gen S.kind
  have I : Inv (cxSup P w K mg base N qual scope f cc cdv A outer s H) [] (L2.start N vs) H { s with heap := h₁, toks := s.toks + (ps.zip us).length } := inv_sup S hr.hd e0 hl r sf.cell hns hk₁
  obtain ⟨pa, pr⟩ := hbody A outer s H (hr.deeper _)
  refine ks_wpAt_mono (Q := SP (cxSup P w K mg base N qual scope f cc cdv A outer s H) [] { nx := fun _ H' => Q .non H', rt := Q }) (E := fun _ _ => False) ?_ (fun fl s' hs => ?_) fun _ _ z => z.elim
  · show PySem.wpAt (model P w) (A.deeper (PySem.W.ksEnv qual scope s.heap.objs.size f cdv cc)) (.func _ (PySem.W.ksEnv qual scope s.heap.objs.size f cdv cc)) (execs _ (PySem.W.ksEnv qual scope s.heap.objs.size f cdv cc)) _ _ _
    obtain ⟨a, C, h0, T, ea, ht⟩ := hsp _ _ _ _ hq
    obtain ⟨nm, q, N', bs, bm, sn, sub, ab, col, dd, k0, k1, k2, k3, k5, hC, hbm⟩ := T.ox.cls
    have hcl : PySem.W.clsIn K C = some { name := nm, bases := bs, mro := .ref C :: bm, ns := N', qualname := q, hasDict := true, slotNames := sn, subclasses := sub, abstract := ab, collection := col, hasDel := false } := by unfold PySem.W.clsIn; rw [hC] <;> rfl
    obtain ⟨t1, ho⟩ := exo_at I.hok ea
    obtain ⟨m, hm, hloc⟩ := I.loc
    have hN0 : N[0]? = some x0 := by
      have := hx0
      rw [← S.pre, List.getElem?_take_of_lt (by rcases ps with _ | ⟨_, _⟩ <;> simp at hx0 ⊢)] at this
      exact this
    have hself : m x0 = some (.ref a) := by
      obtain ⟨u, ru, lu⟩ := hloc 0 x0 _ hN0 h0 (.inl (S.par x0 (List.mem_of_getElem? hx0)))
      cases ru
      rcases lu with lu | ⟨kk, _⟩
      · exact lu.2
      · have kk : scope.names.lookup x0 = some .cell ∨ scope.names.lookup x0 = some .free := kk
        rw [S.par x0 (List.mem_of_getElem? hx0)] at kk
        rcases kk with z | z <;> cases z
    obtain ⟨ar, har, rfl⟩ := sf.hd
    obtain ⟨cda, ccl, cdd, fvs, ccs, file, tf, rfl, hcode, hvs, hfile⟩ := sf.code
    obtain ⟨ccell, cld, csl, hcell⟩ := sf.cell
    obtain ⟨cdD, hcD⟩ := sf.cD
    have X1 : K.In h₁ := I.kIn
    obtain ⟨oD, hD1, hD2⟩ : ∃ oD, h₁.get? D = some oD ∧ oD.data = .cls cdD := by
      unfold PySem.W.clsIn at hcD
      split at hcD
      · rename_i c d cd' sl hoD
        cases hcD
        exact ⟨_, X1 _ _ hoD, rfl⟩
      · cases hcD
    obtain ⟨mb, hmb1, hmb2⟩ := I.mod.blt
    have hsv : mb "super" = some (.type "super") := (hmb2 "super" (by decide)).trans (by first | kernel_rfl | rfl)
    obtain ⟨pl, hpl'⟩ := hev (PySem.W.ksEnv qual scope s.heap.objs.size f (.ref cda) cc)
    refine ks_wpAt_execs_cons (ks_wpAt_Expr_any (ks_wpAt_MethodCall (pl := pl) ?_ hpl') ?hint (hswap _))
    case hint => first | rfl | (unfold interactive; rw [S.kind]; rfl) | (show _ = false; simp [interactive, PySem.W.ksEnv, S.kind])
    refine ks_wpAt_super_base (env := PySem.W.ksEnv qual scope s.heap.objs.size f (.ref cda) cc) S.sup S.cls (by decide) rfl (X1 _ _ lk) rfl har rfl (X1 _ _ hcode) rfl hvs hfile sf.top ?_
    refine PySem.W.ks_loadName_global S.kind S.sup (PySem.Calls.loadGlobal_builtin (env := PySem.W.ksEnv qual scope s.heap.objs.size f (.ref cda) cc) (I.mod.glob.keeps I.bk) sf.sp (hmb1.keeps I.bk) hsv ⟨rfl, ?_⟩)
    refine wpAny_loadName_free S.kind S.cls (by simp [PySem.W.ksEnv, List.lookup]) ⟨_, X1 _ _ hcell, rfl⟩ ?_
    refine wpAny_loadName_local S.kind (S.par _ (List.mem_of_getElem? hx0)) hm hself ?_
    refine ks_wpAny_isType_cls hD1 hD2 ⟨rfl, ?_⟩
    refine ks_wpAny_call_super hD1 hD2 ho rfl (fun c z => by cases z) (PySem.W.looks_mroIn X1 T.sub) (fun h2 e2 k2 => ?_)
    have I2 : Inv (cxSup P w K mg base N qual scope f cc (.ref cda) A outer s H) [] (L2.start N vs) H _ := I.kept (t' := s.toks + (ps.zip us).length) k2
    have X2 : K.In h2 := I2.kIn
    have It : PySem.W.InstAt h2 a _ C none := ⟨k2 _ _ ho, rfl, rfl, trivial⟩
    refine PySem.W.kxs_getMethod PySem.W.kxs_ValueError e2 (PySem.W.looks_opaque X2 sf.tp) (l₀ := .ref C :: bm) (fun A Q E s k q => wpAny_bind ((PySem.W.looks_clsIn X2 hcl) A _ E s k (wpAny_pure q))) rfl X2 (by have := T.ini; unfold PySem.W.ks_superIn at this; rw [hcl] at this; exact this)
      (It.type.andThen (PySem.W.looks_subIn X2 T.ve)) (PySem.W.ks_ne X2 It hcl) (by decide) ?_
    have k3 : ∀ b o, h2.get? b = some o → (h2.push (PySem.W.kxs_mw "ValueError.__init__" a)).get? b = some o := fun b o z => Heap.get?_push_of_some _ z
    have I3 : Inv (cxSup P w K mg base N qual scope f cc (.ref cda) A outer s H) [] (L2.start N vs) H _ := I2.kept (t' := s.toks + (ps.zip us).length + 1) k3
    have nu : h2.objs.size ∉ (cxSup P w K mg base N qual scope f cc (.ref cda) A outer s H).fs := I2.nofs (Nat.le_refl _)
    have I4 : Inv (cxSup P w K mg base N qual scope f cc (.ref cda) A outer s H) [(h2.objs.size, PySem.W.kxs_mw "ValueError.__init__" a)] (L2.start N vs) H _ := I3.pins_of fun p hp => by
      rw [List.mem_singleton.mp hp]
      refine ⟨Heap.get?_push_at rfl rfl, I2.hok.fresh (Nat.le_refl _), fun z => ?_, nu, fun v z => by cases z⟩
      exact absurd I2.lt (by rw [← z]; exact Nat.lt_irrefl _)
    refine PySem.W.kxs_callWith (i := "ValueError.__init__") (x := a) ?_ ?_
    · rw [hst]
      show (false || (backTo p3 (starEach es _)).any (·.1)) = false
      rw [hpl]
      rfl
    rw [hst]
    refine PySem.Calls.evalArgs_plain ?_
    have hrun := pa.run p3 _ _ _ H _ I4 ht
    rw [hst] at hrun
    refine thn hrun fun us2 s2 ⟨ws, H1, I5, r5, hlw, ea1, q5⟩ => ?_
    have hu := (I5.pin (h2.objs.size, PySem.W.kxs_mw "ValueError.__init__" a) (List.mem_append_right _ (List.mem_singleton.mpr rfl))).1
    refine ⟨hu, ?_⟩
    have hlen : us2.length ≤ sizeLine := by
      rw [← Paired.length r5, sizeLine_eq]
      omega
    obtain ⟨t5, ho5⟩ := exo_at I5.hok ea1
    obtain ⟨hp5, g5, d5, tk5, os5⟩ := s2
    refine call_wrapped hbm (I5.kIn _ _ hC) ho5 hu hlen fun h6 t6 k6 hx6 => ?_
    have J := I5.write (t' := tk5) (x := a) (e := a) (o := exo a C none) (by rw [ea1]; exact True.intro) (.inl rfl) k6 ⟨_, hx6⟩ (exo_ok hx6)
    have eu : upd H1 a (exo a C none) = H1 := by
      funext b
      by_cases hb : b = a
      · rw [hb, upd_same, ea1]
      · rw [upd_ne hb]
    rw [eu] at J
    have J0 := J.pins_of (pins' := []) fun p hp => nomatch hp
    exact PySem.wpAt_of_wpAny (pr.run [] _ _ H1 _ J0 q5)
  · have fin : ∀ {σ' : L2.St} {H' : Hp} {v : V} {u : Value}, Inv (cxSup P w K mg base N qual scope f cc cdv A outer s H) [] σ' H' s' → RelV v u → Q v H' → CE outer P w H s Q u s' :=
      fun {σ' H' v u} J rv q => ⟨v, H', J.os, J.bare, J.base, J.hok, rv, q⟩
    cases fl with
    | ret u =>
      obtain ⟨v, σ', H', J, rv, q⟩ := hs
      exact fin J rv q
    | next =>
      obtain ⟨σ', H', J, q⟩ := hs
      exact fin (v := V.non) (u := Value.none) J rfl q
    | brk =>
      obtain ⟨_, _, _, q⟩ := hs
      exact False.elim q
    | cont =>
      obtain ⟨_, _, _, q⟩ := hs
      exact False.elim q
end DL

/-! raise C(e, ..) where C's own __init__ says super().__init__(f"..") and stores its arguments. -/
namespace DL
open PySem PySem.Spec PyProof.Rows L2
/-! ### the __init__ -/
def XOk : V → Prop
  | .str s => s.length ≤ 1000
  | .int i => i.natAbs.log2 < 40
  | _ => False
def tPart : Str ⊕ Nat → TE
  | .inl s => tC (.str s)
  | .inr i => tFmt (tVar i)
def tXt (parts : List (Str ⊕ Nat)) : TE := fun σ H Q => tJs (parts.map tPart) Str.empty σ H fun out H1 => Q (.str out) H1
theorem tJs_ok {σ : L2.St} {H : Hp} : ∀ (ps : List (Str ⊕ Nat)) (acc : Str) (Q : Str → Hp → Prop), (∀ p ∈ ps, (∃ s, p = .inl s ∧ s.length ≤ 1000) ∨ ∃ i y, p = .inr i ∧ σ[i]? = some (some y) ∧ XOk y) →
    acc.length + 1000 * ps.length ≤ sizeLine → (∀ out, Q out H) → tJs (ps.map tPart) acc σ H Q
  | [], acc, Q, _, _, q => q acc
  | p :: ps, acc, Q, hp, hl, q => by
    have step : ∀ y : Str, y.length ≤ 1000 → (acc ++ y).length ≤ sizeLine ∧ tJs (ps.map tPart) (acc ++ y) σ H Q := fun y hy => by
      rw [List.length_cons] at hl
      have e := Str.length_append acc y
      exact ⟨by omega, tJs_ok ps (acc ++ y) Q (fun p h => hp p (List.mem_cons_of_mem _ h)) (by omega) q⟩
    rcases hp p List.mem_cons_self with ⟨s, rfl, hs⟩ | ⟨i, y, rfl, hy, ok⟩
    · exact ⟨s, rfl, step s hs⟩
    · refine ⟨y, hy, ?_⟩
      cases y with
      | str s =>
        have ok : s.length ≤ 1000 := ok
        exact .inl ⟨s, rfl, Nat.le_trans ok (by decide), s, rfl, step s ok⟩
      | int i =>
        have ok : i.natAbs.log2 < 40 := ok
        refine .inr ⟨i, rfl, by omega, _, rfl, step _ ?_⟩
        have := int_text_length_le (k := 40) (by decide) ok
        rw [PySem.ofString_length]
        omega
      | _ => exact ok.elim
/-- self.f = p for the parameters from the i-th on -/
def trS (K : PySem.W.Frag) : List Str → Nat → TS
  | [], _ => tNext
  | f :: fs, i => tSeq (tOst K f (tVar 0) (tVar i)) (trS K fs (i + 1))
theorem trS_ok {K : PySem.W.Frag} {C a dx : Addr} {σ : L2.St} (T : OexC K C) (h0 : σ[0]? = some (some (.ref a))) (nd : dx ≠ a) : ∀ (fs : List Str) (i : Nat) (ys : List V) (fs0 : List (Str × V)) (D : Ends) (H : Hp), ys.length = fs.length →
    (∀ f ∈ fs, PySem.W.findIn K (.ref C) f = some none) → (∀ j y, ys[j]? = some y → σ[i + j]? = some (some y)) → H a = some (exo a C (some dx)) → H dx = some (exd dx fs0) → fs0.length + fs.length ≤ 900 →
    (∀ H2, H2 a = some (exo a C (some dx)) → H2 dx = some (exd dx ((fs.zip ys).reverse ++ fs0)) → (∀ b, b ≠ dx → H2 b = H b) → D.nx σ H2) → trS K fs i D σ H
  | [], i, ys, fs0, D, H, hl, hn, hy, ha, hd, hz, q => q H ha (by simpa using hd) fun _ _ => rfl
  | f :: fs, i, [], fs0, D, H, hl, hn, hy, ha, hd, hz, q => by simp at hl
  | f :: fs, i, y :: ys, fs0, D, H, hl, hn, hy, ha, hd, hz, q => by
    refine ⟨y, hy 0 y rfl, .ref a, h0, a, C, rfl, T, hn f List.mem_cons_self, .inr ⟨dx, fs0, ha, hd, by rw [List.length_cons] at hz; omega, ?_⟩⟩
    refine trS_ok T h0 nd fs (i + 1) ys ((f, y) :: fs0) D _ (by simpa using hl) (fun g hg => hn g (List.mem_cons_of_mem _ hg)) (fun j z hz => by
      have := hy (j + 1) z (by simpa using hz)
      rw [show i + 1 + j = i + (j + 1) by omega]
      exact this) (by rw [upd_ne nd.symm]; exact ha) upd_same (by rw [List.length_cons] at hz ⊢; omega) fun H2 h1 h2 h3 => q H2 h1 ?_ fun b hb => ?_
    · rw [h2]
      simp [List.zip_cons_cons, List.reverse_cons, List.append_assoc]
    · rw [h3 b hb, upd_ne hb]
/-- the whole of the stores, from an exception without a dict on -/
theorem trS_all {K : PySem.W.Frag} {C a : Addr} {σ : L2.St} (T : OexC K C) (h0 : σ[0]? = some (some (.ref a))) {fs : List Str} {ys : List V} {D : Ends} {H : Hp} (ne : fs ≠ []) (hl : ys.length = fs.length) (hn : ∀ f ∈ fs, PySem.W.findIn K (.ref C) f = some none)
    (hy : ∀ j y, ys[j]? = some y → σ[1 + j]? = some (some y)) (ha : H a = some (exo a C none)) (hz : fs.length ≤ 800)
    (q : ∀ dx H2, H dx = none → dx ≠ a → H2 a = some (exo a C (some dx)) → H2 dx = some (exd dx (fs.zip ys).reverse) → (∀ b, b ≠ a → b ≠ dx → H2 b = H b) → D.nx σ H2) : trS K fs 1 D σ H := by
  cases fs with
  | nil => exact absurd rfl ne
  | cons f fs =>
    cases ys with
    | nil => simp at hl
    | cons y ys =>
      refine ⟨y, hy 0 y rfl, .ref a, h0, a, C, rfl, T, hn f List.mem_cons_self, .inl ⟨ha, fun dx nx nd => ?_⟩⟩
      refine trS_ok T h0 nd fs 2 ys [(f, y)] D _ (by simpa using hl) (fun g hg => hn g (List.mem_cons_of_mem _ hg)) (fun j z hz => by
        have := hy (j + 1) z (by simpa using hz)
        rw [show 2 + j = 1 + (j + 1) by omega]
        exact this) upd_same (by rw [upd_ne nd]; exact upd_same) (by rw [List.length_cons] at hz; simp; omega) fun H2 h1 h2 h3 => q dx H2 nx nd h1 ?_ fun b hb hd => ?_
      · rw [h2]
        simp [List.zip_cons_cons, List.reverse_cons]
      · rw [h3 b hd, upd_ne hb, upd_ne hd]
/-- what such an __init__ promises -/
def spXI (K : PySem.W.Frag) (D : Addr) (flds : List Str) : Sp := fun vs H Q _ => ∃ (a C : Addr) (ys : List V), vs = .ref a :: ys ∧ ys.length = flds.length ∧ (∀ y ∈ ys, XOk y) ∧ SupC K C D ∧ (∀ f ∈ flds, PySem.W.findIn K (.ref C) f = some none) ∧ H a = some (exo a C none) ∧
  ∀ dx H2, H dx = none → dx ≠ a → H2 a = some (exo a C (some dx)) → H2 dx = some (exd dx (flds.zip ys).reverse) → (∀ b, b ≠ a → b ≠ dx → H2 b = H b) → Q .non H2
/-- its body does -/
theorem spXI_body {K : PySem.W.Frag} {D : Addr} {flds N : List Str} {parts : List (Str ⊕ Nat)} (ne : flds ≠ []) (hz : flds.length ≤ 100) (hp : ∀ p ∈ parts, (∃ s, p = .inl s ∧ s.length ≤ 1000) ∨ ∃ i, p = .inr i ∧ 1 ≤ i ∧ i ≤ flds.length) (hpl : parts.length ≤ 100)
    (vs : List V) (H : Hp) (Q : VK) (E : XK) (h : spXI K D flds vs H Q E) : tSup K D (tCons (tXt parts) tNil) (trS K flds 1) { nx := fun _ H' => Q .non H', rt := Q } (L2.start N vs) H := by
  obtain ⟨a, C, ys, rfl, hl, ok, T, hn, ha, q⟩ := h
  have h0 : (L2.start N (.ref a :: ys))[0]? = some (some (.ref a)) := by simp [L2.start]
  have hy : ∀ j y, ys[j]? = some y → (L2.start N (.ref a :: ys))[1 + j]? = some (some y) := fun j y e => by
    have hj := (List.getElem?_eq_some_iff.mp e).1
    unfold L2.start
    rw [List.getElem?_append_left (by simp; omega), List.getElem?_map, show 1 + j = j + 1 by omega, List.getElem?_cons_succ, e]
    rfl
  refine ⟨a, C, h0, T, ha, tJs_ok parts _ _ (fun p hp' => ?_) ?_ fun out => ⟨by simp, ha, ?_⟩⟩
  · rcases hp p hp' with h | ⟨i, rfl, h1, h2⟩
    · exact .inl h
    · have hi : i - 1 < ys.length := by omega
      refine .inr ⟨i, ys[i - 1], rfl, ?_, ok _ (List.getElem_mem hi)⟩
      have := hy (i - 1) ys[i - 1] (List.getElem?_eq_getElem hi)
      rwa [show 1 + (i - 1) = i by omega] at this
  · have : (Str.empty).length = 0 := rfl
    rw [this, sizeLine_eq]
    omega
  · exact trS_all T.ox h0 ne hl hn hy ha (by omega) fun dx H2 n1 n2 h1 h2 h3 => q dx H2 n1 n2 h1 h2 h3
/-! ### raise C(e, ..) -/
def vOf : D → V
  | .int i => .int i
  | .str s => .str s
  | _ => .non
def xOk : D → Prop
  | .int i => -1000000000 ≤ i ∧ i ≤ 1000000000
  | .str s => s.length ≤ 1000
  | _ => False
def wRaiseA (EX : Xn → Prop) (n : Str) (flds : List Str) (wa : WA) : WS := fun ρ _ => wa ρ fun ds _ => ds.length = flds.length ∧ (∀ d ∈ ds, xOk d) ∧ EX ⟨n, (flds.zip (ds.map vOf)).reverse⟩
theorem z9 {EX : Xn → Prop} {n : Str} {flds : List Str} {wa : WA} {ρ : List Sl} {E : EnD} : wRaiseA EX n flds wa ρ E = wa ρ fun ds _ => ds.length = flds.length ∧ (∀ d ∈ ds, xOk d) ∧ EX ⟨n, (flds.zip (ds.map vOf)).reverse⟩ := rfl
theorem xOk_v {c : Cy} {F : Hp} : ∀ {ds : List D} {vs : List V}, DrL c F vs ds → (∀ d ∈ ds, xOk d) → vs = ds.map vOf ∧ ∀ v ∈ vs, XOk v
  | [], vs, r, _ => by rw [r.nil_iff]; exact ⟨rfl, fun _ h => nomatch h⟩
  | d :: ds, vs, r, h => by
    obtain ⟨v, vr, rfl, q, t⟩ := r.cons_iff
    obtain ⟨e, ok⟩ := xOk_v t fun d hd => h d (List.mem_cons_of_mem _ hd)
    have hd := h d List.mem_cons_self
    have key : v = vOf d ∧ XOk v := by
      cases d with
      | int i =>
        simp only [Dr] at q
        subst q
        have hd : -1000000000 ≤ i ∧ i ≤ 1000000000 := hd
        refine ⟨rfl, ?_⟩
        show i.natAbs.log2 < 40
        have h : i.natAbs < 2 ^ 40 := by
          have e : (2 : Nat) ^ 40 = 1099511627776 := by decide
          omega
        rcases Nat.eq_zero_or_pos i.natAbs with z | z
        · rw [z]; decide
        · exact (Nat.log2_lt (by omega)).mpr h
      | str s => simp only [Dr] at q; subst q; exact ⟨rfl, hd⟩
      | _ => exact hd.elim
    refine ⟨by rw [List.map_cons, ← key.1, e], fun w hw => ?_⟩
    rcases List.mem_cons.mp hw with rfl | hw
    · exact key.2
    · exact ok w hw
section
variable {X : Cx} {F0 M00 : Hp} {E : XK} {EX : Xn → Prop}
theorem ds_raiseA {n : Str} {C Di fI : Addr} {k : Nat} {fd : FuncData} {ps flds : List Str} {e : Expr} {es : List Expr} {ta : TA} {wa : WA} {p pos pos' : Pos} (hc : X.calm = true) (tk : Takes X (fun cls d _ H => E cls d H)) (T : SupC X.K C Di) (hne : flds ≠ []) (hfl : flds.length ≤ 100)
    (hfs : ∀ f ∈ flds, PySem.W.findIn X.K (.ref C) f = some none) (iC : PySem.W.findIn X.K (.ref C) "__init__" = some (some (.ref fI))) (tI : PySem.W.typeIn X.K (.ref fI) = some (.type "function"))
    (F1 : FnOk X.prog X.w X.K X.mg X.base CX0 k fI fd ps (spXI X.K Di flds)) (hr : Room (k + 1) X.A) (hb : Binds X.K fd ps []) (hg : Gl X n) (hm : X.mg n = some (.ref C)) (hE : ∀ x cls d H', EX x → Ext none (HH F0 M00) H' → XnR X.mg H' x cls d → E cls d H')
    (ha : letI := Lk.from F0 M00; DA X (e :: es) ta wa) (hdb : (n == ("__debug__" : Str)) = false := by decide) (he : starEach (e :: es) X.env = (false, eval e X.env) :: starEach es X.env := by rfl) (hpl : (backTo pos (starEach es X.env)).any (·.1) = false := by rfl) :
    letI := Lk.from F0 M00
    DS X (.Raise (some (.Call (.Name n p) (e :: es) [] pos)) none pos') (fun _ σ H => tMkO C (spXI X.K Di flds) [] ta σ H fun cls d H' => E cls d H') (wRaiseA EX n flds wa) :=
  letI := Lk.from F0 M00
  ⟨ps_raise (W := fun cls d _ H => E cls d H) hc tk (pmk_oex T.ox iC tI F1 hr hb .nil pass0 hg hm ha.pe hdb he hpl), fun {b ρ σ F M M0} R Ed Dn hw f => by
  refine ha.sn R _ _ hw fun ds ρ1 vs F1 M1 M01 q A r1 => ?_
  obtain ⟨hl, hok, hx⟩ := q
  obtain ⟨ev, okv⟩ := xOk_v r1 hok
  have hvl : vs.length = flds.length := by rw [r1.length, hl]
  refine ⟨by omega, fun a na => ?_⟩
  rw [List.append_nil]
  refine ⟨a, C, vs, rfl, hvl, okv, T, hfs, upd_same, fun dx H2 n1 n2 h1 h2 h3 => ?_⟩
  have nx : HH F1 M1 dx = none := by rw [upd_ne n2] at n1; exact n1
  refine ⟨rfl, dx, _, h1, h2, nx, hE _ _ _ _ hx ((ext_from A.rel).trans fun b o _ hb => ?_) ⟨C, hm, rfl, .inr ⟨?_, dx, rfl, ?_⟩⟩⟩
  · have nb1 : b ≠ a := fun z => by rw [z, na] at hb; cases hb
    have nb2 : b ≠ dx := fun z => by rw [z, nx] at hb; cases hb
    rw [upd_ne nb2, L2.del_ne nb1, h3 b nb1 nb2, upd_ne nb1]
    exact hb
  · intro z
    have hl2 : (flds.zip (ds.map vOf)).reverse.length = flds.length := by simp [hl]
    rw [show (flds.zip (ds.map vOf)).reverse = [] from z] at hl2
    exact hne (List.length_eq_zero_iff.mp hl2.symm)
  · rw [upd_same, ev]⟩
end
end DL

/-! try: .. except X as e: a suite that looks at e. -/
namespace DL
open PySem PySem.Spec PyProof.Rows L2
variable [Lk]
/-! ### expressions of such a suite: their values are flat, the heap stays -/
abbrev WX1 := Xn → List Sl → V → Prop
structure DXE (X : Cx) (j : Nat) (e : Expr) (te : Addr → Value → Option Addr → TE) (wv : WX1) : Prop where
  pe : ∀ (a : Addr) (oe : Obj) (cls : Value) (d : Option Addr) (pn : List (Addr × Obj)), Zc cls d oe → (∃ vs, oe.data = .fields vs) → PE (X.suite a ((a, oe) :: pn)) e (te a cls d)
  sn : ∀ (x : Xn) (a : Addr) (cls : Value) (d : Option Addr) {b : Option Addr} {ρ : List Sl} {σ : L2.St} {F M M0 : Hp} (v : V) (Q : VK), Rel (cy X) b ρ σ F M M0 → σ[j]? = some (some (.ref a)) → XnR X.mg (HH F M) x cls d → wv x ρ v → Q v (HH F M) → te a cls d σ (HH F M) Q
structure DXL (X : Cx) (j : Nat) (es : List Expr) (ta : Addr → Value → Option Addr → TA) (wl : Xn → List Sl → List V → Prop) : Prop where
  pe : ∀ (a : Addr) (oe : Obj) (cls : Value) (d : Option Addr) (pn : List (Addr × Obj)), Zc cls d oe → (∃ vs, oe.data = .fields vs) → PA (X.suite a ((a, oe) :: pn)) es (ta a cls d)
  sn : ∀ (x : Xn) (a : Addr) (cls : Value) (d : Option Addr) {b : Option Addr} {ρ : List Sl} {σ : L2.St} {F M M0 : Hp} (vs : List V) (Q : List V → Hp → Prop), Rel (cy X) b ρ σ F M M0 → σ[j]? = some (some (.ref a)) → XnR X.mg (HH F M) x cls d → wl x ρ vs → Q vs (HH F M) → ta a cls d σ (HH F M) Q
section
variable {X : Cx} {j : Nat} {pos p1 p2 p3 : Pos}
def xC (v : V) : WX1 := fun _ _ u => u = v
theorem dxe_c {e : Expr} {v : V} (h : ∀ X' : Cx, PE X' e (tC v)) : DXE X j e (fun _ _ _ => tC v) (xC v) := ⟨fun _ _ _ _ _ _ _ => h _, fun _ _ _ _ {b ρ σ F M M0} v Q R _ _ hw q => by
  have hw : v = _ := hw
  subst hw
  exact q⟩
def xFld (n f : Str) : WX1 := fun x _ v => x.n = n ∧ x.fs.lookup f = some v
theorem dxe_fld {n f nm : Str} {C : Addr} (T : XfC X.K C) (hno : PySem.W.findIn X.K (.ref C) f = some none) (hm : X.mg n = some (.ref C)) (hN : X.N[j]? = some nm) (hv : Vis X.env.scope nm) (hd : (nm == ("__debug__" : Str)) = false := by decide) (hcd : (nm == ("__classdict__" : Str)) = false := by decide)
    (hb : ∀ env, attributeBase (.Name nm p1) f env (eval (.Name nm p1) env) = eval (.Name nm p1) env := by intro _; rfl) :
    DXE X j (.Attribute (.Name nm p1) f pos) (fun a cls d => tXf a cls d C f (tVar j)) (xFld n f) := by
  refine ⟨fun a oe cls d pn hz hf => pe_xf (X := X) T hno hz hf (pe_var (X := X.suite a ((a, oe) :: pn)) hN hv hd hcd) (hb _), fun x a cls d {b ρ σ F M M0} v Q R hj hx hw q => ?_⟩
  obtain ⟨hn, hl⟩ := hw
  obtain ⟨C', h1, rfl, h3⟩ := hx
  rw [hn, hm] at h1
  cases h1
  rcases h3 with ⟨z, _⟩ | ⟨_, dd, rfl, hd⟩
  · rw [z] at hl
    cases hl
  · exact ⟨.ref a, hj, rfl, rfl, dd, x.fs, v, rfl, hd, hl, q⟩
/-- isinstance(e, c), e with or without a dict -/
def rIsX (K : PySem.W.Frag) (D a : Addr) (d : Option Addr) : List V → Hp → VK → Prop := fun xs H Q => ∃ (c : V) (cv : Value) (b : Bool), xs = [.ref a, c] ∧ (∀ u, RelV c u → u = cv) ∧ PySem.W.kitOne K (.ref D) cv = some b ∧ (∀ dd, d = some dd → ∃ fs, H dd = some (.xd fs)) ∧ Q (.bl b) H
theorem call_isX {a D : Addr} {oe : Obj} {d : Option Addr} {pn : List (Addr × Obj)} (C : ExcC X.K D) (hz : Zc (.ref D) d oe) (hf : ∃ vs, oe.data = .fields vs) : CallR (X.suite a ((a, oe) :: pn)) (.builtin "isinstance") (rIsX X.K D a d) := by
  intro pins s σ H xs us Q I r h
  obtain ⟨c, cv, b, rfl, hcv, e, hdd, q⟩ := h
  obtain ⟨u0, ur, rfl, r0, r1⟩ : ∃ u0 ur, us = u0 :: ur ∧ RelV (.ref a) u0 ∧ Vals [c] ur := by cases r with | cons x y => exact ⟨_, _, rfl, x, y⟩
  obtain ⟨u1, rfl, r2⟩ : ∃ u1, ur = [u1] ∧ RelV c u1 := by cases r1 with | cons x y => cases y; exact ⟨_, rfl, x⟩
  obtain rfl := hcv _ r2
  obtain rfl : u0 = Value.ref a := r0
  have hget := (I.pin (a, oe) (List.mem_append_left _ List.mem_cons_self)).1
  obtain ⟨vs, hv⟩ := hf
  have J : ∃ od, PySem.W.InstAt s.heap a oe D od := by
    obtain ⟨oc, oda, odt, osl⟩ := oe
    obtain ⟨h1, h2⟩ := hz
    dsimp only at h1 h2 hv
    subst h1 h2 hv
    cases oda with
    | none => exact ⟨none, hget, rfl, rfl, trivial⟩
    | some dd =>
      obtain ⟨fs, hfs⟩ := hdd dd rfl
      obtain ⟨mA, ⟨o, es, ep, ho, _⟩, _⟩ : ObjOk X.prog X.w H s.heap dd (.xd fs) := I.hok dd _ hfs
      exact ⟨some o, hget, rfl, rfl, ho⟩
  obtain ⟨od, J⟩ := J
  have hcl : (PySem.W.clsIn X.K D).isSome = true := by
    have := C.hm
    unfold PySem.W.mroIn at this
    cases hq : PySem.W.clsIn X.K D with
    | none => rw [hq] at this; cases this
    | some _ => rfl
  exact PySem.W.kia_one (PySem.W.kitx_exc hcl C.hg C.hk C.hs C.ha C.hn C.ht C.hm) I.kIn J e (fun z => nomatch z) fun tk => ⟨.bl b, H, I.kept (t' := tk) fun _ _ z => z, rfl, q⟩
def xIsi (tbl : List (Str × Bool)) : WX1 := fun x _ v => ∃ b, (x.n, b) ∈ tbl ∧ v = .bl b
theorem dxe_isi {nm cn : Str} {Ct : Addr} {tbl : List (Str × Bool)} (hg : Gl X "isinstance") (hz : X.mg "isinstance" = none) (hgc : Gl X cn) (hmc : X.mg cn = some (.ref Ct)) (ht : ∀ nb ∈ tbl, ∀ D, X.mg nb.1 = some (.ref D) → ExcC X.K D ∧ PySem.W.kitOne X.K (.ref D) (.ref Ct) = some nb.2)
    (hN : X.N[j]? = some nm) (hv : Vis X.env.scope nm) (hd : (nm == ("__debug__" : Str)) = false := by decide) (hcd : (nm == ("__classdict__" : Str)) = false := by decide) (hdc : (cn == ("__debug__" : Str)) = false := by decide) :
    DXE X j (.Call (.Name "isinstance" p1) [.Name nm p2, .Name cn p3] [] pos) (fun a cls d σ H Q => ∃ D, cls = .ref D ∧ ExcC X.K D ∧ tCB (rIsX X.K D a d) (tCons (tVar j) (tCons (tC (.ref Ct)) tNil)) σ H Q) (xIsi tbl) := by
  refine ⟨fun a oe cls d pn hzc hf => ⟨fun pins s σ H Q I hh => ?_⟩, fun x a cls d {b ρ σ F M M0} v Q R hj hx hw q => ?_⟩
  · obtain ⟨D, rfl, hX, hh⟩ := hh
    exact (pe_callB (X := X.suite a ((a, oe) :: pn)) (call_isX hX hzc hf) hg hz (by decide +kernel) (pa_cons (pe_var hN hv hd hcd) (pa_cons (pe_glob (v := .ref Ct) hgc hmc rfl hdc) pa_nil))).run pins s σ H Q I hh
  · obtain ⟨bb, hm, rfl⟩ := hw
    obtain ⟨C', h1, rfl, h3⟩ := hx
    obtain ⟨hX, hk⟩ := ht _ hm C' h1
    refine ⟨C', rfl, hX, .ref a, hj, .ref Ct, .ref Ct, bb, rfl, fun u r => r, hk, fun dd e => ?_, q⟩
    rcases h3 with ⟨_, z⟩ | ⟨_, d2, z, hd⟩
    · rw [z] at e; cases e
    · rw [z] at e
      cases e
      exact ⟨_, hd⟩
def xAnd (wa wb : WX1) : WX1 := fun x ρ v => (wa x ρ (.bl false) ∧ v = .bl false) ∨ (wa x ρ (.bl true) ∧ wb x ρ v)
def xOr (wa wb : WX1) : WX1 := fun x ρ v => (wa x ρ (.bl true) ∧ v = .bl true) ∨ (wa x ρ (.bl false) ∧ wb x ρ v)
def xNot (wa : WX1) : WX1 := fun x ρ v => ∃ c, wa x ρ (.bl c) ∧ v = .bl (!c)
variable {a b : Expr} {rest : List Expr} {ta tb : Addr → Value → Option Addr → TE} {wa wb : WX1}
theorem dxe_one {op} (h : DXE X j a ta wa) : DXE X j (.BoolOp op [a] pos) ta wa := ⟨fun a oe cls d pn hz hf => pe_one (h.pe a oe cls d pn hz hf), h.sn⟩
theorem dxe_and (ha : DXE X j a ta wa) (hb : DXE X j (.BoolOp .And (b :: rest) pos) tb wb) : DXE X j (.BoolOp .And (a :: b :: rest) pos) (fun a cls d => tAndV (ta a cls d) (tb a cls d)) (xAnd wa wb) :=
  ⟨fun a oe cls d pn hz hf => pe_and (ha.pe a oe cls d pn hz hf) (hb.pe a oe cls d pn hz hf), fun x a cls d {b ρ σ F M M0} v Q R hj hx hw q => by
    rcases hw with ⟨h, rfl⟩ | ⟨h, h2⟩
    · exact ha.sn x a cls d _ _ R hj hx h ⟨false, rfl, q⟩
    · exact ha.sn x a cls d _ _ R hj hx h ⟨true, rfl, hb.sn x a cls d v Q R hj hx h2 q⟩⟩
theorem dxe_or (ha : DXE X j a ta wa) (hb : DXE X j (.BoolOp .Or (b :: rest) pos) tb wb) : DXE X j (.BoolOp .Or (a :: b :: rest) pos) (fun a cls d => tOrV (ta a cls d) (tb a cls d)) (xOr wa wb) :=
  ⟨fun a oe cls d pn hz hf => pe_or (ha.pe a oe cls d pn hz hf) (hb.pe a oe cls d pn hz hf), fun x a cls d {b ρ σ F M M0} v Q R hj hx hw q => by
    rcases hw with ⟨h, rfl⟩ | ⟨h, h2⟩
    · exact ha.sn x a cls d _ _ R hj hx h ⟨true, rfl, q⟩
    · exact ha.sn x a cls d _ _ R hj hx h ⟨false, rfl, hb.sn x a cls d v Q R hj hx h2 q⟩⟩
theorem dxe_not (ha : DXE X j a ta wa) : DXE X j (.UnaryOp .Not a pos) (fun a cls d => tNotV (ta a cls d)) (xNot wa) :=
  ⟨fun a oe cls d pn hz hf => pe_not (ha.pe a oe cls d pn hz hf), fun x a cls d {b ρ σ F M M0} v Q R hj hx hw q => by
    obtain ⟨c, h, rfl⟩ := hw
    exact ha.sn x a cls d _ _ R hj hx h ⟨c, rfl, q⟩⟩
/-! lists of such expressions -/
def xlNil : Xn → List Sl → List V → Prop := fun _ _ vs => vs = []
def xlCons (w : WX1) (wl : Xn → List Sl → List V → Prop) : Xn → List Sl → List V → Prop := fun x ρ vs => ∃ v vr, vs = v :: vr ∧ w x ρ v ∧ wl x ρ vr
theorem dxl_nil : DXL X j [] (fun _ _ _ => tNil) xlNil := ⟨fun _ _ _ _ _ _ _ => pa_nil, fun x a cls d {b ρ σ F M M0} vs Q R hj hx hw q => by
  have hw : vs = [] := hw
  subst hw
  exact q⟩
theorem dxl_cons {es : List Expr} {tl : Addr → Value → Option Addr → TA} {wl : Xn → List Sl → List V → Prop} (ha : DXE X j a ta wa) (hl : DXL X j es tl wl) (hs : ∀ env, starEach (a :: es) env = (false, eval a env) :: starEach es env := by intro _; rfl) :
    DXL X j (a :: es) (fun a cls d => tCons (ta a cls d) (tl a cls d)) (xlCons wa wl) :=
  ⟨fun a oe cls d pn hz hf => pa_cons (ha.pe a oe cls d pn hz hf) (hl.pe a oe cls d pn hz hf) (hs _), fun x a cls d {b ρ σ F M M0} vs Q R hj hx hw q => by
    obtain ⟨v, vr, rfl, h1, h2⟩ := hw
    exact ha.sn x a cls d v _ R hj hx h1 (hl.sn x a cls d vr _ R hj hx h2 q)⟩
/-! ### suites -/
structure DXS (X : Cx) (j : Nat) (su : List Stmt) (ts : Addr → Value → Option Addr → TS) (ws : Xn → WS) : Prop where
  ps : ∀ (a : Addr) (oe : Obj) (cls : Value) (d : Option Addr) (pn : List (Addr × Obj)), Zc cls d oe → (∃ vs, oe.data = .fields vs) → PSs (X.suite a ((a, oe) :: pn)) su (ts a cls d)
  sn : ∀ (x : Xn) (a : Addr) (cls : Value) (d : Option Addr) {b : Option Addr} {ρ : List Sl} {σ : L2.St} {F M M0 : Hp}, Rel (cy X) b ρ σ F M M0 → σ[j]? = some (some (.ref a)) → XnR X.mg (HH F M) x cls d → ∀ (E : EnD) (Dn : Ends), ws x ρ E → Fin (cy X) b F M0 E Dn → ts a cls d Dn σ (HH F M)
/-- a flat value's data -/
def dOf : V → Option D
  | .non => some .non
  | .bl b => some (.bl b)
  | .int i => some (.int i)
  | .str s => some (.str s)
  | _ => none
theorem dOf_dr {c : Cy} {F : Hp} {v : V} {d : D} (h : dOf v = some d) : Dr c F v d := by
  cases v <;> simp [dOf] at h <;> subst h <;> simp only [Dr]
def dOfL : List V → Option (List D)
  | [] => some []
  | v :: vs => match dOf v, dOfL vs with
    | some d, some ds => some (d :: ds)
    | _, _ => none
theorem dOfL_dr {c : Cy} {F : Hp} : ∀ {vs : List V} {ds : List D}, dOfL vs = some ds → DrL c F vs ds
  | [], ds, h => by simp [dOfL] at h; subst h; exact .nil
  | v :: vs, ds, h => by
    simp only [dOfL] at h
    split at h
    · rename_i d ds' h1 h2
      cases h
      exact .cons (dOf_dr h1) (dOfL_dr h2)
    · cases h
def wxRet (wv : WX1) : Xn → WS := fun x ρ E => ∃ v d, wv x ρ v ∧ dOf v = some d ∧ E.rt d ρ
theorem dxs_ret {e : Expr} {te : Addr → Value → Option Addr → TE} {wv : WX1} (h : DXE X j e te wv) : DXS X j [.Return (some e) pos] (fun a cls d => tRet (te a cls d)) (wxRet wv) :=
  ⟨fun a oe cls d pn hz hf => pss_one (ps_ret (h.pe a oe cls d pn hz hf)), fun x a cls d {b ρ σ F M M0} R hj hx E Dn hw fin => by
    obtain ⟨v, dd, h1, h2, q⟩ := hw
    exact h.sn x a cls d v _ R hj hx h1 (fin.rt dd v ρ σ F M M0 q (Same.refl _) R (MR.refl _ _) (dOf_dr h2))⟩
def wxTup (wl : Xn → List Sl → List V → Prop) : Xn → WS := fun x ρ E => ∃ vs ds, wl x ρ vs ∧ dOfL vs = some ds ∧ vs.length ≤ 1000 ∧ E.rt (.tup ds) ρ
theorem dxs_tup {es : List Expr} {tl : Addr → Value → Option Addr → TA} {wl : Xn → List Sl → List V → Prop} {x1 : Nat} (h : DXL X j es tl wl) : DXS X j [.Return (some (.Tuple es x1 p1)) pos] (fun a cls d => tRet (tTup (tl a cls d))) (wxTup wl) :=
  ⟨fun a oe cls d pn hz hf => pss_one (ps_ret (pe_tup (h.pe a oe cls d pn hz hf))), fun x a cls d {b ρ σ F M M0} R hj hx E Dn hw fin => by
    obtain ⟨vs, ds, h1, h2, hl, q⟩ := hw
    refine h.sn x a cls d vs _ R hj hx h1 ⟨by rw [sizeLine_eq]; omega, fun p hp => ?_⟩
    obtain ⟨hf, hm⟩ := hh_none hp
    rw [hh_updF hm]
    have A := R.grow (Same.updF (o := .tup vs) hf) (R.dj.updF hm)
    exact fin.rt (.tup ds) (.ref p) ρ σ _ M M0 q A.same A.rel A.mr (by simp only [Dr]; exact ⟨p, vs, rfl, upd_same, dOfL_dr h2⟩)⟩
def wxLst (wl : Xn → List Sl → List V → Prop) : Xn → WS := fun x ρ E => ∃ vs ds, wl x ρ vs ∧ dOfL vs = some ds ∧ vs.length ≤ 1000 ∧ E.rt (.lst ds) ρ
theorem dxs_lst {es : List Expr} {tl : Addr → Value → Option Addr → TA} {wl : Xn → List Sl → List V → Prop} (h : DXL X j es tl wl) : DXS X j [.Return (some (.List es p1)) pos] (fun a cls d => tRet (tLst (tl a cls d))) (wxLst wl) :=
  ⟨fun a oe cls d pn hz hf => pss_one (ps_ret (pe_lst (h.pe a oe cls d pn hz hf))), fun x a cls d {b ρ σ F M M0} R hj hx E Dn hw fin => by
    obtain ⟨vs, ds, h1, h2, hl, q⟩ := hw
    refine h.sn x a cls d vs _ R hj hx h1 ⟨by rw [sizeLine_eq]; omega, fun p hp => ?_⟩
    obtain ⟨hf, hm⟩ := hh_none hp
    rw [hh_updF hm]
    have A := R.grow (Same.updF (o := .lst vs) hf) (R.dj.updF hm)
    exact fin.rt (.lst ds) (.ref p) ρ σ _ M M0 q A.same A.rel A.mr (by simp only [Dr]; exact ⟨p, vs, rfl, upd_same, dOfL_dr h2⟩)⟩
end
/-! ### the statement -/
/-- behind the suite the slot is empty -/
def endX (j : Nat) (E : EnD) : EnD := { nx := fun ρ => ρ[j]? = some .no ∧ E.nx ρ, bk := fun ρ => ρ[j]? = some .no ∧ E.bk ρ, ct := fun ρ => ρ[j]? = some .no ∧ E.ct ρ, rt := E.rt }
theorem Rel.unset {c : Cy} {b : Option Addr} {ρ : List Sl} {σ : L2.St} {F M M0 : Hp} {j : Nat} {x : Option V} (R : Rel c b ρ σ F M M0) (h : ρ[j]? = some .no) : Rel c b ρ (σ.set j x) F M M0 := by
  have e := R.env.forget (x := x) h (fun z => z)
  have hs : ρ.set j .no = ρ := by
    obtain ⟨hj, he⟩ := List.getElem?_eq_some_iff.mp h
    rw [← he]
    exact List.set_getElem_self hj
  rw [hs] at e
  exact ⟨R.dj, e, R.box, R.lk⟩
def wTryRetAs (ns : List Str) (j : Nat) (ws : Xn → WS) (wf : WFx) (wa : WAs) : WS := fun ρ E => wa ρ fun as ρ1 => (∀ s ∈ as, s ≠ .bx) ∧ ρ1[j]? = some .no ∧ wf as (fun d => E.rt d ρ1) fun x => x.n ∈ ns ∧ ws x ρ1 (endX j E)
theorem zA {ns : List Str} {j : Nat} {ws : Xn → WS} {wf : WFx} {wa : WAs} {ρ : List Sl} {E : EnD} : wTryRetAs ns j ws wf wa ρ E = wa ρ fun as ρ1 => (∀ s ∈ as, s ≠ .bx) ∧ ρ1[j]? = some .no ∧ wf as (fun d => E.rt d ρ1) fun x => x.n ∈ ns ∧ ws x ρ1 (endX j E) := rfl
def wTryDoAs (ns : List Str) (j : Nat) (ws : Xn → WS) (wf : WFx) (wa : WAs) : WS := fun ρ E => wa ρ fun as ρ1 => (∀ s ∈ as, s ≠ .bx) ∧ ρ1[j]? = some .no ∧ wf as (fun d => E.nx ρ1) fun x => x.n ∈ ns ∧ ws x ρ1 (endX j E)
theorem zB {ns : List Str} {j : Nat} {ws : Xn → WS} {wf : WFx} {wa : WAs} {ρ : List Sl} {E : EnD} : wTryDoAs ns j ws wf wa ρ E = wa ρ fun as ρ1 => (∀ s ∈ as, s ≠ .bx) ∧ ρ1[j]? = some .no ∧ wf as (fun d => E.nx ρ1) fun x => x.n ∈ ns ∧ ws x ρ1 (endX j E) := rfl
section
variable {X : Cx} {es : List Expr} {t : TA} {wa : WAs} {wf : WFx} {j : Nat} {su : List Stmt} {b0 : Stmt} {ts : Addr → Value → Option Addr → TS} {ws : Xn → WS}
/-- the suite, from the exception on -/
theorem suite_ok {c : Value} {ns : List Str} {b : Option Addr} {ρ1 : List Sl} {σ : L2.St} {F M M0 F1 M1 M01 H' : Hp} {E : EnD} {Dn : Ends} {x : Xn} {cls : Value} {d : Option Addr} (hm : Takn X.K X.mg c ns) (hs : DXS X j (b0 :: su) ts ws) (A : Aft (cy X) b F M M0 ρ1 σ F1 M1 M01) (hn : x.n ∈ ns) (hj : ρ1[j]? = some .no)
    (hw : ws x ρ1 (endX j E)) (fin : Fin (cy X) b F M0 E Dn) (ex : Ext none (HH F1 M1) H') (xr : XnR X.mg H' x cls d) : wAs X.K c j ts (fun _ _ _ _ => False) Dn cls d σ H' := by
  obtain ⟨C, h1, rfl, h3⟩ := xr
  refine ⟨true, hm _ hn C h1, fun _ a na => ?_, fun z => nomatch z⟩
  obtain ⟨F', rfl, s, R'⟩ := A.rel.ext0 ex
  have hj' : j < σ.length := by
    rw [R'.env.length]
    exact (List.getElem?_eq_some_iff.mp hj).1
  have f := fin.on (A.same.trans s) A.mr
  exact hs.sn x a _ d (R'.unset (x := some (.ref a)) hj) (List.getElem?_set_self hj') ⟨C, h1, rfl, h3⟩ (endX j E) _ hw
    ⟨fun ρ' σ' F2 M2 M02 q s2 R2 m2 => f.nx ρ' _ F2 M2 M02 q.2 s2 (R2.unset q.1) m2, fun ρ' σ' F2 M2 M02 q s2 R2 m2 => f.bk ρ' _ F2 M2 M02 q.2 s2 (R2.unset q.1) m2, fun ρ' σ' F2 M2 M02 q s2 R2 m2 => f.ct ρ' _ F2 M2 M02 q.2 s2 (R2.unset q.1) m2, f.rt⟩
theorem ds_tryRetAs {xc n nm : Str} {c : Value} {ns : List Str} {np p1 p4 p5 p6 pos : Pos} (hs : X.stack = X.env :: X.outer) (hf : X.env.frame = some X.env.locals) (hN : X.N.Nodup) (hi : X.N[j]? = some nm) (hln : X.env.kindOf nm = some .local) (hc : Names X xc c) (hm : Takn X.K X.mg c ns)
    (has : DAs X es t wa) (hsu : DXS X j (b0 :: su) ts ws)
    (hb : ∀ (W : WX) (pn : List (Addr × Obj)) (xe : Value → Shared → Prop), Takes (X.tr pn xe) W → PE (X.tr pn xe) (.Call (.Name n p5) es [] p6) (tCallS (spX (cy X) wf) (fun σ => L2.WE W σ) t)) :
    DS X (.Try [.Return (some (.Call (.Name n p5) es [] p6)) p1] [.ExceptHandler (some (.Name xc np)) (some nm) (b0 :: su) p4] [] [] pos)
      (fun D σ H => (tRet (tCallS (spX (cy X) wf) (fun σ => L2.WE (wAs X.K c j ts (fun _ _ _ _ => False) D) σ) t)) D σ H) (wTryRetAs ns j ws wf wa) := by
  refine ⟨ps_try_as (X := X) (c := c) (i := j) (Wout := fun _ _ _ _ => False) (tb := fun W => tRet (tCallS (spX (cy X) wf) (fun σ => L2.WE W σ) t)) hs hf hN hi hln hc takes0 (fun W pn xe tk _ => pss_one (ps_ret (hb W pn xe tk))) hsu.ps, ?_⟩
  intro b ρ σ F M M0 R E Dn hw fin
  refine has.sn R _ _ hw fun as ρ1 vs F1 M1 M01 q A ar => ?_
  refine ⟨F1, M1, as, _, _, rfl, ⟨A.rel.dj, A.rel.env.nt⟩, ar.nobox q.1, q.2.2, fun d v F' h s dj r => ?_, fun x cls d H' hx ex xr => suite_ok hm hsu A hx.1 q.2.1 hx.2 fin ex xr⟩
  have A2 := A.rel.grow s dj
  exact fin.rt d v ρ1 σ F' M1 M01 h (A.same.trans s) A2.rel A.mr r
theorem ds_tryDoAs {xc n nm : Str} {c : Value} {ns : List Str} {np p1 p4 p5 p6 pos : Pos} (hs : X.stack = X.env :: X.outer) (hf : X.env.frame = some X.env.locals) (hN : X.N.Nodup) (hi : X.N[j]? = some nm) (hln : X.env.kindOf nm = some .local) (hc : Names X xc c) (hm : Takn X.K X.mg c ns)
    (has : DAs X es t wa) (hsu : DXS X j (b0 :: su) ts ws) (hsw : ∀ (pn : List (Addr × Obj)) (xe : Value → Shared → Prop), swapsWith (.Call (.Name n p5) es [] p6) none p1.line (X.tr pn xe).env = pure false)
    (hb : ∀ (W : WX) (pn : List (Addr × Obj)) (xe : Value → Shared → Prop), Takes (X.tr pn xe) W → PE (X.tr pn xe) (.Call (.Name n p5) es [] p6) (tCallS (spX (cy X) wf) (fun σ => L2.WE W σ) t)) :
    DS X (.Try [.Expr (.Call (.Name n p5) es [] p6) p1] [.ExceptHandler (some (.Name xc np)) (some nm) (b0 :: su) p4] [] [] pos)
      (fun D σ H => (tDrop (tCallS (spX (cy X) wf) (fun σ => L2.WE (wAs X.K c j ts (fun _ _ _ _ => False) D) σ) t)) D σ H) (wTryDoAs ns j ws wf wa) := by
  refine ⟨ps_try_as (X := X) (c := c) (i := j) (Wout := fun _ _ _ _ => False) (tb := fun W => tDrop (tCallS (spX (cy X) wf) (fun σ => L2.WE W σ) t)) hs hf hN hi hln hc takes0 (fun W pn xe tk _ => pss_one (ps_expr (hb W pn xe tk) (hsw pn xe))) hsu.ps, ?_⟩
  intro b ρ σ F M M0 R E Dn hw fin
  refine has.sn R _ _ hw fun as ρ1 vs F1 M1 M01 q A ar => ?_
  refine ⟨F1, M1, as, _, _, rfl, ⟨A.rel.dj, A.rel.env.nt⟩, ar.nobox q.1, q.2.2, fun d v F' h s dj r => ?_, fun x cls d H' hx ex xr => suite_ok hm hsu A hx.1 q.2.1 hx.2 fin ex xr⟩
  have A2 := A.rel.grow s dj
  exact fin.nx ρ1 σ F' M1 M01 h (A.same.trans s) A2.rel A.mr
end
end DL

/-! The parts of a printed text for exceptions with an own __init__. -/
namespace DL
open PySem PySem.Spec PyProof.Rows L2
/-- a def with the cell __class__, as the module's text has written it -/
structure FunS (P : Program) (K : PySem.W.Frag) (mg : Str → Option Value) (D cc : Addr) (x qual : Str) (st : Stmt) (f : Addr) (fd : FuncData) : Prop where
  ex : ∃ (oc : Value) (od : Option Addr) (kV doc pm : Value) (an : Option Addr) (cdv ct : Value) (osl : Array (Option Value)),
    fd = PySem.W.ksFn x qual (defArgs st) (defBody st) (defScope st) .none kV doc pm an cdv ct cc ∧ K.lookup f = some ⟨oc, od, .func fd, osl⟩ ∧ PySem.W.codeIn K cdv qual = true ∧ SupFn P K mg D cc f cdv fd "self"
theorem funS_mk {P : Program} {K : PySem.W.Frag} {mg : Str → Option Value} {D cc cda : Addr} {x qual : Str} {st : Stmt} {f : Addr} {oc ccl cl : Value} {od an cdd cld : Option Addr} {osl ccs csl : Array (Option Value)} {kV doc pm ct : Value} {vs : Array Value} {file : Str} {tf : Tok} {cdD : ClassData}
    (l : K.lookup f = some ⟨oc, od, .func (PySem.W.ksFn x qual (defArgs st) (defBody st) (defScope st) .none kV doc pm an (.ref cda) ct cc), osl⟩) (c : PySem.W.codeIn K (.ref cda) qual = true)
    (hd : ∃ ar, ((defArgs st).posonlyargs ++ (defArgs st).args).head? = some ar ∧ ar.arg = "self") (hcode : K.lookup cda = some ⟨ccl, cdd, .fields vs, ccs⟩) (hvs : vs[2]? = some (.str file tf)) (hfile : ((P.main.file : Str) == file) = true)
    (hcell : K.lookup cc = some ⟨cl, cld, .cell (some (.ref D)), csl⟩) (hD : PySem.W.clsIn K D = some cdD) (hs : mg "super" = none) (ht : PySem.W.nsIn K cStatics "thirdparty.any" = some none) (hto : (P.main.scope.names.lookup ("super" : Str)).isSome = false) :
    FunS P K mg D cc x qual st f (PySem.W.ksFn x qual (defArgs st) (defBody st) (defScope st) .none kV doc pm an (.ref cda) ct cc) :=
  ⟨oc, od, kV, doc, pm, an, _, ct, osl, rfl, l, c, ⟨_, _, _, l⟩, hd, ⟨cda, ccl, cdd, vs, ccs, file, tf, rfl, hcode, hvs, hfile⟩, ⟨cl, cld, csl, hcell⟩, ⟨_, hD⟩, hs, ht, hto⟩
def partsB (ps : List (Str ⊕ Nat)) (n : Nat) : Bool := ps.all fun p => match p with
  | .inl s => decide (s.length ≤ 1000)
  | .inr i => decide (1 ≤ i) && decide (i ≤ n)
theorem partsB_ok {ps : List (Str ⊕ Nat)} {n : Nat} (h : partsB ps n = true) : ∀ p ∈ ps, (∃ s, p = .inl s ∧ s.length ≤ 1000) ∨ ∃ i, p = .inr i ∧ 1 ≤ i ∧ i ≤ n := fun p hp => by
  have := List.all_eq_true.mp h p hp
  cases p with
  | inl s => exact .inl ⟨s, rfl, of_decide_eq_true this⟩
  | inr i =>
    have this : (decide (1 ≤ i) && decide (i ≤ n)) = true := this
    rw [Bool.and_eq_true, decide_eq_true_eq, decide_eq_true_eq] at this
    exact .inr ⟨i, rfl, this.1, this.2⟩
theorem Takn.nil {K : PySem.W.Frag} {mg : Str → Option Value} {c : Value} : Takn K mg c [] := fun _ h => nomatch h
theorem Takn.cons {K : PySem.W.Frag} {mg : Str → Option Value} {c : Value} {n : Str} {C : Addr} {ns : List Str} (h : mg n = some (.ref C)) (e : PySem.W.exmOne K (.ref C) c = some true) (r : Takn K mg c ns) : Takn K mg c (n :: ns) := fun m hm C' h' => by
  rcases List.mem_cons.mp hm with rfl | hm
  · rw [h] at h'
    cases h'
    exact e
  · exact r m hm C' h'
/-- isinstance(e, C) for exceptions of these classes -/
def IsT (K : PySem.W.Frag) (mg : Str → Option Value) (Ct : Addr) (tbl : List (Str × Bool)) : Prop := ∀ nb ∈ tbl, ∀ D, mg nb.1 = some (.ref D) → ExcC K D ∧ PySem.W.kitOne K (.ref D) (.ref Ct) = some nb.2
theorem IsT.nil {K : PySem.W.Frag} {mg : Str → Option Value} {Ct : Addr} : IsT K mg Ct [] := fun _ h => nomatch h
theorem IsT.cons {K : PySem.W.Frag} {mg : Str → Option Value} {Ct D : Addr} {n : Str} {b : Bool} {tbl : List (Str × Bool)} (h : mg n = some (.ref D)) (x : ExcC K D) (e : PySem.W.kitOne K (.ref D) (.ref Ct) = some b) (r : IsT K mg Ct tbl) : IsT K mg Ct ((n, b) :: tbl) := fun nb hm D' h' => by
  rcases List.mem_cons.mp hm with rfl | hm
  · have h' : mg n = some (.ref D') := h'
    rw [h] at h'
    cases h'
    exact ⟨x, e⟩
  · exact r nb hm D' h'
/-- THE RULE for such an __init__ -/
theorem FunS.ok {P : Program} {w : World} {K : PySem.W.Frag} {mg : Str → Option Value} {base : Heap} {D cc : Addr} {x qual : Str} {st : Stmt} {f : Addr} {fd : FuncData} {N flds : List Str} {e : Expr} {rest : List Stmt} {p0 p1 p2 p3 p4 : Pos} {parts : List (Str ⊕ Nat)} {k : Nat} (F : FunS P K mg D cc x qual st f fd)
    (S : FnScopeS N ("self" :: flds) (defScope st)) (hbd : defBody st = .Expr (.Call (.Attribute (.Call (.Name "super" p0) [] [] p1) "__init__" p2) [e] [] p3) p4 :: rest)
    (hswap : ∀ env, swapsWith (.Call (.Attribute (.Call (.Name "super" p0) [] [] p1) "__init__" p2) [e] [] p3) none p4.line env = pure false)
    (hev : ∀ (env : Env), ∃ pl, eval (.Call (.Attribute (.Call (.Name "super" p0) [] [] p1) "__init__" p2) [e] [] p3) env = (do
      let ov ← attributeBase (.Call (.Name "super" p0) [] [] p1) "__init__" env (eval (.Call (.Name "super" p0) [] [] p1) env)
      standAt p2.atName
      let (f, first) ← holding [ov] (getMethod ov "__init__" pl)
      callWith p3 f first (backTo p3 (starEach [e] env)) []))
    (hst : ∀ env, starEach [e] env = [(false, eval e env)]) (ne : flds ≠ []) (hz : flds.length ≤ 100) (hp : partsB parts flds.length = true) (hpl : parts.length ≤ 100)
    (hbody : ∀ (cdv : Value) (A : Around) (outer : List Env) (s : Shared) (H : Hp),
      PE (cxSup P w K mg base N qual (defScope st) f cc cdv A outer s H) e (tXt parts) ∧ PSs (cxSup P w K mg base N qual (defScope st) f cc cdv A outer s H) rest (trS K flds 1)) :
    FnOk P w K mg base CX0 (k + 1) f fd ("self" :: flds) (spXI K D flds) := by
  obtain ⟨oc, od, kV, doc, pm, an, cdv, ct, osl, rfl, lk, hcd, sf⟩ := F.ex
  rw [hbd] at lk sf ⊢
  have hst' : ∀ env, starEach [e] env = (false, eval e env) :: starEach [] env := fun env => by rw [hst]; rfl
  refine fn_sup (k := k) (ta := tCons (tXt parts) tNil) (tr := trS K flds 1) S lk sf rfl hcd (fun vs H Q E h => ?_) hswap hev hst' (fun env => rfl) (fun A outer s H _ => ?_) (spXI_body ne hz (partsB_ok hp) hpl)
  · obtain ⟨a, C, ys, rfl, hl, _⟩ := h
    rw [List.length_cons, List.length_cons, hl]
  · obtain ⟨h1, h2⟩ := hbody cdv A outer s H
    exact ⟨pa_cons h1 pa_nil (hst' _), h2⟩
theorem kit_sub {K : PySem.W.Frag} {D C : Addr} {b : Bool} {cd : ClassData} (h1 : PySem.W.clsIn K C = some cd) (h2 : PySem.W.typeIn K (.ref C) = some (.type "type")) (h3 : PySem.W.subIn K (.ref D) (.ref C) = some b) (h4 : (Value.ref D == Value.ref C) = false ∨ b = true) : PySem.W.kitOne K (.ref D) (.ref C) = some b := by
  have e : PySem.W.kitCls K (.ref D) (.ref C) = some b := by
    have e1 : ((PySem.W.clsIn K C).isSome && PySem.W.typeIn K (.ref C) == some (.type "type")) = true := by rw [h1, h2]; rfl
    show (if ((PySem.W.clsIn K C).isSome && PySem.W.typeIn K (.ref C) == some (.type "type")) = true then PySem.W.subIn K (.ref D) (.ref C) else none) = some b
    rw [if_pos e1]
    exact h3
  unfold PySem.W.kitOne
  rcases h4 with h4 | rfl
  · rw [h4]
    exact e
  · split
    · rfl
    · exact e
/-- a call, in a try's body -/
theorem pe_tryX {X : Cx} {k : Nat} {f : Addr} {fd : FuncData} {ps : List Str} {sp : Sp} {x : Str} {p pos : Pos} {e : Expr} {es : List Expr} {t : TA} {W : WX} (F : FnOk X.prog X.w X.K X.mg X.base (L2.CX X.prog X.w) k f fd ps sp) (hr : Room k X.A) (hg : Gl X x) (hm : X.mg x = some (.ref f))
    (hk : PySem.W.keepIn X.K (.ref f) = true) (hb : Binds X.K fd ps []) (tk : Takes X W) (ha : PA X (e :: es) t) (hdb : (x == ("__debug__" : Str)) = false := by decide) (he : starEach (e :: es) X.env = (false, eval e X.env) :: starEach es X.env := by rfl) (hpl : (backTo pos (starEach es X.env)).any (·.1) = false := by rfl) :
    PE X (.Call (.Name x p) (e :: es) [] pos) (tCallS sp (fun σ => L2.WE W σ) t) := pe_callS F hr hg hm hk hb (passAt tk) ha hdb he hpl
end DL

/-! all(..), any(..) of a generator expression whose test may be anything. -/
namespace DL
open PySem PySem.Spec PyProof.Rows L2
/-- a def's table of code objects, whatever it holds -/
def tbx (P : Addr) : HO := .ext fun h => ∃ ps : Array Value, h.get? P = some { cls := .none, data := .fields ps } ∧ TriplesOk ps.toList
theorem tbx_ok {P : Program} {w : World} {H : Hp} {h : Heap} {T : Addr} {ps : Array Value} (e : h.get? T = some { cls := .none, data := .fields ps }) (t : TriplesOk ps.toList) : ObjOk P w H h T (tbx T) :=
  ⟨⟨ps, e, t⟩, ⟨_, e⟩, fun h1 h2 z k => let ⟨qs, q, r⟩ := z; ⟨qs, k _ q, r⟩⟩
theorem tbx_at {P : Program} {w : World} {H : Hp} {h : Heap} {T : Addr} (hok : HOk P w H h) (e : H T = some (tbx T)) : ∃ ps : Array Value, h.get? T = some { cls := .none, data := .fields ps } ∧ TriplesOk ps.toList := by
  have x : ObjOk P w H h T (.ext fun h => ∃ ps : Array Value, h.get? T = some { cls := .none, data := .fields ps } ∧ TriplesOk ps.toList) := hok T _ e
  exact x.1
/-- the same state but for the generators, marks and new objects -/
theorem inv_rest {X : Cx} {pins : List (Addr × Obj)} {σ : L2.St} {H : Hp} {s s' : Shared} (I : Inv X pins σ H s) (ho : s'.os = s.os) (hg : AllBare s'.gens) (k : ∀ b o, s.heap.get? b = some o → s'.heap.get? b = some o) : Inv X pins σ H s' :=
  I.call' (ch := []) ho (Un.kept k) (I.hok.kept k) hg fun b z => nomatch z
/-- the table has grown -/
theorem inv_tbx {X : Cx} {pins : List (Addr × Obj)} {σ : L2.St} {H : Hp} {s : Shared} {T : Addr} {ps : Array Value} {h' : Heap} {t' : Nat} (I : Inv X pins σ H s) (hT : H T = some (tbx T)) (k : ∀ b o, b ≠ T → s.heap.get? b = some o → h'.get? b = some o)
    (e : h'.get? T = some { cls := .none, data := .fields ps }) (ht : TriplesOk ps.toList) : Inv X pins σ H { s with heap := h', toks := t' } := by
  have J := I.write (t' := t') (x := T) (e := T) (o := tbx T) (by rw [hT]; exact True.intro) (.inl rfl) k ⟨_, e⟩ (tbx_ok e ht)
  rwa [upd_self hT] at J
/-! ### the generator's frame -/
/-- the context of a generator expression's element -/
abbrev gxp (X : Cx) (s : Shared) (H : Hp) (scope : Scope) (cenv : Env) (fp : List Addr) (A : Around) (pn : List (Addr × Obj)) : Cx :=
  { X with A := A, s_0 := s, H_0 := H, env := cenv, outer := X.stack, stack := cenv :: X.stack, ex := fp, fn := fun x => scope.names.lookup x == some .cell, pn := pn, xe := fun _ _ => False }
/-- a generator expression's scope -/
structure GxOk (N : List Str) (sc scope : Scope) (own : List (Str × Nat)) : Prop where
  blk : BlkOk N sc scope own
  co : scope.isCoroutine = false
  nocell : ∀ y ∈ scope.names, y.2 ≠ .cell
  dot : scope.names.lookup (".0" : Str) = some NameKind.local
  dotN : (".0" : Str) ∉ N
theorem gx_start {X : Cx} {pins : List (Addr × Obj)} {σ : L2.St} {H : Hp} {s : Shared} {scope : Scope} {own : List (Str × Nat)} {fp : List Addr} {code : Value} {A : Around} {go : Obj} {it : Value} {h' : Heap} {t' : Nat} {gs : GenState} (I : Inv X pins σ H s) (ok : GxOk X.N X.env.scope scope own) (hN : X.N.Nodup)
    (hfp : ∀ b ∈ fp, FpOk X pins H b ∧ b < s.heap.objs.size) (hA : A.handled = none) (hfr : A.frames = some (genEnv scope (cloFrom X.env.cells scope.names []) s.heap.objs.size code builtinsNs X.env :: X.stack)) (hc : ∀ v, go.data ≠ .cell v) (hgo : ∀ h : Heap, (h.push go).get? h.objs.size = some go) (hgs : gs.bare = true)
    (hn : h'.Ns s.heap.objs.size (fun y => if y = ".0" then some it else none)) (hk : ∀ b o, s.heap.get? b = some o → h'.get? b = some o) (hsz : h'.objs.size = s.heap.objs.size + 1) :
    Inv (gxp X s H scope (genEnv scope (cloFrom X.env.cells scope.names []) s.heap.objs.size code builtinsNs X.env) fp A [(h'.objs.size, go)]) [] (wipe σ (own.map (·.2))) H { s with gens := s.gens.push gs, toks := t', heap := h'.push go } := by
  have hfree : ∀ y ∈ scope.names, y.2 = .free → ∃ c, X.env.cells.lookup y.1 = some c := fun y hy e => (ok.blk.free y hy e).elim (fun k => I.ok.has _ (.inl k)) fun k => I.ok.has _ (.inr k)
  have kp : ∀ b o, s.heap.get? b = some o → (h'.push go).get? b = some o := fun b o e => Heap.get?_push_of_some _ (hk b o e)
  -- the cells are those of the def
  have cm : ∀ {y c}, (cloFrom X.env.cells scope.names []).lookup y = some c → X.env.cells.lookup y = some c ∧ c < s.heap.objs.size := fun {y c} e => by
    rcases cloFrom_mem (PySem.mem_of_lookup e) with hm | ⟨h1, rfl⟩
    · cases hm
    · obtain ⟨c, hc⟩ := hfree _ h1 rfl
      rw [hc]
      obtain ⟨v, z⟩ := I.cell _ _ hc
      exact ⟨rfl, z.lt⟩
  have ch : ∀ {y}, scope.names.lookup y = some .free → ∃ c, (cloFrom X.env.cells scope.names []).lookup y = some c := fun {y} e => mem_lookup (cloFrom_has (cells := X.env.cells) (acc := []) (PySem.mem_of_lookup e))
  have nocell : ∀ {y}, scope.names.lookup y ≠ some .cell := fun {y} e => ok.nocell _ (PySem.mem_of_lookup e) rfl
  have ltS : s.heap.objs.size < h'.objs.size := by rw [hsz]; exact Nat.lt_succ_self _
  have nH : H h'.objs.size = none := I.hok.fresh (by omega)
  refine ⟨⟨I.ok.mod, ok.blk.kind, I.ok.glob, rfl, Nat.le_refl _, fun y z c e1 e2 => I.ok.inj y z c (cm e1).1 (cm e2).1, fun y hy => ?_, fun y c z _ => ?_, fun _ => hA, hfr, .inr ⟨rfl, rfl⟩, fun b hb => ⟨Nat.ne_of_lt (hfp b hb).2, fun y c e => (hfp b hb).1.2.2.2.2.1 y c (cm e).1⟩, I.bs, Nat.le_trans I.ok.bsz I.sz,
      fun b o e hb => ?_, fun b hb z => ?_, I.stack, I.stkFree⟩, rfl, AllBare.push I.bare hgs, Un.kept kp, ⟨_, hn.keeps fun b o e => Heap.get?_push_of_some _ e, fun i y v e1 e2 e3 => ?_⟩, fun y c e => ?_, I.hok.fresh (Nat.le_refl _), fun y c e => I.freeC y c (cm e).1, fun p hp => ?_, I.hok.kept kp, by rw [wipe_length]; exact I.len⟩
  · rcases hy with hy | hy
    · exact absurd hy nocell
    · exact ch hy
  · have z : (scope.names.lookup y == some NameKind.cell) = true := z
    exact absurd (by simpa using z) (nocell (y := y))
  · rcases (hfp b hb).1.2.2.2.1 with z | z
    · exact I.ok.noex b o e z
    · exact absurd (Nat.lt_of_lt_of_le (Heap.lt_size e) (Nat.le_trans I.ok.bsz z)) (Nat.lt_irrefl _)
  · rcases List.mem_cons.mp (I.stkSub b z) with z | z
    · exact (hfp b hb).1.2.1 z
    · exact (hfp b hb).1.2.2.1 z
  · -- the names that are seen there are the captured ones
    obtain ⟨e2, hne⟩ := wipe_some e2
    have notown : ∀ k, scope.names.lookup y = some k → k = .local → False := fun k hk hl => by
      subst hl
      rcases ok.blk.own _ (PySem.mem_of_lookup hk) (.inl rfl) with e' | e'
      · obtain ⟨p, hp, hpy⟩ := List.mem_map.mp e'
        have e4 := ok.blk.ix p hp
        rw [show p.1 = y from hpy] at e4
        exact hne (List.mem_map.mpr ⟨p, hp, nodup_ix hN e4 e1⟩)
      · exact e' (List.mem_of_getElem? e1)
    have hf : scope.names.lookup y = some .free := by
      rcases e3 with e3 | e3 | e3
      · exact (notown _ e3 rfl).elim
      · exact absurd e3 nocell
      · exact e3
    obtain ⟨c, hc1⟩ := ch hf
    have hc2 := (cm hc1).1
    obtain ⟨m, _, hl⟩ := I.loc
    have hv : X.env.scope.names.lookup y = some .cell ∨ X.env.scope.names.lookup y = some .free := ok.blk.free _ (PySem.mem_of_lookup hf) rfl
    obtain ⟨u, r, q⟩ := hl i y v e1 e2 (.inr hv)
    refine ⟨u, r, .inr ⟨.inr hf, c, hc1, ?_⟩⟩
    rcases q with ⟨k, _⟩ | ⟨_, c', e', z⟩
    · have k : X.env.scope.names.lookup y = some .local := k
      rcases hv with k' | k' <;> rw [k'] at k <;> cases k
    · rw [hc2] at e'
      cases e'
      exact z.keeps kp
  · obtain ⟨v, z⟩ := I.cell y c (cm e).1
    exact ⟨v, z.keeps kp⟩
  · have hp : p ∈ [(h'.objs.size, go)] := by simpa using hp
    rw [List.mem_singleton.mp hp]
    refine ⟨hgo h', nH, fun z => ?_, fun z => ?_, hc⟩
    · have z' : h'.objs.size = s.heap.objs.size := z
      omega
    · rcases List.mem_cons.mp (I.stkSub _ z) with z | z
      · exact Nat.ne_of_gt (Nat.lt_trans I.lt ltS) z
      · exact I.nofs (a := h'.objs.size) (by omega) z

/-! ### the generator runs -/
section
variable {X : Cx} {elt tg iter : Expr} {scope : Scope} {gpos : Pos} {it : Addr} {fp : List Addr} {tn : Nat → Heap → Prop} {J : L2.It} {g : TG} {te : TE} {vs : List Nat} {u : Bool} {Q : VK} {W : Nat → Nat → Hp → Prop} {σ : L2.St}
/-- one turn, from W on -/
def GxTurn (u : Bool) (J : L2.It) (g : TG) (te : TE) (vs : List Nat) (Q : VK) (σ : L2.St) (W : Nat → Nat → Hp → Prop) : Prop := ∀ i m H, W i m H →
  (J.stop i H ∧ Q (.bl u) H) ∨ (J.go i H ∧ 0 < m ∧ ∃ Nx : Hp → Prop, (∀ H', Nx H' → ∃ m', m' < m ∧ W (i + 1) m' H') ∧ ∀ x H', J.yld i H x H' → g x (wipe σ vs) H' fun σ2 H2 => wipe σ2 vs = wipe σ vs ∧ te σ2 H2 fun y H3 => ∃ b, y = .bl b ∧ (b = u → Nx H3) ∧ (b = !u → Q (.bl (!u)) H3))
/-- what holds between two turns -/
def GxAt (XG : Cx) (fp : List Addr) (tn : Nat → Heap → Prop) (vs : List Nat) (σ : L2.St) (W : Nat → Nat → Hp → Prop) (m : Nat) (s : Shared) : Prop :=
  ∃ i H, Inv XG [] (wipe σ vs) H s ∧ tn i s.heap ∧ (∀ b ∈ fp, H b = none) ∧ W i m H
/-- an item: whether the walk goes on -/
def GxY (XG : Cx) (fp : List Addr) (tn : Nat → Heap → Prop) (vs : List Nat) (σ : L2.St) (W : Nat → Nat → Hp → Prop) (u : Bool) (Q : VK) : Protocol := fun n s₀ v s kap =>
  ∃ b, v = .bool b ∧ (b = u → ∃ m, m ≤ n ∧ GxAt XG fp tn vs σ W m s ∧ ∀ s', s'.heap = s.heap → s'.os = s.os → AllBare s'.gens → kap (.send .none) s') ∧ (b = !u → ∃ H, Inv XG [] (wipe σ vs) H s ∧ Q (.bl (!u)) H)
def GxR (XG : Cx) (vs : List Nat) (σ : L2.St) (u : Bool) (Q : VK) : GenEnd := fun n s₀ r s => r = .ok .next ∧ ∃ H, Inv XG [] (wipe σ vs) H s ∧ Q (.bl u) H
theorem compTurn_gx (pos : Pos) (it acc : Value) (env : Env) : compTurn (.GeneratorExp elt [⟨tg, iter, [], 0⟩] scope pos) 0 it acc env = (do
    standAt iter.pos
    match ← pyNext it with
    | none => pure (.done .next)
    | some v =>
      letOwnedTupleGo tg it v
      assign tg env v
      (do let v ← eval elt env; standAt elt.pos; let _ ← yieldOut env v)
      again (.compLoop (.GeneratorExp elt [⟨tg, iter, [], 0⟩] scope pos) 0 it acc env)) := by rfl
theorem seg_gx {s : Shared} {H0 : Hp} {cenv : Env} {A : Around} {pn : List (Addr × Obj)} {pos : Pos} (hc : X.calm = true) (hsc : cenv.scope.isCoroutine = false) (T : Turn X.prog X.w X.K tg J fp it tn)
    (hpn : ∀ b ∈ fp, ∀ p ∈ pn, p.1 ≠ b)
    (hg : PG (gxp X s H0 scope cenv fp (A.over (.compLoop (.GeneratorExp elt [⟨tg, iter, [], 0⟩] scope pos) 0 (.ref it) .none cenv) []) pn) tg g) (he : PE (gxp X s H0 scope cenv fp (A.over (.compLoop (.GeneratorExp elt [⟨tg, iter, [], 0⟩] scope pos) 0 (.ref it) .none cenv) []) pn) elt te)
    (turn : GxTurn u J g te vs Q σ W) : ∀ (n m : Nat) (s0 s1 : Shared), m ≤ n → GxAt (gxp X s H0 scope cenv fp (A.over (.compLoop (.GeneratorExp elt [⟨tg, iter, [], 0⟩] scope pos) 0 (.ref it) .none cenv) []) pn) fp tn vs σ W m s1 →
      Seg (model X.prog X.w) A (GxR (gxp X s H0 scope cenv fp (A.over (.compLoop (.GeneratorExp elt [⟨tg, iter, [], 0⟩] scope pos) 0 (.ref it) .none cenv) []) pn) vs σ u Q)
        (GxY (gxp X s H0 scope cenv fp (A.over (.compLoop (.GeneratorExp elt [⟨tg, iter, [], 0⟩] scope pos) 0 (.ref it) .none cenv) []) pn) fp tn vs σ W u Q) n s0
        (.compLoop (.GeneratorExp elt [⟨tg, iter, [], 0⟩] scope pos) 0 (.ref it) .none cenv) ((model X.prog X.w).den (.compLoop (.GeneratorExp elt [⟨tg, iter, [], 0⟩] scope pos) 0 (.ref it) .none cenv)) [] s1 := by
  generalize hA : A.over (.compLoop (.GeneratorExp elt [⟨tg, iter, [], 0⟩] scope pos) 0 (.ref it) .none cenv) [] = A2 at hg he
  have stat : ∀ {σ' : L2.St} {H' : Hp} {s' : Shared}, Inv (gxp X s H0 scope cenv fp A2 pn) [] σ' H' s' → (∀ b ∈ fp, H' b = none) → ∀ b ∈ fp, FpOk (gxp X s H0 scope cenv fp A2 pn) [] H' b := fun {σ' H' s'} I' hn b hb =>
    ⟨hn b hb, (I'.ok.exf b hb).1, I'.ok.exfs b hb, .inl hb, fun x c e => (I'.ok.exf b hb).2 x c e, fun p hp => hpn b hb p (by simpa using hp)⟩
  have hy : ∀ v, yieldOut cenv v = yieldValue v := fun v => by simp only [yieldOut, hsc, Bool.false_eq_true, if_false]
  intro n
  induction n with
  | zero =>
    intro m s0 s1 hm ⟨i, H, I, st, nf, w⟩
    show Seg _ A _ _ _ s0 _ ((compTurn (.GeneratorExp elt [⟨tg, iter, [], 0⟩] scope pos) 0 (.ref it) .none cenv).onRaise (leaving cenv)) [] s1
    rw [compTurn_gx, Sem.onRaise_eq_wrap]
    refine seg_bind_wrap (wpAny_standAt ?_)
    refine seg_bind_wrap ?_
    rw [hA]
    rcases turn i m H w with ⟨stop, q⟩ | ⟨_, z, _⟩
    · refine thnF (T.done (gxp X s H0 scope cenv fp A2 pn) rfl rfl rfl hc i [] s1 _ H (fun _ _ => False) I (stat I nf) st stop) fun r s2 ⟨hr, I2⟩ => ?_
      subst hr
      exact seg_end (.ok .next) ⟨rfl, H, I2, q⟩
    · exact absurd z (by omega)
  | succ n ih =>
    intro m s0 s1 hm ⟨i, H, I, st, nf, w⟩
    show Seg _ A _ _ _ s0 _ ((compTurn (.GeneratorExp elt [⟨tg, iter, [], 0⟩] scope pos) 0 (.ref it) .none cenv).onRaise (leaving cenv)) [] s1
    rw [compTurn_gx, Sem.onRaise_eq_wrap]
    refine seg_bind_wrap (wpAny_standAt ?_)
    refine seg_bind_wrap ?_
    rw [hA]
    rcases turn i m H w with ⟨stop, q⟩ | ⟨go, _, Nx, hNx, step⟩
    · refine thnF (T.done (gxp X s H0 scope cenv fp A2 pn) rfl rfl rfl hc i [] s1 _ H (fun _ _ => False) I (stat I nf) st stop) fun r s2 ⟨hr, I2⟩ => ?_
      subst hr
      exact seg_end (.ok .next) ⟨rfl, H, I2, q⟩
    · refine thnF (T.item (gxp X s H0 scope cenv fp A2 pn) rfl rfl rfl hc i [] s1 _ H (fun _ _ => False) I (stat I nf) st go) fun r s2 ⟨uv, hr, h2⟩ => ?_
      subst hr
      refine seg_bind_wrap ?_
      rw [hA]
      refine thnF h2 fun _ s3 ⟨x, H3, I3, r3, y3, st3, n3⟩ => ?_
      have I3' := I3.pinned (stat I3 n3) (T.obj _ _ st3)
      refine seg_bind_wrap ?_
      rw [hA]
      refine thnF (hg.run _ s3 _ H3 x uv _ I3' r3 (step x H3 y3)) fun _ s4 ⟨σ4, H4, I4, hw4, q4⟩ => ?_
      simp only [hy]
      rw [Sem.bind_eq_wrap', Sem.bind_eq_wrap', Sem.wrap_wrap, Sem.wrap_wrap]
      refine seg_wrap ?_
      rw [hA]
      refine thnF (he.run _ s4 σ4 H4 _ I4 q4) fun v s5 ⟨y, H5, I5, r5, b, ey, hbu, hbn⟩ => ?_
      subst ey
      obtain rfl : v = Value.bool b := r5
      -- the frame's slots are forgotten, the iterator stands
      have pin5 : ∀ b ∈ fp, ∀ o, s3.heap.get? b = some o → s5.heap.get? b = some o ∧ H5 b = none := fun b hb o e =>
        let z := I5.pin (b, o) (List.mem_append_right _ (List.mem_append_right _ (mem_pinsAt hb e)))
        ⟨z.1, z.2.1⟩
      have J5 : Inv (gxp X s H0 scope cenv fp A2 pn) [] (wipe σ vs) H5 s5 := by
        refine (I5.unpinned (pins := [])).weak (by rw [← hw4, wipe_length]) fun j v e => ?_
        rw [← hw4] at e
        exact (wipe_some e).1
      have st5 : tn (i + 1) s5.heap := T.keep _ _ _ st3 fun b hb o e => (pin5 b hb o e).1
      have n5 : ∀ b ∈ fp, H5 b = none := fun b hb => by
        obtain ⟨o, e, _⟩ := T.obj _ _ st3 b hb
        exact (pin5 b hb o e).2
      refine seg_at (seg_yield rfl rfl rfl ⟨b, rfl, fun hb => ?_, fun hb => ⟨H5, J5, hbn hb⟩⟩)
      obtain ⟨m', hm', w'⟩ := hNx H5 (hbu hb)
      refine ⟨m', by omega, ⟨i + 1, H5, J5, st5, n5, w'⟩, fun s' eh eo eg => seg_again rfl (ih m' s' s' (by omega) ⟨i + 1, H5, ?_, by rw [eh]; exact st5, n5, w'⟩)⟩
      exact inv_rest J5 eo eg fun b o e => by rw [eh]; exact e
end

theorem gx_loop_all {XG : Cx} {fp : List Addr} {tn : Nat → Heap → Prop} {vs : List Nat} {σ : L2.St} {W : Nat → Nat → Hp → Prop} {Q : VK} {A : Around} {a : Addr} {gi : Nat} {go : Obj} {R : Result → Shared → Prop} (hh : A.handled = none) (hd : A.depth < recursionLimit)
    (hpn : (a, go) ∈ XG.pn) (hgo : go.cls = .type "generator" ∧ (∃ nm qn, go.data = .fields #[.int gi 0, nm, qn]) ∧ go.slots = #[]) (fin : ∀ b s' H', Inv XG [] (wipe σ vs) H' s' → Q (.bl b) H' → R (.ok (.ret (.bool b))) s') :
    ∀ (n : Nat) (s : Shared), s.heap.IsGen a gi → s.heap.NoLimit → (∃ gs, s.gens[gi]? = some gs ∧ gs.Goes (model XG.prog XG.w) A.in1.in1 (GxR XG vs σ true Q) (GxY XG fp tn vs σ W true Q) n (.send .none) (s.setGen gi .running)) →
      codeAny (model XG.prog XG.w) A (.builtin "all.loop" ⟨[.ref a], []⟩) R s := by
  have isg : ∀ {H : Hp} {s : Shared}, Inv XG [] (wipe σ vs) H s → s.heap.IsGen a gi := fun {H s} I => by
    obtain ⟨h1, ⟨nm, qn, h2⟩, h3⟩ := hgo
    exact ⟨go, nm, qn, (I.pin (a, go) (List.mem_append_left _ hpn)).1, h1, h2, h3⟩
  have ended : ∀ {H : Hp} {s s' : Shared}, Inv XG [] (wipe σ vs) H s → ∀ x : GenState, x.bare = true → ∀ h', (∀ b o, s.heap.get? b = some o → h'.get? b = some o) → Inv XG [] (wipe σ vs) H { s.setGen gi x with heap := h' } := fun {H s s'} I x hx h' hk =>
    inv_rest I rfl (allBare_setGen I.bare hx) hk
  intro n
  induction n with
  | zero =>
    intro s hg hl ⟨gs, hgs, hgo2⟩
    refine codeAny_builtin F.entry_all_loop ?_
    rw [Around.under_plainId F.plain_all_loop _]
    show wpAny _ A.in1 (pyNext (.ref a) >>= _) _ _ s
    refine wpAny_bind (wpAny_pyNext_genexpQ (A := A.in1) (P := fun _ _ s1 => ∃ H, Inv XG [] (wipe σ vs) H s1 ∧ Q (.bl true) H) hh hl hd hg hgs hgo2 (fun v s1 gs' hb hv => ?_) (fun s1 hp h' hk => ?_))
    · obtain ⟨b, rfl, h1, h2⟩ := hv
      by_cases z : b = true
      · obtain ⟨m, _, ⟨i, H, I, _⟩, hk⟩ := h1 z
        exact (hk s1 rfl rfl I.bare).elim
      · obtain ⟨H, I, q⟩ := h2 (by cases b <;> simp at z ⊢)
        obtain rfl : b = false := by cases b <;> simp at z ⊢
        refine wpAny_bind (wpAny_holding (wpAny_truthy_bool ?_))
        refine wpAny_bind (wpAny_letGo ?_)
        first | simp only [Bool.false_eq_true, if_false] | skip
        refine wpAny_bind (wpAny_rule (wpAny_pure ?_))
        exact fin false _ H (ended (s' := s1) I gs' hb _ fun _ _ e => e) q
    · obtain ⟨H, I, q⟩ := hp
      exact wpAny_bind (wpAny_rule (wpAny_pure (fin true _ H (ended (s' := s1) I .finished rfl h' hk) q)))
  | succ n ih =>
    intro s hg hl ⟨gs, hgs, hgo2⟩
    have hgl : gi < s.gens.size := (Array.getElem?_eq_some_iff.mp hgs).1
    refine codeAny_builtin F.entry_all_loop ?_
    rw [Around.under_plainId F.plain_all_loop _]
    show wpAny _ A.in1 (pyNext (.ref a) >>= _) _ _ s
    refine wpAny_bind (GenW.wpAny_gsz (n := gi + 1) hgl (wpAny_pyNext_genexpQ (A := A.in1) (P := fun _ _ s1 => ∃ H, Inv XG [] (wipe σ vs) H s1 ∧ Q (.bl true) H) hh hl hd hg hgs hgo2 (fun v s1 gs' hb hv => ?_) (fun s1 hp h' hk => ?_)))
    · intro hsz
      have hs1 : gi < s1.gens.size := by
        have hsz' : gi + 1 ≤ (s1.setGen gi gs').gens.size := hsz
        rw [GenW.setGen_size] at hsz'
        omega
      obtain ⟨b, rfl, h1, h2⟩ := hv
      by_cases z : b = true
      · obtain ⟨m, _, ⟨i, H, I, _⟩, hk⟩ := h1 z
        subst z
        refine wpAny_bind (wpAny_holding (wpAny_truthy_bool ?_))
        refine wpAny_bind (wpAny_letGo ?_)
        first | simp only [if_true] | skip
        refine wpAny_pure ⟨plainId_quiet F.plain_all_loop _, ih _ (show s1.heap.IsGen a gi from isg I) (show s1.heap.NoLimit from I.nolimit) ⟨gs', setGen_at hs1, ?_⟩⟩
        exact hk _ rfl rfl (allBare_setGen (s := s1.setGen gi gs') (allBare_setGen I.bare hb) rfl)
      · obtain ⟨H, I, q⟩ := h2 (by cases b <;> simp at z ⊢)
        obtain rfl : b = false := by cases b <;> simp at z ⊢
        refine wpAny_bind (wpAny_holding (wpAny_truthy_bool ?_))
        refine wpAny_bind (wpAny_letGo ?_)
        first | simp only [Bool.false_eq_true, if_false] | skip
        refine wpAny_bind (wpAny_rule (wpAny_pure ?_))
        exact fin false _ H (ended (s' := s1) I gs' hb _ fun _ _ e => e) q
    · intro _
      obtain ⟨H, I, q⟩ := hp
      exact wpAny_bind (wpAny_rule (wpAny_pure (fin true _ H (ended (s' := s1) I .finished rfl h' hk) q)))

theorem gx_loop_any {XG : Cx} {fp : List Addr} {tn : Nat → Heap → Prop} {vs : List Nat} {σ : L2.St} {W : Nat → Nat → Hp → Prop} {Q : VK} {A : Around} {a : Addr} {gi : Nat} {go : Obj} {R : Result → Shared → Prop} (hh : A.handled = none) (hd : A.depth < recursionLimit)
    (hpn : (a, go) ∈ XG.pn) (hgo : go.cls = .type "generator" ∧ (∃ nm qn, go.data = .fields #[.int gi 0, nm, qn]) ∧ go.slots = #[]) (fin : ∀ b s' H', Inv XG [] (wipe σ vs) H' s' → Q (.bl b) H' → R (.ok (.ret (.bool b))) s') :
    ∀ (n : Nat) (s : Shared), s.heap.IsGen a gi → s.heap.NoLimit → (∃ gs, s.gens[gi]? = some gs ∧ gs.Goes (model XG.prog XG.w) A.in1.in1 (GxR XG vs σ false Q) (GxY XG fp tn vs σ W false Q) n (.send .none) (s.setGen gi .running)) →
      codeAny (model XG.prog XG.w) A (.builtin "any.loop" ⟨[.ref a], []⟩) R s := by
  have isg : ∀ {H : Hp} {s : Shared}, Inv XG [] (wipe σ vs) H s → s.heap.IsGen a gi := fun {H s} I => by
    obtain ⟨h1, ⟨nm, qn, h2⟩, h3⟩ := hgo
    exact ⟨go, nm, qn, (I.pin (a, go) (List.mem_append_left _ hpn)).1, h1, h2, h3⟩
  have ended : ∀ {H : Hp} {s s' : Shared}, Inv XG [] (wipe σ vs) H s → ∀ x : GenState, x.bare = true → ∀ h', (∀ b o, s.heap.get? b = some o → h'.get? b = some o) → Inv XG [] (wipe σ vs) H { s.setGen gi x with heap := h' } := fun {H s s'} I x hx h' hk =>
    inv_rest I rfl (allBare_setGen I.bare hx) hk
  intro n
  induction n with
  | zero =>
    intro s hg hl ⟨gs, hgs, hgo2⟩
    refine codeAny_builtin F.entry_any_loop ?_
    rw [Around.under_plainId F.plain_any_loop _]
    show wpAny _ A.in1 (pyNext (.ref a) >>= _) _ _ s
    refine wpAny_bind (wpAny_pyNext_genexpQ (A := A.in1) (P := fun _ _ s1 => ∃ H, Inv XG [] (wipe σ vs) H s1 ∧ Q (.bl false) H) hh hl hd hg hgs hgo2 (fun v s1 gs' hb hv => ?_) (fun s1 hp h' hk => ?_))
    · obtain ⟨b, rfl, h1, h2⟩ := hv
      by_cases z : b = false
      · obtain ⟨m, _, ⟨i, H, I, _⟩, hk⟩ := h1 z
        exact (hk s1 rfl rfl I.bare).elim
      · obtain ⟨H, I, q⟩ := h2 (by cases b <;> simp at z ⊢)
        obtain rfl : b = true := by cases b <;> simp at z ⊢
        refine wpAny_bind (wpAny_holding (wpAny_truthy_bool ?_))
        refine wpAny_bind (wpAny_letGo ?_)
        first | simp only [if_true] | skip
        refine wpAny_bind (wpAny_rule (wpAny_pure ?_))
        exact fin true _ H (ended (s' := s1) I gs' hb _ fun _ _ e => e) q
    · obtain ⟨H, I, q⟩ := hp
      exact wpAny_bind (wpAny_rule (wpAny_pure (fin false _ H (ended (s' := s1) I .finished rfl h' hk) q)))
  | succ n ih =>
    intro s hg hl ⟨gs, hgs, hgo2⟩
    have hgl : gi < s.gens.size := (Array.getElem?_eq_some_iff.mp hgs).1
    refine codeAny_builtin F.entry_any_loop ?_
    rw [Around.under_plainId F.plain_any_loop _]
    show wpAny _ A.in1 (pyNext (.ref a) >>= _) _ _ s
    refine wpAny_bind (GenW.wpAny_gsz (n := gi + 1) hgl (wpAny_pyNext_genexpQ (A := A.in1) (P := fun _ _ s1 => ∃ H, Inv XG [] (wipe σ vs) H s1 ∧ Q (.bl false) H) hh hl hd hg hgs hgo2 (fun v s1 gs' hb hv => ?_) (fun s1 hp h' hk => ?_)))
    · intro hsz
      have hs1 : gi < s1.gens.size := by
        have hsz' : gi + 1 ≤ (s1.setGen gi gs').gens.size := hsz
        rw [GenW.setGen_size] at hsz'
        omega
      obtain ⟨b, rfl, h1, h2⟩ := hv
      by_cases z : b = false
      · obtain ⟨m, _, ⟨i, H, I, _⟩, hk⟩ := h1 z
        subst z
        refine wpAny_bind (wpAny_holding (wpAny_truthy_bool ?_))
        refine wpAny_bind (wpAny_letGo ?_)
        first | simp only [Bool.false_eq_true, if_false] | skip
        refine wpAny_pure ⟨plainId_quiet F.plain_any_loop _, ih _ (show s1.heap.IsGen a gi from isg I) (show s1.heap.NoLimit from I.nolimit) ⟨gs', setGen_at hs1, ?_⟩⟩
        exact hk _ rfl rfl (allBare_setGen (s := s1.setGen gi gs') (allBare_setGen I.bare hb) rfl)
      · obtain ⟨H, I, q⟩ := h2 (by cases b <;> simp at z ⊢)
        obtain rfl : b = true := by cases b <;> simp at z ⊢
        refine wpAny_bind (wpAny_holding (wpAny_truthy_bool ?_))
        refine wpAny_bind (wpAny_letGo ?_)
        first | simp only [if_true] | skip
        refine wpAny_bind (wpAny_rule (wpAny_pure ?_))
        exact fin true _ H (ended (s' := s1) I gs' hb _ fun _ _ e => e) q
    · intro _
      obtain ⟨H, I, q⟩ := hp
      exact wpAny_bind (wpAny_rule (wpAny_pure (fin false _ H (ended (s' := s1) I .finished rfl h' hk) q)))

/-! ### the rule -/
def tGx (u : Bool) (Tb : Addr) (wi : TI) (g : TG) (te : TE) (vs : List Nat) : TE := fun σ H Q => wi σ H fun J H1 => H1 Tb = some (tbx Tb) ∧ ∃ W : Nat → Nat → Hp → Prop, (∃ m, W 0 m H1) ∧ GxTurn u J g te vs Q σ W
theorem gx_made {X : Cx} {elt tg iter : Expr} {scope : Scope} {own : List (Str × Nat)} {gpos : Pos} {c Tb : Addr} {wi : TI} {g : TG} {te : TE} {k : Nat} {u : Bool} {pins : List (Addr × Obj)} {s : Shared} {σ : L2.St} {H : Hp} {Q : VK} {Qf : Value → Shared → Prop} (hr : Room (k + 1) X.A) (hN : X.N.Nodup) (hc : X.calm = true)
    (TB : GxR.TabB X.base X.mg c Tb) (hcode : X.env.code = .ref c) (ok : GxOk X.N X.env.scope scope own) (hi : PI X tg iter wi)
    (hg : ∀ (s : Shared) (H : Hp) (C : Addr) (cl : List (Str × Addr)) (fp : List Addr) (A : Around) (pn : List (Addr × Obj)) (code : Value), PG (gxp X s H scope (genEnv scope cl C code builtinsNs X.env) fp A pn) tg g)
    (he : ∀ (s : Shared) (H : Hp) (C : Addr) (cl : List (Str × Addr)) (fp : List Addr) (A : Around) (pn : List (Addr × Obj)) (code : Value), Room k A → PE (gxp X s H scope (genEnv scope cl C code builtinsNs X.env) fp A pn) elt te)
    (hs : ∀ v, genFold iter X.env v = pure v) (I : Inv X pins σ H s) (h : tGx u Tb wi g te (own.map (·.2)) σ H Q)
    (hQ : ∀ (a : Addr) (gi : Nat) (go : Obj) (s5 : Shared) (XG : Cx) (fp : List Addr) (tn : Nat → Heap → Prop) (W : Nat → Nat → Hp → Prop), XG.prog = X.prog → XG.w = X.w → (a, go) ∈ XG.pn → (go.cls = .type "generator" ∧ (∃ nm qn, go.data = .fields #[.int gi 0, nm, qn]) ∧ go.slots = #[]) → s5.heap.IsGen a gi → s5.heap.NoLimit →
      (∃ gs n, s5.gens[gi]? = some gs ∧ gs.Goes (model XG.prog XG.w) X.A.in1.in1 (GxR XG (own.map (·.2)) σ u Q) (GxY XG fp tn (own.map (·.2)) σ W u Q) n (.send .none) (s5.setGen gi .running)) → True →
      (∀ b s' H', Inv XG [] (wipe σ (own.map (·.2))) H' s' → Q (.bl b) H' → EP X pins σ Q (.bool b) s') → Qf (.ref a) s5) :
    wpAny (model X.prog X.w) X.A (eval (.GeneratorExp elt [⟨tg, iter, [], 0⟩] scope gpos) X.env) Qf X.xe s := by
  have hfree : ∀ y ∈ scope.names, y.2 = .free → ∃ c, X.env.cells.lookup y.1 = some c := fun y hy e => (ok.blk.free y hy e).elim (fun k => I.ok.has _ (.inl k)) fun k => I.ok.has _ (.inr k)
  refine wpAny_GeneratorExp_make ok.co (closure_ok hfree) ok.nocell ok.dot ok.blk.kind (by have := hr.dp; omega) ?_ hs
  refine thn (hi.run pins s σ H _ I h) fun xv s1 hx => thn hx fun itv s2 h2 => ?_
  obtain ⟨it, fp, tn, J, H2, rfl, I2, T, st2, f2, hT, W, ⟨m0, w0⟩, turn⟩ := h2
  refine ⟨I2.nolimit, ?_⟩
  obtain ⟨ps, hTs, htr⟩ := tbx_at I2.hok hT
  have cd : PySem.W.CodeHd s2.heap c Tb := TB.code.keeps I2.bk
  have sz2 : ∀ b ∈ fp, b < s2.heap.objs.size := fun b hb => by
    obtain ⟨o, e, _⟩ := T.obj _ _ st2 b hb
    exact Heap.lt_size e
  have nT : ∀ b ∈ fp, b ≠ Tb := fun b hb z => by
    have := (f2 b hb).1
    rw [z, hT] at this
    cases this
  -- behind the code object
  have cont : ∀ (code : Value) (h3 : Heap) (tk : Nat) (ps' : Array Value), Heap.ExtBut Tb s2.heap h3 → s2.heap.objs.size ≤ h3.objs.size → h3.get? Tb = some { cls := .none, data := .fields ps' } → TriplesOk ps'.toList →
      wpAny (model X.prog X.w) X.A (builtinsFor X.env.globals X.env.builtins) (fun bi s4 => ∀ h', h'.Ns s4.heap.objs.size (fun y => if y = ".0" then some (.ref it) else none) → Heap.SameBut s4.heap.objs.size (s4.heap.push { cls := .type "frame", data := .dict #[] }) h' →
        Qf (.ref h'.objs.size) { s4 with
          gens := s4.gens.push (.fresh (.compStart (.GeneratorExp elt [⟨tg, iter, [], 0⟩] scope gpos) 0 (.ref it) .none (genEnv scope (cloFrom X.env.cells scope.names []) s4.heap.objs.size code bi X.env))),
          toks := s4.toks + 1 + 1 + 1,
          heap := h'.push { cls := .type "generator", data := .fields #[.int s4.gens.size 0, .str "<genexpr>" (s4.toks + 1), .str (X.env.qual ++ "<genexpr>") (s4.toks + 1 + 1)] } }) X.xe { s2 with heap := h3, toks := tk } := by
    intro code h3 tk ps' hx hsz hT3 ht3
    have I3 : Inv X pins σ H2 { s2 with heap := h3, toks := tk } := inv_tbx I2 hT (fun b o hb e => hx b o hb e) hT3 ht3
    obtain ⟨bm, ob, e1, e2, _, _, e5, e6, e7, e8⟩ := TB.bm
    refine wpAny_builtinsFor (m := X.mg) (by rw [I.ok.glob]; exact I3.mod.glob.keeps I3.bk) e1 e2 (I3.bk _ _ e5) e6 e7 e8 ?_
    intro h' hn hsb
    generalize hs3 : ({ s2 with heap := h3, toks := tk } : Shared) = s3 at *
    have eh3 : s3.heap = h3 := by rw [← hs3]
    have sz3 : h'.objs.size = s3.heap.objs.size + 1 := by rw [hsb.1, Heap.size_push]
    have k3 : ∀ b o, s3.heap.get? b = some o → h'.get? b = some o := fun b o e => hsb.extBut b o (Nat.ne_of_lt (Heap.lt_size e)) (Heap.get?_push_of_some _ e)
    have f3 : ∀ b ∈ fp, FpOk X pins H2 b ∧ b < s3.heap.objs.size := fun b hb => ⟨f2 b hb, by rw [eh3]; exact Nat.lt_of_lt_of_le (sz2 b hb) hsz⟩
    generalize hce : genEnv scope (cloFrom X.env.cells scope.names []) s3.heap.objs.size code builtinsNs X.env = ce
    generalize hgo : ({ cls := .type "generator", data := .fields #[.int s3.gens.size 0, .str "<genexpr>" (s3.toks + 1), .str (X.env.qual ++ "<genexpr>") (s3.toks + 1 + 1)] } : Obj) = go
    have ego : go.cls = .type "generator" ∧ (∃ nm qn, go.data = .fields #[.int s3.gens.size 0, nm, qn]) ∧ go.slots = #[] := by rw [← hgo]; exact ⟨rfl, ⟨_, _, rfl⟩, rfl⟩
    have goP : ∀ h : Heap, (h.push go).get? h.objs.size = some go := fun h => by rw [← hgo]; exact Heap.get?_push_size _ rfl
    generalize hA : (X.A.in1.in1).over (.compLoop (.GeneratorExp elt [⟨tg, iter, [], 0⟩] scope gpos) 0 (.ref it) .none ce) [] = A2
    have hA1 : A2.handled = none := by rw [← hA]; exact hr.hd
    have hAr : Room k A2 := by
      have d1 := hr.dp
      have d2 := hr.un
      have q1 : A2.depth = X.A.depth + 1 := by rw [← hA]; rfl
      have q2 : A2.units = X.A.units + 1 + 1 + 3 := by rw [← hA]; rfl
      exact ⟨hA1, by rw [q1]; omega, by rw [q2]; omega⟩
    have hAf : A2.frames = some (ce :: X.stack) := by
      rw [← hA]
      show pushEnvs [ce] (pushEnvs [] X.A.frames) = _
      rw [I.ok.frames]
      rfl
    have I5 := gx_start (code := code) (A := A2) (go := go) (it := .ref it) (h' := h') (t' := s3.toks + 1 + 1 + 1) (gs := .fresh (.compStart (.GeneratorExp elt [⟨tg, iter, [], 0⟩] scope gpos) 0 (.ref it) .none ce)) I3 ok hN f3 hA1 (by rw [hce]; exact hAf) (fun v z => by obtain ⟨_, ⟨nm, qn, e⟩, _⟩ := ego; rw [e] at z; cases z) goP rfl hn k3 sz3
    rw [hce] at I5
    generalize hs5 : ({ s3 with gens := s3.gens.push (.fresh (.compStart (.GeneratorExp elt [⟨tg, iter, [], 0⟩] scope gpos) 0 (.ref it) .none ce)), toks := s3.toks + 1 + 1 + 1, heap := h'.push go } : Shared) = s5 at I5
    have k5 : ∀ b o, s3.heap.get? b = some o → s5.heap.get? b = some o := fun b o e => by rw [← hs5]; exact Heap.get?_push_of_some _ (k3 b o e)
    have st5 : tn 0 s5.heap := T.keep _ _ _ st2 fun b hb o e => k5 b o (by rw [eh3]; exact hx b o (nT b hb) e)
    have gen5 : s5.gens[s3.gens.size]? = some (.fresh (.compStart (.GeneratorExp elt [⟨tg, iter, [], 0⟩] scope gpos) 0 (.ref it) .none ce)) := by rw [← hs5]; exact Array.getElem?_push_size ..
    have isg : s5.heap.IsGen h'.objs.size s3.gens.size := by
      obtain ⟨g1, ⟨nm, qn, g2⟩, g3⟩ := ego
      exact ⟨go, nm, qn, by rw [← hs5]; exact goP h', g1, g2, g3⟩
    have hpn : ∀ b ∈ fp, ∀ q ∈ [(h'.objs.size, go)], q.1 ≠ b := fun b hb q hq z => by
      rw [List.mem_singleton.mp hq] at z
      have z' : h'.objs.size = b := z
      have := (f3 b hb).2
      rw [← z', sz3] at this
      exact Nat.lt_irrefl _ (Nat.lt_trans (Nat.lt_succ_self _) this)
    have pg := hg s3 H2 s3.heap.objs.size (cloFrom X.env.cells scope.names []) fp A2 [(h'.objs.size, go)] code
    have pe := he s3 H2 s3.heap.objs.size (cloFrom X.env.cells scope.names []) fp A2 [(h'.objs.size, go)] code hAr
    rw [hce] at pg pe
    have hsc : ce.scope.isCoroutine = false := by rw [← hce]; exact ok.co
    have seg : ∀ (s0 s1 : Shared), GxAt (gxp X s3 H2 scope ce fp A2 [(h'.objs.size, go)]) fp tn (own.map (·.2)) σ W m0 s1 →
        Seg (model X.prog X.w) X.A.in1.in1 (GxR (gxp X s3 H2 scope ce fp A2 [(h'.objs.size, go)]) (own.map (·.2)) σ u Q) (GxY (gxp X s3 H2 scope ce fp A2 [(h'.objs.size, go)]) fp tn (own.map (·.2)) σ W u Q) m0 s0
          (.compStart (.GeneratorExp elt [⟨tg, iter, [], 0⟩] scope gpos) 0 (.ref it) .none ce) ((model X.prog X.w).den (.compStart (.GeneratorExp elt [⟨tg, iter, [], 0⟩] scope gpos) 0 (.ref it) .none ce)) [] s1 := by
      intro s0 s1 hat
      have loop : Seg (model X.prog X.w) X.A.in1.in1 (GxR (gxp X s3 H2 scope ce fp A2 [(h'.objs.size, go)]) (own.map (·.2)) σ u Q) (GxY (gxp X s3 H2 scope ce fp A2 [(h'.objs.size, go)]) fp tn (own.map (·.2)) σ W u Q) m0 s0
          (.compLoop (.GeneratorExp elt [⟨tg, iter, [], 0⟩] scope gpos) 0 (.ref it) .none ce) ((model X.prog X.w).den (.compLoop (.GeneratorExp elt [⟨tg, iter, [], 0⟩] scope gpos) 0 (.ref it) .none ce)) [] s1 := by
        subst hA
        exact seg_gx hc hsc T hpn pg pe turn m0 m0 s0 s1 (Nat.le_refl _) hat
      show Seg _ _ _ _ _ s0 _ ((compStart (.GeneratorExp elt [⟨tg, iter, [], 0⟩] scope gpos) 0 (.ref it) .none ce).onRaise (leaving ce)) [] s1
      unfold compStart
      rw [Sem.onRaise_eq_wrap]
      show Seg _ _ _ _ _ s0 _ ((ask >>= _).wrap _ _ _ _) [] s1
      refine seg_bind_wrap (wpAny_askSetting ?_)
      split
      · exact seg_again rfl loop
      · obtain ⟨i, Hi, _, sti, _⟩ := id hat
        first
          | exact seg_bind_wrap (wpAny_rule (seg_bind_wrap (wpAny_standAt (seg_bind_wrap (T.self _ _ _ _ _ sti (seg_again rfl loop))))))
          | (refine seg_bind_wrap (wpAny_rule ?_)
             show Seg _ _ _ _ _ s0 _ ((standAt iter.pos >>= _).wrap _ _ _ _) [] s1
             exact seg_bind_wrap (wpAny_standAt (seg_bind_wrap (T.self _ _ _ _ _ sti (seg_again rfl loop)))))
    refine hQ h'.objs.size s3.gens.size go s5 (gxp X s3 H2 scope ce fp A2 [(h'.objs.size, go)]) fp tn W rfl rfl (List.mem_singleton.mpr rfl) ego isg I5.nolimit ⟨_, m0, gen5, rfl, seg _ _ ⟨0, H2, ?_, st5, fun b hb => (f2 b hb).1, w0⟩⟩ trivial fun b s' H' J q => ?_
    · exact inv_rest I5 rfl (allBare_setGen I5.bare rfl) fun _ _ e => e
    · exact ⟨.bl b, H', I3.call' (ch := fp) J.os J.base J.hok J.bare fun b hb => ⟨(f3 b hb).1.2.2.2.1, (f3 b hb).1.2.1, (f3 b hb).1.2.2.2.2.1, (f3 b hb).1.2.2.2.2.2⟩, rfl, q⟩
  cases hf : codeAmong gpos ps.toList with
  | none =>
    refine wpAny_genexprCodeX hcode (cd.code hTs htr) (cd.tab hTs) hf fun c' h' tk hx hge hlt hco' _ htab' _ => ?_
    obtain ⟨_, _, _, _, _, _, _, _, _, _, _, _, _, _, _, _, _, _, _, htr', _⟩ := hco'
    exact cont _ h' tk _ hx (Nat.le_trans hge (Nat.le_of_lt hlt)) htab'.2 htr'
  | some cv =>
    refine wpAny_genexprCode_hit hcode (cd.code hTs htr) hf ?_
    exact cont cv s2.heap s2.toks ps (Heap.ExtBut.refl _ _) (Nat.le_refl _) hTs htr

theorem pe_gx_all {X : Cx} {elt tg iter : Expr} {scope : Scope} {own : List (Str × Nat)} {p pos gpos : Pos} {c Tb : Addr} {wi : TI} {g : TG} {te : TE} {k : Nat} (hr : Room (k + 1) X.A) (hN : X.N.Nodup) (hc : X.calm = true) (hgl : Gl X "all") (hm : X.mg "all" = none) (hb : bootBuiltins "all" = some (.builtin "all"))
    (TB : GxR.TabB X.base X.mg c Tb) (hcode : X.env.code = .ref c) (ok : GxOk X.N X.env.scope scope own) (hi : PI X tg iter wi)
    (hg : ∀ (s : Shared) (H : Hp) (C : Addr) (cl : List (Str × Addr)) (fp : List Addr) (A : Around) (pn : List (Addr × Obj)) (code : Value), PG (gxp X s H scope (genEnv scope cl C code builtinsNs X.env) fp A pn) tg g)
    (he : ∀ (s : Shared) (H : Hp) (C : Addr) (cl : List (Str × Addr)) (fp : List Addr) (A : Around) (pn : List (Addr × Obj)) (code : Value), Room k A → PE (gxp X s H scope (genEnv scope cl C code builtinsNs X.env) fp A pn) elt te)
    (hs : ∀ v, genFold iter X.env v = pure v := by intro _; rfl)
    (hst : starEach [.GeneratorExp elt [⟨tg, iter, [], 0⟩] scope gpos] X.env = (false, eval (.GeneratorExp elt [⟨tg, iter, [], 0⟩] scope gpos) X.env) :: starEach [] X.env := by rfl) :
    PE X (.Call (.Name "all" p) [.GeneratorExp elt [⟨tg, iter, [], 0⟩] scope gpos] [] pos) (tGx true Tb wi g te (own.map (·.2))) := by
  refine ⟨fun pins s σ H Q I h => ?_⟩
  refine wpAny_Call_Name_kw (ld_blt I hgl hm hb ?_)
  refine PyProof.Rows.callWith_builtin1 ?_ hst (by rfl)
  rw [hst]
  show wpAny _ _ (spliced ((false, eval (.GeneratorExp elt [⟨tg, iter, [], 0⟩] scope gpos) X.env) :: backTo pos (starEach [] X.env))) _ _ s
  refine Calls.spliced_cons ?_
  refine gx_made hr hN hc TB hcode ok hi hg he hs (u := true) I h fun a gi go s5 XG fp tn W eP ew hpn hgo h1 h2 h3 h4 hend => ?_
  refine Calls.spliced_nil ?_
  refine call_function_tree F.kind_all F.plain_all F.entry_all (F.args_all1 _) ?_
  unfold Builtin.«all»
  refine wpAny_bind (m := oneArg "all" _) (wpAny_pure ?_)
  refine wpAny_bind (wpAny_pyIter_gen h1 ?_)
  obtain ⟨gs, n, hgs, hgoes⟩ := h3
  refine wpAny_pure ⟨plainId_quiet F.plain_all_loop _, ?_⟩
  rw [← eP, ← ew]
  refine gx_loop_all (XG := XG) (fp := fp) (tn := tn) (W := W) (Q := Q) (vs := own.map (·.2)) (σ := σ) hr.hd (by have := hr.dp; omega) hpn hgo (fun b s' H' J q => ?_) n s5 h1 h2 ⟨gs, hgs, ?_⟩
  · exact hend b s' H' J q
  · exact hgoes

theorem pe_gx_any {X : Cx} {elt tg iter : Expr} {scope : Scope} {own : List (Str × Nat)} {p pos gpos : Pos} {c Tb : Addr} {wi : TI} {g : TG} {te : TE} {k : Nat} (hr : Room (k + 1) X.A) (hN : X.N.Nodup) (hc : X.calm = true) (hgl : Gl X "any") (hm : X.mg "any" = none) (hb : bootBuiltins "any" = some (.builtin "any"))
    (TB : GxR.TabB X.base X.mg c Tb) (hcode : X.env.code = .ref c) (ok : GxOk X.N X.env.scope scope own) (hi : PI X tg iter wi)
    (hg : ∀ (s : Shared) (H : Hp) (C : Addr) (cl : List (Str × Addr)) (fp : List Addr) (A : Around) (pn : List (Addr × Obj)) (code : Value), PG (gxp X s H scope (genEnv scope cl C code builtinsNs X.env) fp A pn) tg g)
    (he : ∀ (s : Shared) (H : Hp) (C : Addr) (cl : List (Str × Addr)) (fp : List Addr) (A : Around) (pn : List (Addr × Obj)) (code : Value), Room k A → PE (gxp X s H scope (genEnv scope cl C code builtinsNs X.env) fp A pn) elt te)
    (hs : ∀ v, genFold iter X.env v = pure v := by intro _; rfl)
    (hst : starEach [.GeneratorExp elt [⟨tg, iter, [], 0⟩] scope gpos] X.env = (false, eval (.GeneratorExp elt [⟨tg, iter, [], 0⟩] scope gpos) X.env) :: starEach [] X.env := by rfl) :
    PE X (.Call (.Name "any" p) [.GeneratorExp elt [⟨tg, iter, [], 0⟩] scope gpos] [] pos) (tGx false Tb wi g te (own.map (·.2))) := by
  refine ⟨fun pins s σ H Q I h => ?_⟩
  refine wpAny_Call_Name_kw (ld_blt I hgl hm hb ?_)
  refine PyProof.Rows.callWith_builtin1 ?_ hst (by rfl)
  rw [hst]
  show wpAny _ _ (spliced ((false, eval (.GeneratorExp elt [⟨tg, iter, [], 0⟩] scope gpos) X.env) :: backTo pos (starEach [] X.env))) _ _ s
  refine Calls.spliced_cons ?_
  refine gx_made hr hN hc TB hcode ok hi hg he hs (u := false) I h fun a gi go s5 XG fp tn W eP ew hpn hgo h1 h2 h3 h4 hend => ?_
  refine Calls.spliced_nil ?_
  refine call_function_tree F.kind_any F.plain_any F.entry_any (F.args_any1 _) ?_
  unfold Builtin.«any»
  refine wpAny_bind (m := oneArg "any" _) (wpAny_pure ?_)
  refine wpAny_bind (wpAny_pyIter_gen h1 ?_)
  obtain ⟨gs, n, hgs, hgoes⟩ := h3
  refine wpAny_pure ⟨plainId_quiet F.plain_any_loop _, ?_⟩
  rw [← eP, ← ew]
  refine gx_loop_any (XG := XG) (fp := fp) (tn := tn) (W := W) (Q := Q) (vs := own.map (·.2)) (σ := σ) hr.hd (by have := hr.dp; omega) hpn hgo (fun b s' H' J q => ?_) n s5 h1 h2 ⟨gs, hgs, ?_⟩
  · exact hend b s' H' J q
  · exact hgoes
end DL

/-! Generator expressions over data: defs whose tables of code objects grow. -/
namespace DL
open PySem PySem.Spec PyProof.Rows L2
/-- the tables of code objects tb are tracked -/
def TbF (tb : List Addr) (F : Hp) : Prop := ∀ T ∈ tb, F T = some (tbx T)
theorem TbF.up {tb : List Addr} {F G : Hp} (h : TbF tb F) (s : Same F G) : TbF tb G := fun T hT => s _ _ (h T hT)
@[reducible] def Lk.tab (tb : List Addr) : Lk where
  lk := fun _ F _ => TbF tb F
  mono := fun h s _ => h.up s
  lay := fun h _ => h
/-! ### the rule -/
def wGxL (u : Bool) (vs : List Nat) (wg : WG) (we : WE) : List D → List Sl → (D → List Sl → Prop) → Prop
  | [], ρ, Q => noOwnB ρ vs = true ∧ Q (.bl u) (wipeD ρ vs.reverse)
  | d :: ds, ρ, Q => wg d ρ fun ρ1 => we ρ1 fun y ρ2 => noOwnB ρ2 vs = true ∧ ∃ b, y = .bl b ∧ (b = u → wGxL u vs wg we ds (wipeD ρ2 vs) Q) ∧ (b = !u → Q (.bl (!u)) (wipeD (wipeD ρ2 vs) vs.reverse))
def wGx (u : Bool) (vs : List Nat) (wi : WA) (wg : WG) (we : WE) : WE := fun ρ Q => wi ρ fun ds ρ1 => noOwnB ρ1 vs = true ∧ wGxL u vs wg we ds (wipeD ρ1 vs) Q
theorem zb {u : Bool} {vs : List Nat} {wi : WA} {wg : WG} {we : WE} {ρ : List Sl} {Q : D → List Sl → Prop} : wGx u vs wi wg we ρ Q = wi ρ fun ds ρ1 => noOwnB ρ1 vs = true ∧ wGxL u vs wg we ds (wipeD ρ1 vs) Q := rfl
theorem noOwnB_wiped {ρ : List Sl} {vs : List Nat} (h : noOwnB ρ vs = true) : ∀ i ∈ vs, ∀ sl, (wipeD ρ vs)[i]? = some sl → ¬ isOwn sl := fun i hi sl e => by
  rcases wipeD_get e with z | z
  · subst z; exact fun z => z
  · exact noOwn_of h i hi sl z
section
variable [Lk]
theorem snd_gx_at {c : Cy} {u : Bool} {Tb : Addr} {vs : List Nat} {wi : TI} {g : TG} {te : TE} {w : WA} {wg : WG} {we : WE} {is : List Nat} (his : ∀ i ∈ is, i ∈ vs) {b : Option Addr} {ρ : List Sl} {σ : L2.St} {F M M0 : Hp} (R : Rel c b ρ σ F M M0)
    (hT : ∀ {b : Option Addr} {F M : Hp}, Lk.lk b F M → F Tb = some (tbx Tb)) (hi : SniAt c wi w b ρ σ F M M0) (hg : Sng c g wg is) (he : Snd c te we)
    (Qd : D → List Sl → Prop) (Q : VK) (hw : wGx u vs w wg we ρ Qd) (k : ∀ d ρ' v F' M' M0', Qd d ρ' → Aft c b F M M0 ρ' σ F' M' M0' → Dr c F' v d → Q v (HH F' M')) : tGx u Tb wi g te vs σ (HH F M) Q := by
  refine hi _ _ hw fun ds ρ1 J F1 M1 M01 q A it => ?_
  obtain ⟨hno, q⟩ := q
  refine ⟨A.rel.dj.f (hT A.rel.lk), ?_⟩
  have fin : ∀ {F4 M4 M04 : Hp} {ρ4 : List Sl} {bb : Bool}, (∀ i ∈ vs, ∀ sl, ρ4[i]? = some sl → ¬ isOwn sl) → Rel c b ρ4 (L2.wipe σ vs) F4 M4 M04 → Same F1 F4 → Ext b (HH F1 M1) (HH F4 M4) → MR b M01 M04 → Qd (.bl bb) (wipeD ρ4 vs.reverse) → Q (.bl bb) (HH F4 M4) := fun {F4 M4 M04 ρ4 bb} hn R4 s4 x4 m4 q4 => by
    obtain ⟨ρ2, e2, t2⟩ := R4.env.unwipe hn
    subst e2
    exact k _ _ _ F4 M4 M04 q4 ⟨A.same.trans s4, A.ext.trans x4, ⟨R4.dj, t2, R4.box, R4.lk⟩, A.mr.trans m4⟩ .of_bl
  refine ⟨fun i m H' => m = ds.length - i ∧ i ≤ ds.length ∧ ∃ (ρ' : List Sl) (F' M' M0' : Hp), H' = HH F' M' ∧ Same F1 F' ∧ Ext b (HH F1 M1) (HH F' M') ∧ Rel c b ρ' (L2.wipe σ vs) F' M' M0' ∧ MR b M01 M0' ∧ wGxL u vs wg we (ds.drop i) ρ' Qd,
    ⟨ds.length, by simp, Nat.zero_le _, wipeD ρ1 vs, F1, M1, M01, rfl, Same.refl _, Ext.refl _ _, ⟨A.rel.dj, A.rel.env.wipe (noOwn_of hno), A.rel.box, A.rel.lk⟩, MR.refl _ _, q⟩, ?_⟩
  rintro i m H' ⟨rfl, hil, ρ', F', M', M0', rfl, s, x, R', mr, hw'⟩
  by_cases hlt : i < ds.length
  · have ed : ds.drop i = ds[i] :: ds.drop (i + 1) := List.drop_eq_getElem_cons hlt
    rw [ed] at hw'
    have hd : ds[i]? = some ds[i] := List.getElem?_eq_getElem hlt
    refine .inr ⟨((it F' _ s R'.dj R'.env.nt i).1 _ hd).1, by omega, fun H2 => i + 1 ≤ ds.length ∧ ∃ (ρ' : List Sl) (F' M' M0' : Hp), H2 = HH F' M' ∧ Same F1 F' ∧ Ext b (HH F1 M1) (HH F' M') ∧ Rel c b ρ' (L2.wipe σ vs) F' M' M0' ∧ MR b M01 M0' ∧ wGxL u vs wg we (ds.drop (i + 1)) ρ' Qd,
      fun H2 n2 => ⟨ds.length - (i + 1), by omega, rfl, n2.1, n2.2⟩, fun y H3 hy => ?_⟩
    obtain ⟨F3, rfl, s3, dj3, r3⟩ := ((it F' _ s R'.dj R'.env.nt i).1 _ hd).2 y H3 hy
    have A3 := R'.grow s3 dj3
    refine hg A3.rel r3 _ _ hw' fun ρ4 σ4 F4 M4 M04 q4 s4 x4 R4 m4 wz => ⟨(wz vs his).trans (wipe_idem σ vs), ?_⟩
    refine he R4 _ _ q4 fun d ρ6 z F6 M6 M06 q6 A6 r6 => ?_
    obtain ⟨hn6, bb, rfl, q6a, q6b⟩ := q6
    have R6 : Rel c b (wipeD ρ6 vs) (L2.wipe σ vs) F6 M6 M06 := by
      have t := A6.rel.env.wipe (noOwn_of hn6)
      have e : L2.wipe σ4 vs = L2.wipe σ vs := (wz vs his).trans (wipe_idem σ vs)
      rw [e] at t
      exact ⟨A6.rel.dj, t, A6.rel.box, A6.rel.lk⟩
    have sA := s.trans ((s3.trans s4).trans A6.same)
    have xA := x.trans ((A3.ext.trans x4).trans A6.ext)
    have mA := mr.trans ((A3.mr.trans m4).trans A6.mr)
    exact ⟨bb, r6.bl_of, fun e => ⟨hlt, wipeD ρ6 vs, F6, M6, M06, rfl, sA, xA, R6, mA, q6a e⟩, fun e => fin (noOwnB_wiped hn6) R6 sA xA mA (q6b e)⟩
  · have e : i = ds.length := by omega
    subst e
    rw [List.drop_length] at hw'
    exact .inl ⟨(it F' _ s R'.dj R'.env.nt _).2 rfl, fin (noOwn_of hw'.1) R' s x mr hw'.2⟩
section
variable {X : Cx}
theorem de_gx_all {elt tg iter : Expr} {scope : Scope} {own : List (Str × Nat)} {p pos gpos : Pos} {c Tb : Addr} {wi : TI} {g : TG} {te : TE} {w : WA} {wg : WG} {we : WE} {is : List Nat} {k : Nat} (hT : ∀ {b : Option Addr} {F M : Hp}, Lk.lk b F M → F Tb = some (tbx Tb)) (hr : Room (k + 1) X.A) (hN : X.N.Nodup) (hc : X.calm = true)
    (hgl : Gl X "all") (hm : X.mg "all" = none) (TB : GxR.TabB X.base X.mg c Tb) (hcode : X.env.code = .ref c) (ok : GxOk X.N X.env.scope scope own) (hi : DI X tg iter wi w)
    (hg0 : DG (gxp X {} (fun _ => none) scope (genEnv scope [] 0 .none builtinsNs X.env) [] X.A []) tg g wg is) (he0 : Room k X.A → DE (gxp X {} (fun _ => none) scope (genEnv scope [] 0 .none builtinsNs X.env) [] X.A []) elt te we)
    (hg : ∀ (s : Shared) (H : Hp) (C : Addr) (cl : List (Str × Addr)) (fp : List Addr) (A : Around) (pn : List (Addr × Obj)) (code : Value), DG (gxp X s H scope (genEnv scope cl C code builtinsNs X.env) fp A pn) tg g wg is)
    (he : ∀ (s : Shared) (H : Hp) (C : Addr) (cl : List (Str × Addr)) (fp : List Addr) (A : Around) (pn : List (Addr × Obj)) (code : Value), Room k A → DE (gxp X s H scope (genEnv scope cl C code builtinsNs X.env) fp A pn) elt te we)
    (his : ∀ i ∈ is, i ∈ own.map (·.2) := by decide) (hs : ∀ v, genFold iter X.env v = pure v := by intro _; rfl)
    (hst : starEach [.GeneratorExp elt [⟨tg, iter, [], 0⟩] scope gpos] X.env = (false, eval (.GeneratorExp elt [⟨tg, iter, [], 0⟩] scope gpos) X.env) :: starEach [] X.env := by rfl) :
    DE X (.Call (.Name "all" p) [.GeneratorExp elt [⟨tg, iter, [], 0⟩] scope gpos] [] pos) (tGx true Tb wi g te (own.map (·.2))) (wGx true (own.map (·.2)) w wg we) :=
  ⟨pe_gx_all hr hN hc hgl hm rfl TB hcode ok hi.pi (fun s H C cl fp A pn code => (hg s H C cl fp A pn code).pg) (fun s H C cl fp A pn code r => (he s H C cl fp A pn code r).pe) hs hst,
    fun {b ρ σ F M M0} R Qd Q hw k' => snd_gx_at his R hT (hi.sn R) hg0.sn (he0 (hr.mono (Nat.le_succ _))).sn Qd Q hw k'⟩
theorem de_gx_any {elt tg iter : Expr} {scope : Scope} {own : List (Str × Nat)} {p pos gpos : Pos} {c Tb : Addr} {wi : TI} {g : TG} {te : TE} {w : WA} {wg : WG} {we : WE} {is : List Nat} {k : Nat} (hT : ∀ {b : Option Addr} {F M : Hp}, Lk.lk b F M → F Tb = some (tbx Tb)) (hr : Room (k + 1) X.A) (hN : X.N.Nodup) (hc : X.calm = true)
    (hgl : Gl X "any") (hm : X.mg "any" = none) (TB : GxR.TabB X.base X.mg c Tb) (hcode : X.env.code = .ref c) (ok : GxOk X.N X.env.scope scope own) (hi : DI X tg iter wi w)
    (hg0 : DG (gxp X {} (fun _ => none) scope (genEnv scope [] 0 .none builtinsNs X.env) [] X.A []) tg g wg is) (he0 : Room k X.A → DE (gxp X {} (fun _ => none) scope (genEnv scope [] 0 .none builtinsNs X.env) [] X.A []) elt te we)
    (hg : ∀ (s : Shared) (H : Hp) (C : Addr) (cl : List (Str × Addr)) (fp : List Addr) (A : Around) (pn : List (Addr × Obj)) (code : Value), DG (gxp X s H scope (genEnv scope cl C code builtinsNs X.env) fp A pn) tg g wg is)
    (he : ∀ (s : Shared) (H : Hp) (C : Addr) (cl : List (Str × Addr)) (fp : List Addr) (A : Around) (pn : List (Addr × Obj)) (code : Value), Room k A → DE (gxp X s H scope (genEnv scope cl C code builtinsNs X.env) fp A pn) elt te we)
    (his : ∀ i ∈ is, i ∈ own.map (·.2) := by decide) (hs : ∀ v, genFold iter X.env v = pure v := by intro _; rfl)
    (hst : starEach [.GeneratorExp elt [⟨tg, iter, [], 0⟩] scope gpos] X.env = (false, eval (.GeneratorExp elt [⟨tg, iter, [], 0⟩] scope gpos) X.env) :: starEach [] X.env := by rfl) :
    DE X (.Call (.Name "any" p) [.GeneratorExp elt [⟨tg, iter, [], 0⟩] scope gpos] [] pos) (tGx false Tb wi g te (own.map (·.2))) (wGx false (own.map (·.2)) w wg we) :=
  ⟨pe_gx_any hr hN hc hgl hm rfl TB hcode ok hi.pi (fun s H C cl fp A pn code => (hg s H C cl fp A pn code).pg) (fun s H C cl fp A pn code r => (he s H C cl fp A pn code r).pe) hs hst,
    fun {b ρ σ F M M0} R Qd Q hw k' => snd_gx_at his R hT (hi.sn R) hg0.sn (he0 (hr.mono (Nat.le_succ _))).sn Qd Q hw k'⟩
end
/-! ### defs -/
/-- as spF, where the tables tb are tracked -/
def spT (tb : List Addr) (c : Cy) (wf : WFn) : Sp := fun vs H Q _ => ∃ (b : Option Addr) (F M : Hp) (as : List Sl) (Qd : D → Prop), H = HH F M ∧ Dj F M ∧ ((∀ a, b = some a → Box F M a) ∧ NT M) ∧ TbF tb F ∧ ArgsD c b F as vs ∧ wf as Qd ∧
  ∀ d v F' M', Qd d → Same F F' → Dj F' M' → (∀ a, b = some a → Box F' M' a) → MR b M M' → Dr c F' v d → Q v (HH F' M')
theorem snd_callT {c : Cy} {tb : List Addr} {E : XK} {wf : WFn} {t : TA} {wt : WAs} (hT : ∀ {b : Option Addr} {F M : Hp}, Lk.lk b F M → TbF tb F) (ha : Snas c t wt) : Snd c (tCall (spT tb c wf) [] E t) (wCall wf wt) := fun {b ρ σ F M M0} R Qd Q hw k => by
  refine ha R _ _ hw fun as ρ1 vs F1 M1 M01 q1 A1 r1 => ?_
  rw [List.append_nil]
  refine ⟨b, F1, M1, as, _, rfl, A1.rel.dj, ⟨fun a z => ?_, A1.rel.env.nt⟩, hT A1.rel.lk, r1, q1, fun d v F' M' q s dj bx mr r => ?_⟩
  · obtain ⟨da, ns, n, h1, h2, h3⟩ := A1.rel.box a z
    exact ⟨da, ns, n, A1.rel.env.sub _ _ h1, h2, h3⟩
  · obtain ⟨M0', A2⟩ := A1.rel.after s dj bx mr
    exact k d ρ1 v F' M' M0' q (A1.trans A2) r
section
variable {X : Cx} {e : Expr} {es : List Expr} {t : TA} {wt : WAs} {pos : Pos} {k : Nat} {f : Addr} {fd : FuncData} {ps : List Str} {x : Str} {p : Pos} {tb : List Addr}
theorem de_callT {wf : WFn} (hT : ∀ {b : Option Addr} {F M : Hp}, Lk.lk b F M → TbF tb F) (G : FnOk X.prog X.w X.K X.mg X.base CX0 k f fd ps (spT tb (cy X) wf)) (hr : Room k X.A) (hg : Gl X x) (hm : X.mg x = some (.ref f)) (hk : PySem.W.keepIn X.K (.ref f) = true) (hb : Binds X.K fd ps [])
    (ha : DAs X (e :: es) t wt) (hdb : (x == ("__debug__" : Str)) = false := by decide) (he : starEach (e :: es) X.env = (false, eval e X.env) :: starEach es X.env := by rfl) (hpl : (backTo pos (starEach es X.env)).any (·.1) = false := by rfl) :
    DE X (.Call (.Name x p) (e :: es) [] pos) (tCall (spT tb (cy X) wf) [] E0 t) (wCall wf wt) := ⟨pe_call G hr hg hm hk hb .nil pass0 ha.pe hdb he hpl, snd_callT hT ha.sn⟩
end
end
section
variable {P : Program} {w : World} {K : PySem.W.Frag} {mg : Str → Option Value} {base : Heap} {tb : List Addr}
theorem fun_okT {x qual : Str} {st : Stmt} {f : Addr} {fd : FuncData} {N ps : List Str} {k : Nat} {wf : WFn} (FF : Fun K x qual st f fd) (S : FnScope N ps (defScope st)) (len : ∀ as Qd, wf as Qd → as.length = ps.length)
    (hbody : ∀ (cdv : Value) (A : Around) (outer : List Env) (s : Shared) (H : Hp) (E : XK), fd.code = cdv → Room k (A.deeper (envOfC qual (defScope st) s.heap.objs.size f cdv)) →
      letI := Lk.tab tb
      ∃ t ws, DSs (cxOf CX0 P w K mg base N qual (defScope st) f cdv A outer s H E).nox (defBody st) t ws ∧ ∀ as Qd, wf as Qd → ws (startD N as) { nx := fun _ => Qd .non, rt := fun d _ => Qd d }) :
    FnOk P w K mg base CX0 (k + 1) f fd ps (spT tb ⟨K, mg⟩ wf) := by
  obtain ⟨oc, od, kV, doc, pm, an, cdv, ct, osl, rfl, lk, hcd⟩ := FF.ex
  refine fn_of lk hcd S (fun vs H Q E h => ?_) fun A outer s H vs Q E hr h => ?_
  · obtain ⟨b, F, M, as, Qd, _, _, _, _, ar, hw, _⟩ := h
    rw [ar.length, len as Qd hw]
  · letI := Lk.tab tb
    obtain ⟨b, F, M, as, Qd, rfl, dj, bx, tf, ar, hw, hq⟩ := h
    obtain ⟨t, ws, hd, hp⟩ := hbody cdv A outer s (HH F M) E rfl hr
    exact ⟨t, hd.ps.nox, hd.sn (start_rel dj bx ar tf) _ _ (hp as Qd hw) (fin_rt hq)⟩
/-! ### the law -/
/-- as spLaw, where the tables are tracked to the end -/
def spLawT (tb : List Addr) (K : PySem.W.Frag) : Sp := fun vs H Q _ => ∃ (a : Addr) (ns : List Int), vs = [.ref a] ∧ SqL K H a (ns.map V.int) ∧ ns.length ≤ 63 ∧ TbF tb H ∧ ∀ H', TbF tb H' → Q (.bl true) H'
theorem law_boxET {x0 qual x : Str} {st : Stmt} {f : Addr} {fd : FuncData} {N : List Str} {k i n : Nat} (FF : Fun K x0 qual st f fd) (S : FnScope N [x] (defScope st)) (hN : N.length = n + 1) (hi : i < n + 1) {y : Str} {py spos : Pos} {e0 : Expr} {rest : List Stmt} (hsp : defBody st = .Assign [.Name y py] e0 spos :: rest)
    (hbody : ∀ (cdv : Value) (A : Around) (outer : List Env) (s : Shared) (H : Hp), Room k (A.deeper (envOfC qual (defScope st) s.heap.objs.size f cdv)) → (A.deeper (envOfC qual (defScope st) s.heap.objs.size f cdv)).guards = some [] →
      letI := Lk.tab tb
      ∃ (t0 : TE) (w0 : WE) (t1 : TS) (w1 : WS), DE (cxOf CX0 P w K mg base N qual (defScope st) f cdv A outer s H E0).nox e0 t0 w0 ∧ DSs (cxOf CX0 P w K mg base N qual (defScope st) f cdv A outer s H E0).nox rest t1 w1 ∧
        (PE (cxOf CX0 P w K mg base N qual (defScope st) f cdv A outer s H E0).nox e0 t0 → PSs (cxOf CX0 P w K mg base N qual (defScope st) f cdv A outer s H E0).nox rest t1 →
          PSs (cxOf CX0 P w K mg base N qual (defScope st) f cdv A outer s H E0).nox (defBody st) (tSeq (tAsg t0 (gName i)) t1)) ∧
        (∀ ns : List Int, w0 (scrD ns :: List.replicate n .no) fun d ρ => ρ = scrD ns :: List.replicate n .no ∧ ∃ ms : List Int, d = .lst [.lst (ms.map D.int), .int 0]) ∧
        ∀ ns : List Int, w1 ((scrD ns :: List.replicate n .no).set i .bx) { nx := fun _ => False, rt := fun d _ => d = .bl true }) :
    FnG P w K mg base (k + 1) f fd [x] (spLawT tb K) := by
  refine fnG_of FF S (fun vs H Q E h => ?_) (fun cdv A outer s H vs Q hr hgd h => ?_)
  · obtain ⟨a, ns, rfl, _⟩ := h; rfl
  · obtain ⟨a, ns, rfl, hS, hl, htb, hQ⟩ := h
    letI := Lk.tab tb
    obtain ⟨t0, w0, t1, w1, h0, h1, hp, p0, p1⟩ := hbody cdv A outer s H hr hgd
    refine ⟨_, hp h0.pe h1.ps, ?_⟩
    have eH : H = HH H (fun _ => none) := funext fun y => (hh_n rfl).symm
    have eS : startD N [scrD ns] = scrD ns :: List.replicate n .no := by unfold startD; rw [hN]; rfl
    have ar : ArgsD ⟨K, mg⟩ none H [scrD ns] [.ref a] := ⟨_, _, rfl, by show Dr _ _ _ (.scr _); simp only [Dr]; exact ⟨a, _, rfl, hS, .of_ints ns⟩, rfl⟩
    have R := start_rel (N := N) (K := K) (mg := mg) (b := none) (F := H) (M := fun _ => none) (fun x u q => nomatch q) ⟨(fun x q => nomatch q), (fun _ _ z => nomatch z)⟩ ar htb
    rw [eS] at R
    show t0 (L2.start N [.ref a]) H _
    rw [eH]
    refine h0.sn R _ _ (p0 ns) fun d ρ' v F' M' M0' q AA r => ?_
    obtain ⟨rfl, ms, rfl⟩ := q
    have htb1 : TbF tb F' := AA.rel.lk
    simp only [Dr] at r
    obtain ⟨x, us, rfl, hx, r⟩ := r
    obtain ⟨u1, us, rfl, r1, r⟩ := r.cons_iff
    obtain ⟨u2, us, rfl, r2, r⟩ := r.cons_iff
    have eu := r.nil_iff
    subst eu
    have eu2 := r2.int_of
    subst eu2
    simp only [Dr] at r1
    obtain ⟨da, uu, rfl, hda, r1⟩ := r1
    have euu := r1.ints
    subst euu
    have eM0 : M0' = fun _ => none := funext fun y => AA.mr y (fun z => nomatch z)
    have key : M' = M0' ∧ SqL K F' a (ns.map V.int) := by
      obtain ⟨v0, σr, e1, ⟨⟨y, e2, hy⟩, t⟩⟩ := AA.rel.env
      have nos : ∀ (m : Nat) (τ : L2.St) (N1 : Hp), RelE ⟨K, mg⟩ none F' M0' (List.replicate m .no) τ N1 → N1 = M0' := fun m => by
        induction m with
        | zero => intro τ N1 h; exact h.2.1
        | succ m ih => intro τ N1 h; obtain ⟨_, τr, _, h⟩ := h; exact ih τr N1 h
      refine ⟨nos n σr M' t, ?_⟩
      have e3 : L2.start N [.ref a] = some (.ref a) :: List.replicate n none := by unfold L2.start; rw [hN]; rfl
      rw [e3] at e1
      cases e1
      cases e2
      simp only [Dr] at hy
      obtain ⟨a', vs', ea, hs, hr'⟩ := hy
      cases ea
      rw [hr'.ints] at hs
      exact hs
    obtain ⟨eM', hS'⟩ := key
    rw [eM0] at eM'
    have ndx : da ≠ x := fun z => by
      rw [z, hx] at hda
      cases hda' : ms with
      | nil => rw [hda'] at hda; cases hda
      | cons m ms => rw [hda'] at hda; cases hda
    have eH2 : HH F' M' = HH (del F' x) (upd (fun _ => none) x (.lst [.ref da, .int 0])) := by
      rw [eM', ← hh_updM]
      funext y
      by_cases z : y = x
      · subst z; rw [upd_same, hh_n rfl, hx]
      · rw [upd_ne z, hh_n rfl, hh_n rfl, del_ne z]
    show t1 _ ((L2.start N [.ref a]).set i (some (.ref x))) (HH F' M')
    rw [eH2]
    have hS2 : SqL K (del F' x) a (ns.map V.int) := by
      rcases hS' with q | q
      · rcases q with q | ⟨o, q⟩
        · refine .inl (.inl ?_)
          rw [del_ne fun z => ?_]
          · exact q
          · rw [z, hx] at q
            have q := Option.some.inj q
            injection q with q
            exact ints_ref q.symm
        · refine .inl (.inr ⟨o, ?_⟩)
          rw [del_ne fun z => ?_]
          · exact q
          · rw [z, hx] at q; cases q
      · exact .inr q
    have htb2 : TbF tb (del F' x) := fun T hT => by
      have q := htb1 T hT
      rw [del_ne fun z => ?_]
      · exact q
      · rw [z, hx] at q; cases q
    have ar2 : ArgsD ⟨K, mg⟩ (some x) (del F' x) [scrD ns] [.ref a] := ⟨_, _, rfl, by show Dr _ _ _ (.scr _); simp only [Dr]; exact ⟨a, _, rfl, hS2, .of_ints ns⟩, rfl⟩
    have R2 := start_rel (N := N) (K := K) (mg := mg) (b := some x) (F := del F' x) (M := upd (fun _ => none) x (.lst [.ref da, .int 0])) (fun y u q => by
        by_cases z : y = x
        · subst z; exact del_same
        · rw [upd_ne z] at q; cases q) ⟨fun y q => by
        have z : x = y := Option.some.inj q
        subst z
        exact ⟨da, ms, 0, upd_same, by rw [del_ne ndx]; exact hda, Int.le_refl 0⟩, NT.upd NT.emp fun xs z => nomatch z⟩ ar2 htb2
    rw [eS] at R2
    have hns : ∃ sl, (scrD ns :: List.replicate n Sl.no)[i]? = some sl ∧ ¬ isOwn sl := by
      cases i with
      | zero => exact ⟨_, rfl, fun z => z⟩
      | succ j => exact ⟨.no, by rw [List.getElem?_cons_succ, List.getElem?_replicate, if_pos (by omega)], fun z => z⟩
    obtain ⟨sl, e1, e2⟩ := hns
    refine h1.sn ⟨R2.dj, R2.env.setBx (x := x) rfl e1 e2, R2.box, R2.lk⟩ _ _ (p1 ns) ⟨fun _ _ _ _ _ z => z.elim, fun _ _ _ _ _ z => z.elim, fun _ _ _ _ _ z => z.elim, fun d v ρ5 σ5 F' M' M0' e s' R' m' r => ?_⟩
    subst e
    rw [r.bl_of]
    exact hQ _ fun T hT => R'.dj.f (R'.lk T hT)
end

/-! ### the law's end -/
/-- x is a def whose table of code objects is empty -/
def TabOf (mg : Str → Option Value) (h : Heap) (x : Str) : Prop := ∃ a o fd c P, mg x = some (.ref a) ∧ h.get? a = some o ∧ o.data = .func fd ∧ fd.code = .ref c ∧ h.IsCode c P #[] ∧ h.TableAt c P #[]
theorem tab_at {K : PySem.W.Frag} {mg : Str → Option Value} {h : Heap} {x : Str} {f c T : Addr} {oc : Value} {od : Option Addr} {fd : FuncData} {sl : Array (Option Value)} {e : Value} {dd : Option Addr} {vs : Array Value} {csl : Array (Option Value)}
    (KX : K.In h) (hm : mg x = some (.ref f)) (lf : K.lookup f = some ⟨oc, od, .func fd, sl⟩) (hc : fd.code = .ref c) (lc : K.lookup c = some ⟨e, dd, .fields vs, csl⟩) (hv : vs[11]? = some (.ref T)) (t : TabOf mg h x) :
    PySem.W.CodeHd h c T ∧ h.get? T = some { cls := .none, data := .fields #[] } := by
  obtain ⟨a', o', fd', c', P', h1, h2, h3, h4, h5, h6⟩ := t
  rw [hm] at h1
  cases h1
  rw [KX _ _ lf] at h2
  cases h2
  cases h3
  rw [hc] at h4
  cases h4
  have cd := PySem.W.CodeHd.of h5 h6
  obtain ⟨⟨oc, vc, e1, _, e3, e4⟩, hP⟩ := h6
  rw [KX _ _ lc] at e1
  cases e1
  cases e3
  rw [hv] at e4
  cases e4
  exact ⟨cd, hP⟩
theorem lawT_call {P : Program} {w : World} {K : PySem.W.Frag} {mg mb : Str → Option Value} {k : Nat} {fa a : Addr} {fd : FuncData} {x : Str} {s₁ : Shared} {vs : List Value} {ns : List Int} {cs : List (Addr × Addr)}
    (KX : K.In s₁.heap) (hns : s₁.heap.Ns mainGlobals mg) (hb : s₁.heap.Ns builtinsNs mb) (hbb : ∀ x : Str, x ≠ "__name__" → mb x = bootBuiltins x) (hlim : s₁.heap.NoLimit) (hg : s₁.gens = #[])
    (hbm : ∃ (bm : Addr) (ob : Obj), mg "__builtins__" = some (.ref bm) ∧ bm ≠ builtinsNs ∧ s₁.heap.get? bm = some ob ∧ ob.cls = .type "module" ∧ ob.dict = some builtinsNs ∧ ob.data = .plain)
    (hcs : ∀ p ∈ cs, PySem.W.CodeHd s₁.heap p.1 p.2 ∧ s₁.heap.get? p.2 = some { cls := .none, data := .fields #[] }) (hKT : ∀ p ∈ cs, K.lookup p.2 = none)
    (ha : s₁.heap.get? a = some { cls := .type "list", data := .seq vs.toArray }) (hi : IntsAre vs ns) (hl : ns.length ≤ 63) (hr : Room k callerA)
    (F : ∀ base : Heap, K.In base → base.Ns mainGlobals mg → (∀ p ∈ cs, GxR.TabB base mg p.1 p.2) → FnG P w K mg base k fa fd [x] (spLawT (cs.map (·.2)) K)) (hbind : ∀ (s : Shared) (u : Value), BindsTo s fd ⟨[u], []⟩ [(x, u)]) :
    codeAny (model P w) callerA (.call (.ref fa) ⟨[.ref a], []⟩) (fun r s' => r = .ok (.ret (.bool true)) ∧ OldK s₁.heap s'.heap ∧ s'.os = s₁.os ∧ AllBare s'.gens) s₁ := by
  have rv := ints_vals hi
  have hz : ns.length ≤ sizeLine := Nat.le_trans hl (by decide)
  have isT : ∀ b ∈ cs.map (·.2), s₁.heap.get? b = some { cls := .none, data := .fields #[] } := fun b hb => by
    obtain ⟨p, hp, e⟩ := List.mem_map.mp hb
    rw [← e]; exact (hcs p hp).2
  have aT : a ∉ cs.map (·.2) := fun z => by
    have q := isT a z
    rw [ha] at q
    exact absurd (congrArg Obj.data (Option.some.inj q)) (fun z => nomatch z)
  -- the script and the tables alone may be tracked
  have main : ∀ H : Hp, (∀ b u, H b = some u → (b = a ∧ ∃ o xs, u = .frz o (.lst xs)) ∨ (b ∈ cs.map (·.2) ∧ u = tbx b)) → (∀ b ∈ cs.map (·.2), H b = some (tbx b)) → SqL K H a (ns.map V.int) → HOk P w H s₁.heap → ((H a).isSome = true → K.lookup a = none) →
      codeAny (model P w) callerA (.call (.ref fa) ⟨[.ref a], []⟩) (fun r s' => r = .ok (.ret (.bool true)) ∧ OldK s₁.heap s'.heap ∧ s'.os = s₁.os ∧ AllBare s'.gens) s₁ := by
    intro H only tabs hS hok hK
    have free : ∀ {b : Addr} {o : Obj}, s₁.heap.get? b = some o → (∀ xs n, o.data ≠ .seq xs n) → o.data ≠ .fields #[] → H b = none := by
      intro b o e d1 d2
      cases q : H b with
      | none => rfl
      | some u =>
        rcases only b u q with ⟨eb, _⟩ | ⟨hb, _⟩
        · rw [eb, ha] at e
          cases e
          exact (d1 _ _ rfl).elim
        · rw [isT b hb] at e
          cases e
          exact (d2 rfl).elim
    have isDict : ∀ {b : Addr} {o : Obj} {es : Array DictEntry} {ep : Nat}, s₁.heap.get? b = some o → o.data = .dict es ep → H b = none := fun {b o es ep} e d => free e (fun xs n z => by rw [d] at z; cases z) fun z => by rw [d] at z; cases z
    have ns2 : ∀ {b : Addr} {m : Str → Option Value}, s₁.heap.Ns b m → (hidT s₁.heap H).Ns b m := by
      rintro b m ⟨o, es, ep, e, d, r⟩
      exact ⟨o, es, ep, hidT_get e (isDict e d), d, r⟩
    have kin2 : K.In (hidT s₁.heap H) := by
      intro b o e
      refine hidT_get (KX b o e) ?_
      cases q : H b with
      | none => rfl
      | some u =>
        rcases only b u q with ⟨eb, _⟩ | ⟨hb, _⟩
        · rw [eb] at q e
          rw [hK (by rw [q]; rfl)] at e
          cases e
        · obtain ⟨p, hp, ep⟩ := List.mem_map.mp hb
          rw [← ep, hKT p hp] at e
          cases e
    have tabB : ∀ p ∈ cs, GxR.TabB (hidT s₁.heap H) mg p.1 p.2 := fun p hp => by
      obtain ⟨cd, hP⟩ := hcs p hp
      refine ⟨?_, ?_, fun z => ?_⟩
      · obtain ⟨o, us, file, tf, flags, tg, inF, text, tt, e1, r1, r2, r3, r⟩ := cd
        refine ⟨o, us, file, tf, flags, tg, inF, text, tt, hidT_get e1 (free e1 (fun xs n z => by rw [r2] at z; cases z) fun z => ?_), r1, r2, r3, r⟩
        rw [r2] at z
        cases z
        simp at r3
      · obtain ⟨bm, ob, b1, b2, b3, b4, b5, b6⟩ := hbm
        refine ⟨bm, ob, b1, b2, fun q => ?_, fun q => ?_, hidT_get b3 (free b3 (fun xs n z => by rw [b6] at z; cases z) fun z => by rw [b6] at z; cases z), b4, b5, b6⟩
        · obtain ⟨o, es, ep, e, hd, _⟩ := hns
          rw [q, e] at b3
          cases b3
          rw [hd] at b6
          cases b6
        · rw [q, hP] at b3
          cases b3
          cases b6
      · obtain ⟨o, es, ep, e, hd, _⟩ := hns
        rw [z, hP] at e
        cases e
        cases hd
    have hM : Mod K mg (hidT s₁.heap H) := by
      obtain ⟨mc, l1, l2⟩ := hlim
      exact ⟨kin2, ns2 hns, ⟨mb, ns2 hb, hbb⟩, ⟨mc, ns2 l1, l2⟩⟩
    have noFr : ∀ b : Addr, b ∉ frs ([] : List Env) := fun b z => by cases z
    have e0 : Env0 P w K mg (hidT s₁.heap H) callerA [] s₁ H :=
      ⟨rfl, hM, fun b o e => of_hidT e, Nat.le_of_eq (hidT_size _ _), trivial, fun b z => absurd z (noFr b), hok, .of_eq hg⟩
    refine codeAny_mono ((F _ kin2 (ns2 hns) tabB).run callerA [] s₁ H ⟨[.ref a], []⟩ [.ref a] [.ref a] (fun v H' => v = .bl true ∧ TbF (cs.map (·.2)) H') hr rfl e0 (hbind s₁ (.ref a)) (.cons rfl .nil) ⟨a, ns, rfl, hS, hl, tabs, fun H' t => ⟨rfl, t⟩⟩) ?_
    rintro r s' ⟨u, rfl, v, H', os, bare, un, hok', r', q, tabs'⟩
    have q : v = .bl true := q
    subst q
    have eu : u = Value.bool true := r'
    subst eu
    have kept : ∀ b o, b ∉ cs.map (·.2) → s₁.heap.get? b = some o → s'.heap.get? b = some o := fun b o nb e => by
      cases q : H b with
      | none => exact un.keep b o e q (noFr b) (by simp)
      | some u =>
        rcases only b u q with ⟨_, ob, xs, rfl⟩ | ⟨hb, _⟩
        · have k1 := (hok b _ q).1
          have k2 := (hok' b _ (un.frzs b ob _ q)).1
          rw [e] at k1
          cases k1
          exact k2
        · exact absurd hb nb
    have grown : ∀ b ∈ cs.map (·.2), ∃ ps : Array Value, s'.heap.get? b = some { cls := .none, data := .fields ps } := fun b hb => by
      obtain ⟨ps, e, _⟩ := tbx_at hok' (tabs' b hb)
      exact ⟨ps, e⟩
    refine ⟨rfl, ⟨fun b o e => ?_, fun b o e => ?_⟩, os, bare⟩
    · by_cases hb : b ∈ cs.map (·.2)
      · obtain ⟨ps, hps⟩ := grown b hb
        obtain ⟨p, hp, ep⟩ := List.mem_map.mp hb
        rw [isT b hb] at e
        cases e
        refine .inr (.inl ⟨?_, rfl, #[], ps, rfl, by rw [Array.empty_append]; exact hps⟩)
        have := ((hcs p hp).1.tab (hcs p hp).2).isCodeTable
        rw [ep] at this
        exact this
      · exact .inl (kept b o hb e)
    · by_cases hb : b ∈ cs.map (·.2)
      · obtain ⟨ps, hps⟩ := grown b hb
        exact ⟨_, hps⟩
      · exact ⟨o, kept b o hb e⟩
  have tabOk : ∀ b ∈ cs.map (·.2), ∀ H : Hp, ObjOk P w H s₁.heap b (tbx b) := fun b hb H => tbx_ok (isT b hb) (by exact True.intro)
  cases hk : K.lookup a with
  | some o =>
    have e := KX a o hk
    rw [ha] at e
    cases e
    refine main (fun b => if b ∈ cs.map (·.2) then some (tbx b) else none) (fun b u z => ?_) (fun b hb => if_pos hb) ?_ (fun b u z => ?_) (fun z => ?_)
    · by_cases hb : b ∈ cs.map (·.2)
      · rw [if_pos hb] at z; exact .inr ⟨hb, (Option.some.inj z).symm⟩
      · rw [if_neg hb] at z; cases z
    · refine .inr ⟨_, vs.toArray, _, hk, rfl, rfl, rfl, ?_, by simpa using rv⟩
      rw [List.size_toArray, ← rv.length, List.length_map]
      exact hz
    · by_cases hb : b ∈ cs.map (·.2)
      · have z := (if_pos hb).symm.trans z
        cases z
        exact tabOk b hb _
      · have z := (if_neg hb).symm.trans z
        cases z
    · have z' : (if a ∈ cs.map (·.2) then some (tbx a) else none).isSome = true := z
      rw [if_neg aT] at z'
      cases z'
  | none =>
    refine main (fun b => if b = a then some (.frz { cls := .type "list", data := .seq vs.toArray } (.lst (ns.map V.int))) else if b ∈ cs.map (·.2) then some (tbx b) else none) (fun b u z => ?_) (fun b hb => ?_) (.inl (.inr ⟨_, if_pos rfl⟩)) (fun b u z => ?_) (fun _ => hk)
    · by_cases e : b = a
      · have z := (if_pos e).symm.trans z
        cases z
        exact .inl ⟨e, _, _, rfl⟩
      · have z := (if_neg e).symm.trans z
        by_cases hb : b ∈ cs.map (·.2)
        · have z := (if_pos hb).symm.trans z
          cases z
          exact .inr ⟨hb, rfl⟩
        · have z := (if_neg hb).symm.trans z
          cases z
    · have ne : ¬ b = a := fun z => aT (by rw [← z]; exact hb)
      exact (if_neg ne).trans (if_pos hb)
    · by_cases e : b = a
      · have z := (if_pos e).symm.trans z
        cases z
        rw [e]
        exact ⟨ha, by rw [List.length_map]; exact hz, vs, _, rv, ha⟩
      · have z := (if_neg e).symm.trans z
        by_cases hb : b ∈ cs.map (·.2)
        · have z := (if_pos hb).symm.trans z
          cases z
          exact tabOk b hb _
        · have z := (if_neg hb).symm.trans z
          cases z
theorem walkT {l : PySem.W.OpenLaw} {k : Nat} {q : Program} {loose : List Str} {XP : (Str → Option Value) → Heap → Prop} {YP : World → Heap → Prop} {d : DefRec} {K : Params → PySem.W.Frag} {x : Str}
    (hn : l.most = some 63) (hdf : d.params.defaults = []) (hr : Room k callerA) (hY : ∀ (w : World) (h : Heap), YP w h → (K w.params).In h)
    (F : ∀ (w : World) (mg : Str → Option Value) (fa : Addr) (h : Heap), (K w.params).In h → h.Ns mainGlobals mg → mg d.name = some (.ref fa) → (∀ y : Str, ((recsOf q).any fun e => e.name == y) = true → TabOf mg h y) →
      ∃ (fd : FuncData) (cs : List (Addr × Addr)), (∀ p ∈ cs, PySem.W.CodeHd h p.1 p.2 ∧ h.get? p.2 = some { cls := .none, data := .fields #[] }) ∧ (∀ p ∈ cs, (K w.params).lookup p.2 = none) ∧ (∀ (s : Shared) (u : Value), BindsTo s fd ⟨[u], []⟩ [(x, u)]) ∧
        ∀ base : Heap, (K w.params).In base → base.Ns mainGlobals mg → (∀ p ∈ cs, GxR.TabB base mg p.1 p.2) → FnG l.prog w (K w.params) mg base k fa fd [x] (spLawT (cs.map (·.2)) (K w.params))) :
    PySem.W.WalkO q loose XP YP l.row.toRowW d [] (fun f vs => PySem.call f vs) := by
  refine Att.attach_call hn hdf fun w s₀ s₁ mg mb fa o pm cd doc a vs ns G Y ho hd hcd hmg hobj hints hlen hg => ?_
  have kin := hY w _ Y
  obtain ⟨fd, cs, h1, h2, hb, hF⟩ := F w mg fa _ kin G.T.g hmg fun y hy => by
    obtain ⟨dL, hm, hn1⟩ := List.any_eq_true.mp hy
    have e : dL.name = y := beq_iff_eq.mp hn1
    rw [← e]
    exact G.T.tab dL hm
  exact lawT_call kin G.T.g G.T.b G.T.builtins G.T.nolimit hg G.T.bmain h1 h2 hobj hints hlen hr hF hb

/-! ### by computation, and pure readings -/
def gxC (N : List Str) (sc scope : Scope) (own : List (Str × Nat)) : Bool :=
  blkC N sc scope own && (!scope.isCoroutine && (scope.names.all (fun y => decide (y.2 ≠ .cell)) && (decide (scope.names.lookup (".0" : Str) = some NameKind.local) && !N.contains (".0" : Str))))
theorem gxOk_by {N : List Str} {sc scope : Scope} {own : List (Str × Nat)} (h : gxC N sc scope own = true) : GxOk N sc scope own := by
  unfold gxC at h
  simp only [Bool.and_eq_true, Bool.not_eq_true', List.all_eq_true, decide_eq_true_eq] at h
  obtain ⟨h1, h2, h3, h4, h5⟩ := h
  exact ⟨blkOk_by h1, h2, h3, h4, fun z => by rw [List.contains_iff_mem.mpr z] at h5; cases h5⟩
/-- the reading of all(..), any(..) where no slot changes -/
theorem wGxL_rule {u : Bool} {vs : List Nat} {wg : WG} {we : WE} {ρ : List Sl} (pr : D → Bool) (hn : noOwnB ρ vs = true) {Q : D → List Sl → Prop} : ∀ (ds : List D),
    (∀ d ∈ ds, ∃ ρ2, noOwnB ρ2 vs = true ∧ wipeD ρ2 vs = ρ ∧ ∀ Q' : D → List Sl → Prop, Q' (.bl (pr d)) ρ2 → wg d ρ fun ρ1 => we ρ1 Q') → Q (.bl (if u then ds.all pr else ds.any pr)) (wipeD ρ vs.reverse) → wGxL u vs wg we ds ρ Q
  | [], _, q => by cases u <;> exact ⟨hn, q⟩
  | d :: ds, h, q => by
    obtain ⟨ρ2, h1, h2, h3⟩ := h d List.mem_cons_self
    refine h3 _ ⟨h1, pr d, rfl, fun e => ?_, fun e => ?_⟩
    · rw [h2]
      refine wGxL_rule pr hn ds (fun d' hd => h d' (List.mem_cons_of_mem _ hd)) ?_
      cases u <;> simpa [e] using q
    · rw [h2]
      cases u <;> simpa [e] using q
end DL

/-! {k: v, ..}, any number of entries. -/
namespace DL
open PySem PySem.Spec PyProof.Rows L2
theorem mergeK_nodup : ∀ {more kvs : List (Key × V)}, (kvs.map (·.1) ++ more.map (·.1)).Nodup → mergeK kvs more = kvs ++ more
  | [], kvs, _ => by show kvs = _; rw [List.append_nil]
  | p :: r, kvs, h => by
    show mergeK (putK kvs p.1 p.2) r = _
    have hn : (kvs.any fun kv => decide (kv.1 = p.1)) = false := by
      cases e : (kvs.any fun kv => decide (kv.1 = p.1)) with
      | false => rfl
      | true =>
        obtain ⟨q, hq, hk⟩ := List.any_eq_true.mp e
        have hk := of_decide_eq_true hk
        rw [List.map_cons, List.nodup_append] at h
        exact absurd (hk ▸ rfl : q.1 = p.1) (h.2.2 q.1 (List.mem_map.mpr ⟨q, hq, rfl⟩) p.1 List.mem_cons_self)
    have e : putK kvs p.1 p.2 = kvs ++ [p] := by unfold putK; rw [hn, if_neg Bool.false_ne_true]
    rw [e, mergeK_nodup (by rw [List.map_append, List.append_assoc]; exact h), List.append_assoc]; rfl
variable [Lk]
abbrev WPs := List Sl → (List D → List D → List Sl → Prop) → Prop
def Snps (c : Cy) (trs : List (TE × TE)) (w : WPs) : Prop := ∀ {b : Option Addr} {ρ : List Sl} {σ : L2.St} {F M M0 : Hp}, Rel c b ρ σ F M M0 → ∀ (Qd : List D → List D → List Sl → Prop) (Q : List (V × V) → Hp → Prop), w ρ Qd →
  (∀ ks ds ρ' ps F' M' M0', Qd ks ds ρ' → Aft c b F M M0 ρ' σ F' M' M0' → DrL c F' (ps.map (·.1)) ks → DrL c F' (ps.map (·.2)) ds → Q ps (HH F' M')) → tPairs trs σ (HH F M) Q
structure DPs (X : Cx) (pos : Pos) (keys : List (Option Expr)) (values : List Expr) (trs : List (TE × TE)) (w : WPs) : Prop where
  pe : PPs X pos keys values trs
  sn : Snps (cy X) trs w
def psNil : WPs := fun ρ Q => Q [] [] ρ
def psCons (wk wv : WE) (w : WPs) : WPs := fun ρ Q => wk ρ fun k ρ1 => wv ρ1 fun d ρ2 => w ρ2 fun ks ds ρ3 => Q (k :: ks) (d :: ds) ρ3
theorem zd {ρ : List Sl} {Q : List D → List D → List Sl → Prop} : psNil ρ Q = Q [] [] ρ := rfl
theorem ze {wk wv : WE} {w : WPs} {ρ : List Sl} {Q : List D → List D → List Sl → Prop} : psCons wk wv w ρ Q = wk ρ fun k ρ1 => wv ρ1 fun d ρ2 => w ρ2 fun ks ds ρ3 => Q (k :: ks) (d :: ds) ρ3 := rfl
section
variable {X : Cx} {e e2 : Expr} {te t2 : TE} {w w2 : WE} {pos : Pos} {keys : List (Option Expr)} {values : List Expr} {trs : List (TE × TE)} {wp : WPs}
theorem dps_nil : DPs X pos [] [] [] psNil := ⟨pps_nil, fun {b ρ σ F M M0} R Qd Q hw k => k [] [] ρ [] F M M0 hw R.aft .nil .nil⟩
theorem dps_cons (hk : DE X e te w) (hv : DE X e2 t2 w2) (hr : DPs X pos keys values trs wp) : DPs X pos (some e :: keys) (e2 :: values) ((te, t2) :: trs) (psCons w w2 wp) := ⟨pps_cons hk.pe hv.pe hr.pe, fun {b ρ σ F M M0} R Qd Q hw k => by
  refine hk.sn R _ _ hw fun dk ρ1 y F1 M1 M01 q1 A1 r1 => ?_
  refine hv.sn A1.rel _ _ q1 fun d ρ2 v F2 M2 M02 q2 A2 r2 => ?_
  exact hr.sn A2.rel _ _ q2 fun ks ds ρ3 ps F3 M3 M03 q3 A3 r3 r4 => k (dk :: ks) (d :: ds) ρ3 ((y, v) :: ps) F3 M3 M03 q3 (A1.trans (A2.trans A3)) (.cons (r1.up (A2.same.trans A3.same)) r3) (.cons (r2.up A3.same) r4)⟩
def wfDispN (w : WPs) : List Sl → (Sl → List Sl → Prop) → Prop := fun ρ Q => w ρ fun kd ds ρ1 => ∃ ks, keysD kd = some ks ∧ ks.Nodup ∧ ks.length ≤ 15 ∧ Q (.ok ks ds) ρ1
theorem zc {w : WPs} {ρ : List Sl} {Q : Sl → List Sl → Prop} : wfDispN w ρ Q = w ρ fun kd ds ρ1 => ∃ ks, keysD kd = some ks ∧ ks.Nodup ∧ ks.length ≤ 15 ∧ Q (.ok ks ds) ρ1 := rfl
theorem keysD_len : ∀ {kd : List D} {ks : List Key}, keysD kd = some ks → kd.length = ks.length
  | [], ks, e => by cases e; rfl
  | d :: ds, ks, e => by
    unfold keysD at e
    cases e1 : keyD d with
    | none => rw [e1] at e; cases e
    | some k =>
      cases e2 : keysD ds with
      | none => rw [e1, e2] at e; cases e
      | some kr => rw [e1, e2] at e; cases e; rw [List.length_cons, List.length_cons, keysD_len e2]
theorem df_dispN (h : DPs X pos keys values trs wp) (hall : keys.all (·.isSome) = true := by rfl) (hl : keys.length = values.length := by rfl) (h0 : keys ≠ [] := by simp) (h15 : keys.length ≤ 15 := by decide) : DF X (.Dict keys values pos) (tDisp trs) (wfDispN wp) := ⟨pe_disp h.pe hall hl h0 h15, fun {b ρ σ F M M0} R Qd Q hw k => by
  intro p hp
  obtain ⟨pf, pm⟩ := hh_none hp
  have nbp : b ≠ some p := fun e => by
    obtain ⟨_, _, _, h1, _⟩ := R.box p e
    rw [R.env.sub _ _ h1] at pm; cases pm
  have L := R.lay (o := .dK []) pf pm
  rw [hh_updM]
  refine h.sn L _ _ hw fun kd ds ρ2 ps F2 M2 M02 q2 A rk rd => ?_
  obtain ⟨ks, hks, hnd, hlen, q2⟩ := q2
  have e0 : M02 p = some (.dK []) := by rw [A.mr p nbp, upd_same]
  have e1 := A.rel.env.sub _ _ e0
  have e2 := A.rel.dj _ _ e1
  have ek : ps.map (·.1) = ks.map kV := keysD_v hks rk
  have len1 : ps.length = ks.length := by have := congrArg List.length ek; rwa [List.length_map, List.length_map] at this
  have l1 : (ks.zip (ps.map (·.2))).map (·.1) = ks := by rw [List.map_fst_zip]; rw [List.length_map]; omega
  have l2 : (ks.zip (ps.map (·.2))).map (·.2) = ps.map (·.2) := by rw [List.map_snd_zip]; rw [List.length_map]; omega
  have eps : ps = (ks.zip (ps.map (·.2))).map (fun kv => (kV kv.1, kv.2)) := by
    apply List.ext_getElem
    · rw [List.length_map, List.length_zip, List.length_map]; omega
    · intro i h1 h2
      have hk := congrArg (fun l : List V => l[i]?) ek
      simp only [List.getElem?_map] at hk
      rw [List.getElem?_eq_getElem h1, List.getElem?_eq_getElem (show i < ks.length by omega)] at hk
      have hk : ps[i].1 = kV ks[i] := Option.some.inj hk
      rw [List.getElem_map, List.getElem_zip, List.getElem_map, ← hk]
  refine ⟨hh_m e1, ks.zip (ps.map (·.2)), eps, by rw [List.length_zip, List.length_map]; omega, ?_⟩
  have em : mergeK [] (ks.zip (ps.map (·.2))) = ks.zip (ps.map (·.2)) := by rw [mergeK_nodup (by rw [List.map_nil, List.nil_append, l1]; exact hnd), List.nil_append]
  rw [em, hh_updM, ← upd_del]
  have mr' : MR b M0 (del M02 p) := fun a na => by
    by_cases e : a = p
    · subst e
      rw [del_same]
      cases z : M0 a with
      | none => rfl
      | some u => rw [R.env.sub _ _ z] at pm; cases pm
    · rw [del_ne e, A.mr a na, upd_ne e]
  refine k (.ok ks ds) ρ2 p _ F2 (del M2 p) (del M02 p) q2 ⟨A.same, fun a o na qa => ?_, A.rel.unlay e0 nbp (R.lkM A.same mr'), mr'⟩ trivial ⟨ks.zip (ps.map (·.2)), rfl, l1, by rw [l2]; exact rd⟩ e2 del_same
  · have nap : a ≠ p := fun z => by rw [z, hp] at qa; cases qa
    have q1 : HH F (upd M p (.dK [])) a = some o := by rw [← hh_updM, upd_ne nap]; exact qa
    have q2 := A.ext a o na q1
    rcases hh_some q2 with z | ⟨z1, z2⟩
    · exact hh_m (by rw [del_ne nap]; exact z)
    · rw [hh_n (by rw [del_ne nap]; exact z1)]; exact z2⟩
end
end DL

/-! != of equal flat dicts; list(d). -/
namespace DL
open PySem PySem.Spec PyProof.Rows L2
section
variable {X : Cx}
def dNeS : D → D → (D → Prop) → Prop
  | .dk ks ds, .dk ks' ds', Q => ks' = ks ∧ ds' = ds ∧ ks.Nodup ∧ (∀ d ∈ ds, flatD d = true) ∧ Q (.bl false)
  | _, _, _ => False
def rNkS : R2 := fun x y H Q => ∃ a b ks ls, x = .ref a ∧ y = .ref b ∧ Rd H a (.dK ks) ∧ Rd H b (.dK ls) ∧ ks.length = ls.length ∧ (∀ p ∈ ks, ∃ u, valV ls p.1 = some u ∧ (p.2 = u ∧ flatB p.2 = true)) ∧ Q (.bl false) H
theorem op_nkS (hu : X.A.units + 64 < cLine) : OpR X (compareOp .NotEq) rNkS := by
  intro pins s σ H x y v u Q I rx ry h
  obtain ⟨a, b, ks, ls, rfl, rfl, ha, hb, hl, hp, q⟩ := h
  cases (show v = Value.ref a from rx)
  cases (show u = Value.ref b from ry)
  obtain ⟨_, ya, va, ra, da⟩ := (show ObjOk X.prog X.w H s.heap a (.dK ks) from ha.ok I.hok)
  obtain ⟨_, yb, vb, rb, db⟩ := (show ObjOk X.prog X.w H s.heap b (.dK ls) from hb.ok I.hok)
  have e : va.length = vb.length := by rw [← ra.length, ← rb.length]; exact hl
  refine PySem.W.keq_ne (knd := mixKind X.prog X.w) (r := true) ya yb da db (by omega) (fun _ => hits_all rb ra fun p hm => let ⟨u, h1, h2, h3⟩ := hp p hm; ⟨by rw [h1, h2], h3⟩) (fin_bl I q (by simp [e]))
theorem rop_neS : Rop (cy X) rNkS dNeS := fun {b F M x y d1 d2} Qd Q dj r1 r2 hw k => by
  cases d1 with
  | dk ks ds =>
    cases d2 with
    | dk ks' ds' =>
      obtain ⟨rfl, rfl, nd, fl, q⟩ := hw
      obtain ⟨a, ps, rfl, _, h, e, r⟩ := r1
      obtain ⟨a2, qs, rfl, _, h2, e2, r2⟩ := r2
      refine ⟨a, a2, ps, qs, rfl, rfl, h, h2, ?_, flat_dicts (e.trans e2.symm) (by rw [e]; exact nd) fl r r2, k _ _ F q (Same.refl _) dj (fun _ f _ => f) .of_bl⟩
      have := congrArg List.length (e.trans e2.symm)
      simpa using this
    | _ => exact hw.elim
  | _ => exact hw.elim
theorem v_kD {c : Cy} {F : Hp} (k : Key) : Dr c F (kV k) (kD k) := by cases k <;> first | exact .of_int | exact .of_str
theorem kDs {c : Cy} {F : Hp} : ∀ (ps : List (Key × V)), DrL c F (ps.map fun kv => kV kv.1) ((ps.map (·.1)).map kD)
  | [] => .nil
  | p :: ps => .cons (v_kD p.1) (kDs ps)
def dListK : D → (D → Prop) → Prop
  | .dk ks _, Q => Q (.lst (ks.map kD))
  | _, _ => False
theorem ro1_listK : Ro1 (cy X) (fun x H Q => ∃ (a : Addr) (kvs : List (Key × V)), [x] = [V.ref a] ∧ Rd H a (.dK kvs) ∧ ∀ p, H p = none → Q (.ref p) (upd H p (.lst (kvs.map fun kv => kV kv.1)))) dListK := fun {b F M x d1} Qd Q dj r1 hw k => by
  cases d1 with
  | dk ks ds =>
    obtain ⟨a, ps, rfl, _, h, e, r⟩ := r1
    refine ⟨a, ps, rfl, h, fun p hp => new_lst dj (ds := ks.map kD) (by rw [← e]; exact kDs ps) hp hw k⟩
  | _ => exact hw.elim
/-- isinstance(e, T), e a dict of keys -/
def dIsiK (T : String) : D → (D → Prop) → Prop
  | .dk _ _, Q => ∃ b, kitB "dict" T = some b ∧ Q (.bl b)
  | _, _ => False
theorem rop_isiK {T : String} : Ro1 (cy X) (fun x H Q => rIsi X.K [x, .ty T] H Q) (dIsiK T) := fun {b F M x d1} Qd Q dj r1 hw k => by
  cases d1 with
  | dk ks ds =>
    obtain ⟨bb, e2, q⟩ := hw
    obtain ⟨a, ps, rfl, _, h, e, r⟩ := r1
    have ty : TyX X.K (HH F M) (.ref a) (.type "dict") := h.elim (fun h => .base (.dK h)) fun ⟨o, h⟩ => .fDict h
    exact ⟨.ref a, .ty T, .type "dict", .type T, bb, rfl, .ty T, ty, kit_ty e2, k _ _ F q (Same.refl _) dj .of_bl⟩
  | _ => exact hw.elim
theorem de_isiK [Lk] {e : Expr} {te : TE} {w : WE} {x : Str} {T : String} {p p2 pos : Pos} (hg : Gl X "isinstance") (hm : X.mg "isinstance" = none) (hgT : Gl X x) (hmT : X.mg x = none) (hvT : bootBuiltins x = some (.type T)) (ha : DP X e te w)
    (hv : bootBuiltins "isinstance" = some (.builtin "isinstance") := by decide +kernel) (hn : x ≠ "__name__" := by decide) (hdb : (x == ("__debug__" : Str)) = false := by decide)
    (he : starEach (e :: [.Name x p2]) X.env = (false, eval e X.env) :: starEach [.Name x p2] X.env := by rfl) (he2 : starEach (.Name x p2 :: []) X.env = (false, eval (.Name x p2) X.env) :: starEach [] X.env := by rfl)
    (hpl : (backTo pos (starEach [.Name x p2] X.env)).any (·.1) = false := by rfl) :
    DE X (.Call (.Name "isinstance" p) [e, .Name x p2] [] pos) (tCB (rIsi X.K) (tCons te (tCons (tC (.ty T)) tNil))) (wUn (dIsiK T) w) :=
  ⟨pe_callB call_isi hg hm hv (pa_cons ha.pe (pa_cons (pe_bltn hgT hmT hvT rfl hn hdb) pa_nil he2) he) (by decide) (by decide) he hpl, fun {b ρ σ F M M0} R Qd Q hw k => snd_un (c := cy X) (r := fun x H Q => rIsi X.K [x, .ty T] H Q) rop_isiK ha.sn R Qd Q hw k⟩
end
end DL

namespace DL
open PySem PySem.Spec PyProof.Rows L2
/-- a machine: facts, and for each state a row of steps, a row of gains (aligned with the facts), what leaving pays -/
structure Mach where
  facts : List Str
  step : List (List Int)
  gain : List (List Int)
  leave : List Int
def keysOf (fs : List Str) : List Key := fs.map Sum.inr
def rowOf (fs : List Str) (r : List Int) : RowD := (keysOf fs, r.map D.int)
def Mach.ds (m : Mach) : List D := [.lst (m.facts.map D.str), .lst (m.step.map fun r => rowD (rowOf m.facts r)), .lst (m.gain.map fun r => rowD (rowOf m.facts r)), .lst (m.leave.map D.int)]
def machF : List Str := ["facts", "step", "gain", "leave"]
def Mach.dd (m : Mach) : D := .ins "Machine" machF m.ds
structure Mach.ok (m : Mach) (top : Nat) (B : Int) : Prop where
  nd : m.facts.Nodup
  f1 : 1 ≤ m.facts.length
  f3 : m.facts.length ≤ 3
  n1 : 1 ≤ m.leave.length
  n8 : m.leave.length ≤ top
  ls : m.step.length = m.leave.length
  lg : m.gain.length = m.leave.length
  rs : ∀ r ∈ m.step, r.length = m.facts.length ∧ ∀ s ∈ r, 0 ≤ s ∧ s < m.leave.length
  rg : ∀ r ∈ m.gain, r.length = m.facts.length ∧ ∀ g ∈ r, -B ≤ g ∧ g ≤ B
  rl : ∀ l ∈ m.leave, -B ≤ l ∧ l ≤ B
theorem lk_facts (m : Mach) : lookD machF m.ds "facts" = some (.lst (m.facts.map D.str)) := by
  unfold machF Mach.ds
  simp only [lookD, if_true]
theorem lk_step (m : Mach) : lookD machF m.ds "step" = some (.lst (m.step.map fun r => rowD (rowOf m.facts r))) := by
  unfold machF Mach.ds
  simp only [lookD, if_true, show (("step" : Str) = "facts") = False from eq_false (by decide +kernel), if_false]
theorem lk_gain (m : Mach) : lookD machF m.ds "gain" = some (.lst (m.gain.map fun r => rowD (rowOf m.facts r))) := by
  unfold machF Mach.ds
  simp only [lookD, if_true, show (("gain" : Str) = "facts") = False from eq_false (by decide +kernel), show (("gain" : Str) = "step") = False from eq_false (by decide +kernel), if_false]
theorem lk_leave (m : Mach) : lookD machF m.ds "leave" = some (.lst (m.leave.map D.int)) := by
  unfold machF Mach.ds
  simp only [lookD, if_true, show (("leave" : Str) = "facts") = False from eq_false (by decide +kernel), show (("leave" : Str) = "step") = False from eq_false (by decide +kernel), show (("leave" : Str) = "gain") = False from eq_false (by decide +kernel), if_false]
/-- what stands in a row at a fact -/
def look : List Str → List Int → Str → Int
  | f :: fs, r :: rs, x => if f = x then r else look fs rs x
  | _, _, _ => 0
theorem look_al : ∀ {fs : List Str} {r : List Int} {x : Str}, r.length = fs.length → x ∈ fs → alD (keysOf fs) (r.map D.int) (Sum.inr x) = some (.int (look fs r x))
  | [], _, x, _, h => by cases h
  | f :: fs, [], x, h, _ => by simp at h
  | f :: fs, r :: rs, x, hl, h => by
    unfold keysOf
    simp only [List.map_cons, alD, look]
    by_cases z : f = x
    · rw [if_pos (by rw [z]), if_pos z]
    · rw [if_neg (fun e => z (Sum.inr.inj e)), if_neg z]
      exact look_al (by simpa using hl) (by
        rcases List.mem_cons.mp h with e | h
        · exact absurd e.symm z
        · exact h)
theorem look_mem : ∀ {fs : List Str} {r : List Int} {x : Str}, r.length = fs.length → x ∈ fs → look fs r x ∈ r
  | [], _, x, _, h => by cases h
  | f :: fs, [], x, h, _ => by simp at h
  | f :: fs, r :: rs, x, hl, h => by
    unfold look
    by_cases z : f = x
    · rw [if_pos z]; exact List.mem_cons_self
    · rw [if_neg z]
      exact List.mem_cons_of_mem _ (look_mem (by simpa using hl) (by
        rcases List.mem_cons.mp h with e | h
        · exact absurd e.symm z
        · exact h))
def Mach.stp (m : Mach) (s : Nat) (x : Str) : Int := look m.facts (m.step.getD s []) x
def Mach.gn (m : Mach) (s : Nat) (x : Str) : Int := look m.facts (m.gain.getD s []) x
def Mach.lv (m : Mach) (s : Nat) : Int := m.leave.getD s 0
def totM (m : Mach) : Nat → List Str → Int
  | s, [] => m.lv s
  | s, f :: w => m.gn s f + totM m (m.stp s f).toNat w
theorem getD_at {α : Type} {l : List α} {s : Nat} {a : α} (h : s < l.length) : l[s]? = some (l.getD s a) := by
  rw [List.getD_eq_getElem?_getD, List.getElem?_eq_getElem h]; rfl
theorem getD_in {α : Type} {l : List α} {s : Nat} {a : α} (h : s < l.length) : l.getD s a ∈ l := by
  rw [List.getD_eq_getElem?_getD, List.getElem?_eq_getElem h]; exact List.getElem_mem h
section
variable {m : Mach} {top : Nat} {B : Int} (k : m.ok top B)
include k
/-- reading step[s][f], gain[s][f], leave[s] -/
theorem Mach.at_step {s : Int} (h0 : 0 ≤ s) (h1 : s < m.leave.length) : atI (m.step.map fun r => rowD (rowOf m.facts r)) s = some (rowD (rowOf m.facts (m.step.getD s.toNat []))) := by
  refine atI_nat h0 ?_
  rw [List.getElem?_map, getD_at (a := []) (by have := k.ls; omega)]; rfl
theorem Mach.at_gain {s : Int} (h0 : 0 ≤ s) (h1 : s < m.leave.length) : atI (m.gain.map fun r => rowD (rowOf m.facts r)) s = some (rowD (rowOf m.facts (m.gain.getD s.toNat []))) := by
  refine atI_nat h0 ?_
  rw [List.getElem?_map, getD_at (a := []) (by have := k.lg; omega)]; rfl
theorem Mach.at_leave {s : Int} (h0 : 0 ≤ s) (h1 : s < m.leave.length) : atI (m.leave.map D.int) s = some (.int (m.lv s.toNat)) := by
  refine atI_nat h0 ?_
  rw [List.getElem?_map, getD_at (a := 0) (by omega)]; rfl
theorem Mach.ix_step {s : Nat} {x : Str} {Q : D → Prop} (h1 : s < m.leave.length) (hx : x ∈ m.facts) (q : Q (.int (m.stp s x))) : dIx (rowD (rowOf m.facts (m.step.getD s []))) (.str x) Q := by
  have h := k.rs _ (getD_in (a := []) (show s < m.step.length by have := k.ls; omega))
  exact ⟨_, by show Option.map _ (some _) = _; exact congrArg some (look_al h.1 hx), q⟩
theorem Mach.ix_gain {s : Nat} {x : Str} {Q : D → Prop} (h1 : s < m.leave.length) (hx : x ∈ m.facts) (q : Q (.int (m.gn s x))) : dIx (rowD (rowOf m.facts (m.gain.getD s []))) (.str x) Q := by
  have h := k.rg _ (getD_in (a := []) (show s < m.gain.length by have := k.lg; omega))
  exact ⟨_, by show Option.map _ (some _) = _; exact congrArg some (look_al h.1 hx), q⟩
theorem Mach.stp_in {s : Nat} {x : Str} (h1 : s < m.leave.length) (hx : x ∈ m.facts) : 0 ≤ m.stp s x ∧ m.stp s x < m.leave.length := by
  have h := k.rs _ (getD_in (a := []) (show s < m.step.length by have := k.ls; omega))
  exact h.2 _ (look_mem h.1 hx)
theorem Mach.gn_in {s : Nat} {x : Str} (h1 : s < m.leave.length) (hx : x ∈ m.facts) : -B ≤ m.gn s x ∧ m.gn s x ≤ B := by
  have h := k.rg _ (getD_in (a := []) (show s < m.gain.length by have := k.lg; omega))
  exact h.2 _ (look_mem h.1 hx)
theorem Mach.lv_in {s : Nat} (h1 : s < m.leave.length) : -B ≤ m.lv s ∧ m.lv s ≤ B := k.rl _ (getD_in h1)
end
/-- a carry -/
structure Cary where
  to : List Int
  cost : List Int
structure Cary.ok (c : Cary) (n k : Nat) : Prop where
  lt : c.to.length = n
  lc : c.cost.length = n
  rt : ∀ s ∈ c.to, 0 ≤ s ∧ s < k
  rc : ∀ g ∈ c.cost, -20000 ≤ g ∧ g ≤ 20000
structure Cary.okS (c : Cary) (n k : Nat) : Prop where
  toOk : c.ok n k
  small : ∀ g ∈ c.cost, -50 ≤ g ∧ g ≤ 50
def caryF : List Str := ["to", "cost"]
def Cary.ds (c : Cary) : List D := [.lst (c.to.map D.int), .lst (c.cost.map D.int)]
def Cary.dd (c : Cary) : D := .ins "Carry" caryF c.ds
theorem lk_to (c : Cary) : lookD caryF c.ds "to" = some (.lst (c.to.map D.int)) := by
  unfold caryF Cary.ds
  simp only [lookD, if_true]
theorem lk_cost (c : Cary) : lookD caryF c.ds "cost" = some (.lst (c.cost.map D.int)) := by
  unfold caryF Cary.ds
  simp only [lookD, if_true, show (("cost" : Str) = "to") = False from eq_false (by decide +kernel), if_false]
theorem Cary.at_to {c : Cary} {n k : Nat} (h : c.ok n k) {s : Int} (h0 : 0 ≤ s) (h1 : s < n) : atI (c.to.map D.int) s = some (.int (c.to.getD s.toNat 0)) := by
  refine atI_nat h0 ?_
  rw [List.getElem?_map, getD_at (a := 0) (by have := h.lt; omega)]; rfl
theorem Cary.to_in {c : Cary} {n k : Nat} (h : c.ok n k) {s : Int} (h0 : 0 ≤ s) (h1 : s < n) : 0 ≤ c.to.getD s.toNat 0 ∧ c.to.getD s.toNat 0 < k := h.rt _ (getD_in (by have := h.lt; omega))
theorem Mach.ok.mono {m : Mach} {t t' : Nat} {B B' : Int} (h : m.ok t B) (ht : t ≤ t') (hB : B ≤ B') : m.ok t' B' :=
  ⟨h.nd, h.f1, h.f3, h.n1, Nat.le_trans h.n8 ht, h.ls, h.lg, h.rs, fun r hr => ⟨(h.rg r hr).1, fun g hg => by have := (h.rg r hr).2 g hg; omega⟩, fun l hl => by have := h.rl l hl; omega⟩
def wordD (w : List Str) : D := .lst (w.map D.str)
def minL : List Int → Int
  | [] => 0
  | [x] => x
  | x :: y :: r => min x (minL (y :: r))
theorem minL_mem : ∀ {l : List Int}, l ≠ [] → minL l ∈ l
  | [], h => absurd rfl h
  | [x], _ => by simp [minL]
  | x :: y :: r, _ => by
    have ih := minL_mem (l := y :: r) (by simp)
    unfold minL
    rcases Int.le_total x (minL (y :: r)) with h | h
    · rw [Int.min_eq_left h]; exact List.mem_cons_self
    · rw [Int.min_eq_right h]; exact List.mem_cons_of_mem _ ih
theorem minL_le : ∀ {l : List Int} {y : Int}, y ∈ l → minL l ≤ y
  | [], y, h => by cases h
  | [x], y, h => by simp at h; simp [minL, h]
  | x :: z :: r, y, h => by
    unfold minL
    rcases List.mem_cons.mp h with rfl | h
    · exact Int.min_le_left _ _
    · exact Int.le_trans (Int.min_le_right _ _) (minL_le h)
theorem minL_uniq {l : List Int} {m : Int} (h1 : m ∈ l) (h2 : ∀ y ∈ l, m ≤ y) : m = minL l := by
  have hn : l ≠ [] := by intro e; rw [e] at h1; cases h1
  exact Int.le_antisymm (h2 _ (minL_mem hn)) (minL_le h1)
theorem dMinL_of {ns : List Int} {Q : D → Prop} (h : ns ≠ []) (q : Q (.int (minL ns))) : dMinL (.lst (ns.map D.int)) Q :=
  ⟨ns, rfl, List.length_pos_iff.mpr h, fun m h1 h2 => by rw [minL_uniq h1 h2]; exact q⟩
theorem eqDL_strs (fs : List Str) : eqDL (fs.map D.str) (fs.map D.str) = true := by
  induction fs with
  | nil => rfl
  | cons f fs ih => simp [eqDL, eqD, ih]
theorem shD_strs {fs : List Str} (h : ∀ f ∈ fs, PyData.strOk f = true) : shD (.lst (fs.map D.str)) := by
  refine ⟨?_, ?_⟩
  · simp only [okD]
    refine okDL_of fun d hd => ?_
    obtain ⟨n, hn, rfl⟩ := List.mem_map.mp hd
    simp only [okD]; exact h n hn
  · simp only [depD]
    have := depDL_of (ds := fs.map D.str) (B := 0) fun d hd => by
      obtain ⟨n, _, rfl⟩ := List.mem_map.mp hd
      simp only [depD]; omega
    omega
theorem rng_lc {n : Int} {h : Nat → Int} {vs : List Nat} {wg : WG} {we : WE} {ρ : List Sl} {Q : List D → List Sl → Prop}
    (step : ∀ i : Nat, (i : Int) < n → ∀ Kt : D → List Sl → Prop, Kt (.int (h i)) ρ → wg (.int (i : Int)) ρ fun ρ1 => we ρ1 fun y ρ3 => noOwnB ρ3 vs = true ∧ Kt y (wipeD ρ3 vs))
    (q : Q (((List.range n.toNat).map h).map D.int) ρ) : wLcL vs wg wYes we (rangeD 0 n) ρ [] Q := by
  refine wLcL_rule (fun d => ∃ i : Nat, d = .int (i : Int) ∧ (i : Int) < n) (fun d o => o = some (match d with | .int i => .int (h i.toNat) | d => d)) ?_ _ _ _ ?_ ?_
  · rintro d ⟨i, rfl, hi⟩ Kt Kf ht hf
    simp only [↓za, ↓zb, ↓zc, ↓zd, ↓ze, ↓zf, ↓zg, ↓zh, ↓zi, ↓zj, ↓zk, ↓zl, ↓zm, ↓zn, ↓zo, ↓zp, ↓zq, ↓zr, ↓zt, ↓zu, ↓zv, ↓zw, ↓zx, ↓zy, ↓zz, ↓z3, ↓z7, ↓z8, ↓z9, ↓zA, ↓zB, ↓zC, ↓zD, ↓zE, ↓zF, ↓zG, ↓zH, ↓zI, ↓zJ, ↓zK, ↓zL, ↓zM, ↓zN, ↓zO, ↓zP, ↓zQ, ↓zR, ↓zS, ↓zT, ↓zU, ↓zV, ↓zW, ↓zX, ↓zY, ↓zZ, ↓xa, ↓xb, ↓xf, ↓xg, ↓xh, ↓xi, ↓xj, ↓xk, ↓xl, ↓xm, ↓xo, ↓xq, ↓xt, ↓xu, ↓xw, ↓xy, ↓xz, ↓x5, ↓x6, ↓x7, ↓x8, ↓x9, ↓xB, ↓xD, ↓xE, ↓xF, ↓xG, ↓xH, ↓xI, ↓xJ, ↓xK, ↓xL, ↓xM, ↓xN, ↓xO, xP, xQ, ↓xR, ↓xS, ↓xT, ↓xU, ↓xV, ↓xW, ↓xX, ↓xY, ↓xZ, ↓qb, ↓qc, ↓qd, ↓qf, ↓qg, ↓qh, ↓qi, ↓qj, ↓qk, dLt, dLe, dGt, dGe, ql, qm, qo, qp, qq, dI2, qr, qt, dEq, dNe, qu, qv, qw, qx, qy, qz, q8, q9, qA, qB, Option.some.injEq, qC, qD, qE, qF, qG, dIs, qH, qI, shs, kiC, qJ, qK, obD, id_eq, List.getElem?_cons_zero, List.getElem?_cons_succ, List.set_cons_zero, List.set_cons_succ, List.length_cons, List.length_nil, D.bl.injEq, exists_eq_left', decide_eq_true_eq, decide_eq_false_iff_not, Bool.not_eq_true', Bool.not_eq_false', Nat.zero_add, Nat.reduceAdd, true_and, and_true, forall_const, reduceCtorEq, not_true_eq_false, not_false_eq_true, false_implies, true_implies, implies_true, qL, Nat.reduceLeDiff, Int.reduceLE, Int.reduceLT, Int.reduceNeg, Int.reducePow, Int.reduceAdd, Int.reduceSub, Int.reduceMul]
    exact step i hi Kt (ht _ (by simp))
  · intro d hd
    obtain ⟨i, rfl, i0, i1⟩ := rangeD_mem hd
    exact ⟨i.toNat, by rw [Int.toNat_of_nonneg i0], by omega⟩
  · intro ys hy
    rw [Outs.map hy, List.nil_append]
    have e : (rangeD 0 n).map (fun d => match d with | .int i => D.int (h i.toNat) | d => d) = ((List.range n.toNat).map h).map D.int := by
      unfold rangeD
      rw [List.map_map, List.map_map, Int.sub_zero]
      refine List.map_congr_left fun i _ => ?_
      show D.int (h ((0 : Int) + (i : Nat)).toNat) = _
      rw [Int.zero_add, Int.toNat_natCast]; rfl
    rw [e]; exact q
theorem fs_lc {fs : List Str} {h : Str → Int} {vs : List Nat} {wg : WG} {we : WE} {ρ : List Sl} {Q : List D → List Sl → Prop}
    (step : ∀ f ∈ fs, ∀ Kt : D → List Sl → Prop, Kt (.int (h f)) ρ → wg (.str f) ρ fun ρ1 => we ρ1 fun y ρ3 => noOwnB ρ3 vs = true ∧ Kt y (wipeD ρ3 vs))
    (q : Q ((fs.map h).map D.int) ρ) : wLcL vs wg wYes we (fs.map D.str) ρ [] Q := by
  refine wLcL_rule (fun d => ∃ f ∈ fs, d = .str f) (fun d o => o = some (match d with | .str f => .int (h f) | d => d)) ?_ _ _ _ ?_ ?_
  · rintro d ⟨f, hf, rfl⟩ Kt Kf ht hf'
    simp only [↓za, ↓zb, ↓zc, ↓zd, ↓ze, ↓zf, ↓zg, ↓zh, ↓zi, ↓zj, ↓zk, ↓zl, ↓zm, ↓zn, ↓zo, ↓zp, ↓zq, ↓zr, ↓zt, ↓zu, ↓zv, ↓zw, ↓zx, ↓zy, ↓zz, ↓z3, ↓z7, ↓z8, ↓z9, ↓zA, ↓zB, ↓zC, ↓zD, ↓zE, ↓zF, ↓zG, ↓zH, ↓zI, ↓zJ, ↓zK, ↓zL, ↓zM, ↓zN, ↓zO, ↓zP, ↓zQ, ↓zR, ↓zS, ↓zT, ↓zU, ↓zV, ↓zW, ↓zX, ↓zY, ↓zZ, ↓xa, ↓xb, ↓xf, ↓xg, ↓xh, ↓xi, ↓xj, ↓xk, ↓xl, ↓xm, ↓xo, ↓xq, ↓xt, ↓xu, ↓xw, ↓xy, ↓xz, ↓x5, ↓x6, ↓x7, ↓x8, ↓x9, ↓xB, ↓xD, ↓xE, ↓xF, ↓xG, ↓xH, ↓xI, ↓xJ, ↓xK, ↓xL, ↓xM, ↓xN, ↓xO, xP, xQ, ↓xR, ↓xS, ↓xT, ↓xU, ↓xV, ↓xW, ↓xX, ↓xY, ↓xZ, ↓qb, ↓qc, ↓qd, ↓qf, ↓qg, ↓qh, ↓qi, ↓qj, ↓qk, dLt, dLe, dGt, dGe, ql, qm, qo, qp, qq, dI2, qr, qt, dEq, dNe, qu, qv, qw, qx, qy, qz, q8, q9, qA, qB, Option.some.injEq, qC, qD, qE, qF, qG, dIs, qH, qI, shs, kiC, qJ, qK, obD, id_eq, List.getElem?_cons_zero, List.getElem?_cons_succ, List.set_cons_zero, List.set_cons_succ, List.length_cons, List.length_nil, D.bl.injEq, exists_eq_left', decide_eq_true_eq, decide_eq_false_iff_not, Bool.not_eq_true', Bool.not_eq_false', Nat.zero_add, Nat.reduceAdd, true_and, and_true, forall_const, reduceCtorEq, not_true_eq_false, not_false_eq_true, false_implies, true_implies, implies_true, qL, Nat.reduceLeDiff, Int.reduceLE, Int.reduceLT, Int.reduceNeg, Int.reducePow, Int.reduceAdd, Int.reduceSub, Int.reduceMul]
    exact step f hf Kt (ht _ rfl)
  · intro d hd
    obtain ⟨f, hf, rfl⟩ := List.mem_map.mp hd
    exact ⟨f, hf, rfl⟩
  · intro ys hy
    rw [Outs.map hy, List.nil_append, List.map_map]
    rw [List.map_map] at q
    exact q
theorem zipD_map {fs : List Str} {g : Str → Int} : zipD (fs.map D.str) ((fs.map g).map D.int) = fs.map fun f => .tup [.str f, .int (g f)] := by
  induction fs with
  | nil => rfl
  | cons f fs ih => simp only [List.map_cons, zipD, ih]
theorem zip_lc {fs : List Str} {g h : Str → Int} {vs : List Nat} {wg : WG} {we : WE} {ρ : List Sl} {Q : List D → List Sl → Prop}
    (step : ∀ f ∈ fs, ∀ Kt : D → List Sl → Prop, Kt (.int (h f)) ρ → wg (.tup [.str f, .int (g f)]) ρ fun ρ1 => we ρ1 fun y ρ3 => noOwnB ρ3 vs = true ∧ Kt y (wipeD ρ3 vs))
    (q : Q ((fs.map h).map D.int) ρ) : wLcL vs wg wYes we (zipD (fs.map D.str) ((fs.map g).map D.int)) ρ [] Q := by
  rw [zipD_map]
  refine wLcL_rule (fun d => ∃ f ∈ fs, d = .tup [.str f, .int (g f)]) (fun d o => o = some (match d with | .tup [.str f, _] => .int (h f) | d => d)) ?_ _ _ _ ?_ ?_
  · rintro d ⟨f, hf, rfl⟩ Kt Kf ht hf'
    simp only [↓za, ↓zb, ↓zc, ↓zd, ↓ze, ↓zf, ↓zg, ↓zh, ↓zi, ↓zj, ↓zk, ↓zl, ↓zm, ↓zn, ↓zo, ↓zp, ↓zq, ↓zr, ↓zt, ↓zu, ↓zv, ↓zw, ↓zx, ↓zy, ↓zz, ↓z3, ↓z7, ↓z8, ↓z9, ↓zA, ↓zB, ↓zC, ↓zD, ↓zE, ↓zF, ↓zG, ↓zH, ↓zI, ↓zJ, ↓zK, ↓zL, ↓zM, ↓zN, ↓zO, ↓zP, ↓zQ, ↓zR, ↓zS, ↓zT, ↓zU, ↓zV, ↓zW, ↓zX, ↓zY, ↓zZ, ↓xa, ↓xb, ↓xf, ↓xg, ↓xh, ↓xi, ↓xj, ↓xk, ↓xl, ↓xm, ↓xo, ↓xq, ↓xt, ↓xu, ↓xw, ↓xy, ↓xz, ↓x5, ↓x6, ↓x7, ↓x8, ↓x9, ↓xB, ↓xD, ↓xE, ↓xF, ↓xG, ↓xH, ↓xI, ↓xJ, ↓xK, ↓xL, ↓xM, ↓xN, ↓xO, xP, xQ, ↓xR, ↓xS, ↓xT, ↓xU, ↓xV, ↓xW, ↓xX, ↓xY, ↓xZ, ↓qb, ↓qc, ↓qd, ↓qf, ↓qg, ↓qh, ↓qi, ↓qj, ↓qk, dLt, dLe, dGt, dGe, ql, qm, qo, qp, qq, dI2, qr, qt, dEq, dNe, qu, qv, qw, qx, qy, qz, q8, q9, qA, qB, Option.some.injEq, qC, qD, qE, qF, qG, dIs, qH, qI, shs, kiC, qJ, qK, obD, id_eq, List.getElem?_cons_zero, List.getElem?_cons_succ, List.set_cons_zero, List.set_cons_succ, List.length_cons, List.length_nil, D.bl.injEq, exists_eq_left', decide_eq_true_eq, decide_eq_false_iff_not, Bool.not_eq_true', Bool.not_eq_false', Nat.zero_add, Nat.reduceAdd, true_and, and_true, forall_const, reduceCtorEq, not_true_eq_false, not_false_eq_true, false_implies, true_implies, implies_true, qL, Nat.reduceLeDiff, Int.reduceLE, Int.reduceLT, Int.reduceNeg, Int.reducePow, Int.reduceAdd, Int.reduceSub, Int.reduceMul]
    exact step f hf Kt (ht _ rfl)
  · intro d hd
    obtain ⟨f, hf, rfl⟩ := List.mem_map.mp hd
    exact ⟨f, hf, rfl⟩
  · intro ys hy
    rw [Outs.map hy, List.nil_append, List.map_map]
    rw [List.map_map] at q
    exact q
theorem shw_ints {ns : List Int} (h : ∀ n ∈ ns, -1000000 ≤ n ∧ n ≤ 1000000) (hl : ns.length ≤ 10000) : Shw (.lst (ns.map D.int)) := by
  refine .of ?_ ?_ ?_
  · simp only [smD]
    refine smDL_of fun d hd => ?_
    obtain ⟨n, hn, rfl⟩ := List.mem_map.mp hd
    have := h n hn
    simp only [smD, Bool.and_eq_true, decide_eq_true_eq]; omega
  · simp only [depD]
    have := depDL_of (ds := ns.map D.int) (B := 0) fun d hd => by
      obtain ⟨n, _, rfl⟩ := List.mem_map.mp hd
      simp only [depD]; omega
    omega
  · simp only [szD]
    have := szDL_of (ds := ns.map D.int) (B := 41) fun d hd => by
      obtain ⟨n, _, rfl⟩ := List.mem_map.mp hd
      simp only [szD]; omega
    rw [List.length_map] at this
    omega
theorem shw_list {ds : List D} (B : Nat) (h1 : ∀ d ∈ ds, smD d = true) (h2 : ∀ d ∈ ds, depD d ≤ 5) (h3 : ∀ d ∈ ds, szD d ≤ 100) (hl : ds.length ≤ 10000) : Shw (.lst ds) := by
  refine .of ?_ ?_ ?_
  · simp only [smD]
    exact smDL_of h1
  · simp only [depD]
    have := depDL_of h2
    omega
  · simp only [szD]
    have := szDL_of h3
    omega
theorem lc_filter {α : Type} {g : α → D} {wg : WG} {wt : WT} {we : WE} {vs : List Nat} {ρ : List Sl} {Q : List D → List Sl → Prop} (p : α → Bool) (h : α → D) : ∀ (l : List α) (acc : List D),
    (∀ a ∈ l, ∀ (Kt : D → List Sl → Prop) (Kf : List Sl → Prop), (p a = true → Kt (h a) ρ) → (p a = false → Kf ρ) → wg (g a) ρ fun ρ1 => wt ρ1 fun k ρ2 => (k = true → we ρ2 fun y ρ3 => noOwnB ρ3 vs = true ∧ Kt y (wipeD ρ3 vs)) ∧ (k = false → noOwnB ρ2 vs = true ∧ Kf (wipeD ρ2 vs))) →
    Q (acc ++ (l.filter p).map h) ρ → wLcL vs wg wt we (l.map g) ρ acc Q
  | [], acc, _, q => by
    rw [List.filter_nil, List.map_nil, List.append_nil] at q
    exact q
  | a :: l, acc, st, q => by
    have fix : ∀ (A B : List Sl → Prop), (fun (k : Bool) (ρ2 : List Sl) => (k = true → A ρ2) ∧ (k = false → B ρ2)) = fun (k : Bool) (ρ2 : List Sl) => match k with | true => A ρ2 | false => B ρ2 := fun A B => by funext k ρ2; cases k <;> simp
    have go := st a List.mem_cons_self (fun y ρ' => wLcL vs wg wt we (l.map g) ρ' (acc ++ [y]) Q) (fun ρ' => wLcL vs wg wt we (l.map g) ρ' acc Q)
      (fun hp => lc_filter p h l (acc ++ [h a]) (fun b hb => st b (List.mem_cons_of_mem _ hb)) (by
        rw [List.append_assoc]
        rw [List.filter_cons_of_pos hp] at q
        exact q))
      (fun hp => lc_filter p h l acc (fun b hb => st b (List.mem_cons_of_mem _ hb)) (by
        rw [List.filter_cons_of_neg (by rw [hp]; exact Bool.false_ne_true)] at q
        exact q))
    simp only [fix] at go
    exact go
def nos (s : Sl) : Prop := noOwnB [s] [0] = true
theorem nin_many : ("many" : Str) ∉ machF := by unfold machF; decide +kernel
theorem cut_strs_to (w : List Str) (y : Nat) : cutD (w.map D.str) none (some (y : Int)) = (w.take y).map D.str := by
  rw [cutD_to _ (by omega), List.map_take, Int.toNat_natCast]
theorem cut_strs_from (w : List Str) (y : Nat) : cutD (w.map D.str) (some (y : Int)) none = (w.drop y).map D.str := by
  rw [cutD_from _ (by omega), List.map_drop, Int.toNat_natCast]
/-! ### words over the facts -/
def words (fs : List Str) : Nat → List (List Str)
  | 0 => [[]]
  | k + 1 => (words fs k).flatMap fun w => fs.map fun f => w ++ [f]
def foundW (fs : List Str) : Nat → List (List Str)
  | 0 => [[]]
  | k + 1 => foundW fs k ++ words fs (k + 1)
theorem words_mem {fs : List Str} : ∀ {k : Nat} {w : List Str}, w ∈ words fs k ↔ w.length = k ∧ ∀ f ∈ w, f ∈ fs
  | 0, w => by
    simp only [words, List.mem_singleton]
    constructor
    · rintro rfl; exact ⟨rfl, fun f h => by cases h⟩
    · intro h; exact List.eq_nil_of_length_eq_zero h.1
  | k + 1, w => by
    simp only [words, List.mem_flatMap, List.mem_map]
    constructor
    · rintro ⟨u, hu, f, hf, rfl⟩
      obtain ⟨h1, h2⟩ := words_mem.mp hu
      refine ⟨by simp [h1], fun g hg => ?_⟩
      rcases List.mem_append.mp hg with hg | hg
      · exact h2 g hg
      · rw [List.mem_singleton.mp hg]; exact hf
    · rintro ⟨h1, h2⟩
      have hn : w ≠ [] := by intro e; rw [e] at h1; cases h1
      refine ⟨w.dropLast, words_mem.mpr ⟨by rw [List.length_dropLast]; omega, fun f hf => h2 f ((List.dropLast_sublist w).mem hf)⟩, w.getLast hn, h2 _ (List.getLast_mem hn), List.dropLast_concat_getLast hn⟩
theorem words_len {fs : List Str} (h : fs.length ≤ 3) : ∀ k, (words fs k).length ≤ 3 ^ k
  | 0 => by simp [words]
  | k + 1 => by
    have ih := words_len h k
    simp only [words, List.length_flatMap, List.length_map]
    have e : ((words fs k).map fun _ => fs.length).sum = (words fs k).length * fs.length := by
      induction words fs k with
      | nil => simp
      | cons a l ih2 => simp only [List.map_cons, List.sum_cons, List.length_cons, ih2]; rw [Nat.add_mul]; omega
    rw [e, Nat.pow_succ]
    exact Nat.mul_le_mul ih h
/-- the order of careers: the shorter ones first, each length in the order of the facts -/
def lx (fs : List Str) : List Str → List Str → Prop
  | a :: as, b :: bs => fs.idxOf a < fs.idxOf b ∨ (a = b ∧ lx fs as bs)
  | _, _ => False
def ll (fs : List Str) (a b : List Str) : Prop := a.length < b.length ∨ (a.length = b.length ∧ lx fs a b)
def leC (fs : List Str) (a b : List Str) : Prop := a = b ∨ ll fs a b
theorem lx_irr (fs : List Str) : ∀ a, ¬ lx fs a a
  | [], h => h
  | a :: as, h => by
    rcases h with h | ⟨_, h⟩
    · omega
    · exact lx_irr fs as h
theorem ll_irr (fs : List Str) (a : List Str) : ¬ ll fs a a := fun h => by
  rcases h with h | ⟨_, h⟩
  · omega
  · exact lx_irr fs a h
theorem lx_trans (fs : List Str) : ∀ {a b c : List Str}, lx fs a b → lx fs b c → lx fs a c
  | [], b, c, h, _ => h.elim
  | a :: as, [], c, h, _ => h.elim
  | a :: as, b :: bs, [], _, h => h.elim
  | a :: as, b :: bs, c :: cs, h1, h2 => by
    rcases h1 with h1 | ⟨rfl, h1⟩
    · rcases h2 with h2 | ⟨rfl, h2⟩
      · exact .inl (by omega)
      · exact .inl h1
    · rcases h2 with h2 | ⟨rfl, h2⟩
      · exact .inl h2
      · exact .inr ⟨rfl, lx_trans fs h1 h2⟩
theorem ll_trans (fs : List Str) {a b c : List Str} (h1 : ll fs a b) (h2 : ll fs b c) : ll fs a c := by
  rcases h1 with h1 | ⟨e1, h1⟩
  · rcases h2 with h2 | ⟨e2, h2⟩
    · exact .inl (by omega)
    · exact .inl (by omega)
  · rcases h2 with h2 | ⟨e2, h2⟩
    · exact .inl (by omega)
    · exact .inr ⟨by omega, lx_trans fs h1 h2⟩
theorem leC_trans (fs : List Str) {a b c : List Str} (h1 : leC fs a b) (h2 : leC fs b c) : leC fs a c := by
  rcases h1 with rfl | h1
  · exact h2
  · rcases h2 with rfl | h2
    · exact .inr h1
    · exact .inr (ll_trans fs h1 h2)
theorem lx_app (fs : List Str) (x y : Str) : ∀ {a b : List Str}, a.length = b.length → lx fs a b → lx fs (a ++ [x]) (b ++ [y])
  | [], _, _, h => h.elim
  | a :: as, [], _, h => h.elim
  | a :: as, b :: bs, e, h => by
    rcases h with h | ⟨rfl, h⟩
    · exact .inl h
    · exact .inr ⟨rfl, lx_app fs x y (by simpa using e) h⟩
theorem lx_last (fs : List Str) {x y : Str} (h : fs.idxOf x < fs.idxOf y) : ∀ a : List Str, lx fs (a ++ [x]) (a ++ [y])
  | [] => .inl h
  | a :: as => .inr ⟨rfl, lx_last fs h as⟩
theorem ll_app (fs : List Str) {a b : List Str} (h : ll fs a b) (f g : Str) (u : List Str) : ll fs (a ++ [f]) (b ++ g :: u) := by
  rcases h with h | ⟨e, h⟩
  · exact .inl (by simp; omega)
  · cases u with
    | nil => exact .inr ⟨by simp [e], lx_app fs f g e h⟩
    | cons x u => exact .inl (by simp; omega)
theorem idx_inj {fs : List Str} {f g : Str} (hf : f ∈ fs) (h : fs.idxOf f = fs.idxOf g) : f = g := by
  have h1 : fs.idxOf f < fs.length := List.idxOf_lt_length_of_mem hf
  have h2 : fs.idxOf g < fs.length := by omega
  have e1 := List.getElem_idxOf h1
  have e2 := List.getElem_idxOf h2
  rw [← e1, ← e2]
  congr 1
theorem idx_pre {fs dn rest : List Str} {f : Str} (nd : fs.Nodup) (e : fs = dn ++ f :: rest) : (∀ h ∈ dn, fs.idxOf h < fs.idxOf f) ∧ ∀ g ∈ fs, g ∉ dn → fs.idxOf f ≤ fs.idxOf g := by
  have hf : f ∉ dn := fun z => by
    rw [e, List.nodup_append] at nd
    exact nd.2.2 f z f List.mem_cons_self rfl
  have ef : fs.idxOf f = dn.length := by
    rw [e, List.idxOf_append, if_neg hf, List.idxOf_cons_self]; omega
  refine ⟨fun h hh => ?_, fun g hg hn => ?_⟩
  · have : fs.idxOf h = dn.idxOf h := by rw [e, List.idxOf_append, if_pos hh]
    have := List.idxOf_lt_length_of_mem hh
    omega
  · rw [ef]
    have : fs.idxOf g = (f :: rest).idxOf g + dn.length := by rw [e, List.idxOf_append, if_neg hn]
    omega
theorem le_last (fs : List Str) {f g : Str} (hf : f ∈ fs) (h : fs.idxOf f ≤ fs.idxOf g) (a u : List Str) : leC fs (a ++ [f]) (a ++ g :: u) := by
  cases u with
  | nil =>
    by_cases e : f = g
    · subst e; exact .inl rfl
    · exact .inr (.inr ⟨by simp, lx_last fs (by
        rcases Nat.lt_or_ge (fs.idxOf f) (fs.idxOf g) with z | z
        · exact z
        · exact absurd (idx_inj hf (by omega)) e) a⟩)
  | cons x u => exact .inr (.inl (by simp))
theorem leC_anti (fs : List Str) {a b : List Str} (h1 : leC fs a b) (h2 : leC fs b a) : a = b := by
  rcases h1 with h1 | h1
  · exact h1
  · rcases h2 with h2 | h2
    · exact h2.symm
    · exact absurd (ll_trans fs h1 h2) (ll_irr fs a)
/-! ### all careers up to a length, in their order -/
theorem words_sorted {fs : List Str} (nd : fs.Nodup) : ∀ k, (words fs k).Pairwise (ll fs)
  | 0 => by simp [words]
  | k + 1 => by
    show ((words fs k).flatMap fun w => fs.map fun f => w ++ [f]).Pairwise (ll fs)
    rw [List.pairwise_flatMap]
    refine ⟨fun w hw => ?_, (words_sorted nd k).imp fun {a b} h x hx y hy => ?_⟩
    · rw [List.pairwise_map, List.pairwise_iff_getElem]
      intro i j hi hj hij
      exact .inr ⟨by simp, lx_last fs (by rw [nd.idxOf_getElem, nd.idxOf_getElem]; exact hij) w⟩
    · obtain ⟨f, _, rfl⟩ := List.mem_map.mp hx
      obtain ⟨g, _, rfl⟩ := List.mem_map.mp hy
      exact ll_app fs h f g []
theorem foundW_mem {fs : List Str} : ∀ {k : Nat} {w : List Str}, w ∈ foundW fs k ↔ w.length ≤ k ∧ ∀ f ∈ w, f ∈ fs
  | 0, w => by
    simp only [foundW, List.mem_singleton]
    constructor
    · rintro rfl; exact ⟨Nat.le_refl _, fun f hf => by cases hf⟩
    · rintro ⟨h, _⟩; exact List.eq_nil_of_length_eq_zero (by omega)
  | k + 1, w => by
    simp only [foundW, List.mem_append, foundW_mem (k := k), words_mem]
    constructor
    · rintro (⟨h1, h2⟩ | ⟨h1, h2⟩)
      · exact ⟨by omega, h2⟩
      · exact ⟨by omega, h2⟩
    · rintro ⟨h1, h2⟩
      rcases Nat.lt_or_ge k w.length with z | z
      · exact .inr ⟨by omega, h2⟩
      · exact .inl ⟨z, h2⟩
theorem foundW_sorted {fs : List Str} (nd : fs.Nodup) : ∀ k, (foundW fs k).Pairwise (ll fs)
  | 0 => by simp [foundW]
  | k + 1 => by
    rw [foundW, List.pairwise_append]
    refine ⟨foundW_sorted nd k, words_sorted nd (k + 1), fun a ha b hb => .inl ?_⟩
    have h1 := (foundW_mem.mp ha).1
    have h2 := (words_mem.mp hb).1
    omega
/-! ### values of counters, tests -/
structure Cts where
  ns : List Str
  vs : List Int
def Cts.dd (k : Cts) : D := .dk (k.ns.map .inr) (k.vs.map D.int)
def Cts.at (k : Cts) (x : Str) : Int := look k.ns k.vs x
theorem Cts.ix {k : Cts} (h : k.vs.length = k.ns.length) {x : Str} {Q : D → Prop} (hx : x ∈ k.ns) (q : Q (.int (k.at x))) : dIx k.dd (.str x) Q :=
  ⟨_, by show Option.map _ (some _) = _; exact congrArg some (look_al h hx), q⟩
structure Tst where
  c : Str
  s : Str
  n : Int
def Tst.dd (t : Tst) : D := .tup [.str t.c, .str t.s, .int t.n]
def Tst.ok (t : Tst) (k : Cts) : Bool := if t.s = ">=" then decide (t.n ≤ k.at t.c) else decide (k.at t.c < t.n)
def condD (l : List Tst) : D := .lst (l.map Tst.dd)
def holdsB (l : List Tst) (k : Cts) : Bool := l.all fun t => t.ok k
def Tst.ofD : D → Tst
  | .tup [.str c, .str s, .int n] => ⟨c, s, n⟩
  | _ => ⟨"", "", 0⟩
theorem Tst.ofD_dd (t : Tst) : Tst.ofD t.dd = t := rfl
/-! ### rules of a scheme -/
def lookG {α : Type} : List Str → List α → Str → Option α
  | f :: fs, r :: rs, x => if f = x then some r else lookG fs rs x
  | _, _, _ => none
theorem lookG_al {α : Type} {g : α → D} : ∀ {fs : List Str} {r : List α} {x : Str}, r.length = fs.length → alD (fs.map Sum.inr : List Key) (r.map g) (Sum.inr x) = (lookG fs r x).map g
  | [], [], x, _ => rfl
  | [], _ :: _, x, h => by simp at h
  | f :: fs, [], x, h => by simp at h
  | f :: fs, r :: rs, x, hl => by
    simp only [List.map_cons, alD, lookG]
    by_cases z : f = x
    · rw [if_pos (by rw [z]), if_pos z]; rfl
    · rw [if_neg (fun e => z (Sum.inr.inj e)), if_neg z]
      exact lookG_al (by simpa using hl)
def stD : Option Int → D
  | some i => .int i
  | none => .str "reset"
structure Ctr where
  nm : Str
  cap : Int
  fs : List Str
  st : List (Option Int)
def Ctr.steps (c : Ctr) : D := .dk (c.fs.map .inr) (c.st.map stD)
def Ctr.dd (c : Ctr) : D := .tup [.str c.nm, .int c.cap, c.steps]
def Ctr.yr (c : Ctr) (f : Str) (v : Int) : Int := match lookG c.fs c.st f with
  | none => v
  | some none => 0
  | some (some i) => if v + i < c.cap then v + i else c.cap
theorem Ctr.ixS {c : Ctr} (hl : c.st.length = c.fs.length) {f : Str} {o : Option Int} (h : lookG c.fs c.st f = some o) {Q : D → Prop} (q : Q (stD o)) : dIx c.steps (.str f) Q :=
  ⟨_, by show Option.map _ (some _) = _; exact congrArg some ((lookG_al hl).trans (by rw [h]; rfl)), q⟩
theorem Ctr.inS {c : Ctr} (hl : c.st.length = c.fs.length) {f : Str} {g : Bool → Bool} {Q : D → Prop} (q : Q (.bl (g (lookG c.fs c.st f).isSome))) : dInB g (.str f) c.steps Q :=
  ⟨(lookG c.fs c.st f).map stD, congrArg some (lookG_al hl), by rw [Option.isSome_map]; exact q⟩
theorem dEq_reset {o : Option Int} {Q : D → Prop} (q : Q (.bl o.isNone)) : dEqB id (stD o) (.str "reset") Q := by
  cases o with
  | none => show Q (.bl (decide (("reset" : Str) = "reset"))); rw [decide_eq_true rfl]; exact q
  | some i => exact q
structure Gn where
  am : Int
  fact : Str
  cond : List Tst
def Gn.dd (g : Gn) : D := .tup [.int g.am, .str g.fact, condD g.cond]
structure Lv where
  am : Int
  cond : List Tst
def Lv.dd (g : Lv) : D := .tup [.int g.am, condD g.cond]
structure Rl where
  facts : List Str
  ctrs : List Ctr
  gains : List Gn
  leaves : List Lv
def Rl.ds (r : Rl) : List D := [.lst (r.facts.map D.str), .lst (r.ctrs.map Ctr.dd), .lst (r.gains.map Gn.dd), .lst (r.leaves.map Lv.dd)]
def rulF : List Str := ["facts", "counters", "gains", "leaves"]
def Rl.dd (r : Rl) : D := .ins "Rules" rulF r.ds
def Rl.names (r : Rl) : List Str := r.ctrs.map (·.nm)
structure Rl.ok (r : Rl) : Prop where
  nd : r.names.Nodup
  n3 : r.ctrs.length ≤ 3
  n20 : r.gains.length ≤ 20
  l20 : r.leaves.length ≤ 20
  f3 : 1 ≤ r.facts.length ∧ r.facts.length ≤ 6
  st : ∀ c ∈ r.ctrs, c.st.length = c.fs.length ∧ c.fs.Nodup
  gc : ∀ g ∈ r.gains, g.cond.length ≤ 20 ∧ ∀ t ∈ g.cond, t.c ∈ r.names
  lc : ∀ g ∈ r.leaves, g.cond.length ≤ 20 ∧ ∀ t ∈ g.cond, t.c ∈ r.names
  so : ∀ x ∈ r.names, PyData.strOk x = true
theorem lkr_facts (r : Rl) : lookD rulF r.ds "facts" = some (.lst (r.facts.map D.str)) := by
  unfold rulF Rl.ds
  simp only [lookD, if_true]
theorem lkr_counters (r : Rl) : lookD rulF r.ds "counters" = some (.lst (r.ctrs.map Ctr.dd)) := by
  unfold rulF Rl.ds
  simp only [lookD, if_true, show (("counters" : Str) = "facts") = False from eq_false (by decide +kernel), show (("facts" : Str) = "counters") = False from eq_false (by decide +kernel), if_false]
theorem lkr_gains (r : Rl) : lookD rulF r.ds "gains" = some (.lst (r.gains.map Gn.dd)) := by
  unfold rulF Rl.ds
  simp only [lookD, if_true, show (("gains" : Str) = "facts") = False from eq_false (by decide +kernel), show (("gains" : Str) = "counters") = False from eq_false (by decide +kernel), if_false]
theorem lkr_leaves (r : Rl) : lookD rulF r.ds "leaves" = some (.lst (r.leaves.map Lv.dd)) := by
  unfold rulF Rl.ds
  simp only [lookD, if_true, show (("leaves" : Str) = "facts") = False from eq_false (by decide +kernel), show (("leaves" : Str) = "counters") = False from eq_false (by decide +kernel), show (("leaves" : Str) = "gains") = False from eq_false (by decide +kernel), if_false]
/-- the counters at the beginning, and behind a year -/
def Rl.zero (r : Rl) : Cts := ⟨r.names, r.ctrs.map fun _ => 0⟩
def Rl.year (r : Rl) (k : Cts) (f : Str) : Cts := ⟨r.names, r.ctrs.map fun c => c.yr f (k.at c.nm)⟩
def Rl.gain (r : Rl) (k : Cts) (f : Str) : Int := ((r.gains.filter fun g => decide (g.fact = f) && holdsB g.cond k).map (·.am)).sum
def Rl.lv (r : Rl) (k : Cts) : Int := ((r.leaves.filter fun g => holdsB g.cond k).map (·.am)).sum
theorem dc_map {α : Type} {g : α → D} {wg : WG} {wk wv : WE} {vs : List Nat} {ρ : List Sl} {Q : List Key → List D → List Sl → Prop} (kf : α → Key) (h : α → D) : ∀ (l : List α) (ks : List Key) (acc : List D), (ks ++ l.map kf).Nodup →
    (∀ a ∈ l, ∀ Kt : Key → D → List Sl → Prop, Kt (kf a) (h a) ρ → wg (g a) ρ fun ρ1 => wk ρ1 fun dk ρ3 => wv ρ3 fun y ρ4 => ∃ key, keyD dk = some key ∧ noOwnB ρ4 vs = true ∧ Kt key y (wipeD ρ4 vs)) → Q (ks ++ l.map kf) (acc ++ l.map h) ρ → wDcL vs wg wYes wk wv (l.map g) ρ ks acc Q
  | [], ks, acc, _, _, q => by rw [List.map_nil, List.map_nil, List.append_nil, List.append_nil] at q; exact q
  | a :: l, ks, acc, nd, st, q => by
    have nk : kf a ∉ ks := fun z => by
      rw [List.map_cons, List.nodup_append] at nd
      exact nd.2.2 _ z _ List.mem_cons_self rfl
    have e : putA ks acc (kf a) (h a) = (ks ++ [kf a], acc ++ [h a]) := by unfold putA; rw [if_neg nk]
    refine st a List.mem_cons_self (fun key y ρ' => wDcL vs wg wYes wk wv (l.map g) ρ' (putA ks acc key y).1 (putA ks acc key y).2 Q) ?_
    rw [e]
    exact dc_map kf h l _ _ (by rw [List.append_assoc]; exact nd) (fun b hb => st b (List.mem_cons_of_mem _ hb)) (by rw [List.append_assoc, List.append_assoc]; exact q)
theorem ninf : ("facts" : Str) ∉ ([] : List Str) := by simp
theorem inr_nodup {l : List Str} (h : l.Nodup) : (l.map (Sum.inr : Str → Key)).Nodup := List.Pairwise.map _ (fun a b hab e => hab (Sum.inr.inj e)) h
theorem ninc : ("counters" : Str) ∉ (["facts"] : List Str) := by decide +kernel
theorem ning : ("gains" : Str) ∉ (["facts", "counters"] : List Str) := by decide +kernel
theorem ninl : ("leaves" : Str) ∉ (["facts", "counters", "gains"] : List Str) := by decide +kernel
theorem nin_names : ("names" : Str) ∉ rulF := by unfold rulF; decide +kernel
theorem eqD_strs (fs : List Str) : eqD (.lst (fs.map D.str)) (.lst (fs.map D.str)) = true := by simp only [eqD]; exact eqDL_strs fs
theorem dNe_strs {fs : List Str} (h : ∀ f ∈ fs, PyData.strOk f = true) {Q : D → Prop} (q : Q (.bl false)) : dEqB not (.lst (fs.map D.str)) (.lst (fs.map D.str)) Q := by
  refine ⟨⟨shD_strs h, shD_strs h⟩, ?_⟩
  rw [eqD_strs]; exact q
theorem dNe_nil {fs : List Str} (h : ∀ f ∈ fs, PyData.strOk f = true) {Q : D → Prop} (q : Q (.bl (!fs.isEmpty))) : dEqB not (.lst (fs.map D.str)) (.lst []) Q := by
  refine ⟨⟨shD_strs h, shD_strs (fs := []) (fun _ z => nomatch z)⟩, ?_⟩
  cases fs <;> exact q
theorem sign_two {r : Int} (h0 : 0 ≤ r) (h2 : r < 2) : ∃ s : Str, (s = ">=" ∨ s = "<") ∧ atI [D.str ">=", D.str "<"] r = some (.str s) := by
  have h : r = 0 ∨ r = 1 := by omega
  rcases h with rfl | rfl
  · exact ⟨">=", .inl rfl, rfl⟩
  · exact ⟨"<", .inr rfl, rfl⟩
theorem strs_at {fs : List Str} {r : Int} (h0 : 0 ≤ r) (h1 : r < fs.length) : ∃ x ∈ fs, atI (fs.map D.str) r = some (.str x) := by
  obtain ⟨d, hd, e⟩ := atI_mem (l := fs.map D.str) h0 (by rw [List.length_map]; exact h1)
  obtain ⟨x, hx, rfl⟩ := List.mem_map.mp hd
  exact ⟨x, hx, e⟩
theorem all_snoc {α : Type} {l : List α} {a : α} {P : α → Prop} (h : ∀ t ∈ l, P t) (ha : P a) : ∀ t ∈ l ++ [a], P t := fun t ht => (List.mem_append.mp ht).elim (h t) fun z => by rw [List.mem_singleton.mp z]; exact ha
theorem Cts.ne {k : Cts} (nd : k.ns.Nodup) {Q : D → Prop} (q : Q (.bl false)) : dNeS k.dd k.dd Q :=
  ⟨rfl, rfl, inr_nodup nd, fun d hd => by obtain ⟨i, _, rfl⟩ := List.mem_map.mp hd; rfl, q⟩
/-! ### passes -/
def wf_passes : WFn
  | [.sh d, .sh e], Q => ∃ (t : Tst) (k : Cts), d = t.dd ∧ e = k.dd ∧ k.vs.length = k.ns.length ∧ t.c ∈ k.ns ∧ Q (.bl (t.ok k))
  | _, _ => False
theorem len_passes : ∀ as Qd, wf_passes as Qd → as.length = 2 := fun as Qd h => by
  unfold wf_passes at h
  split at h
  · rfl
  · exact h.elim

def w_passes : WS := (wSeq (wAsg (wVar 0) (wTp [2, 3, 4]))
 (wSeq (wIf (wTst (wOp dEq (wPk 3) (wC (.str ">="))))
 (wRet (wOp dGe (wOp dIx (wPk 1) (wPk 2)) (wPk 4)))
 wNext)
 (wRet (wOp dLt (wOp dIx (wPk 1) (wPk 2)) (wPk 4)))))

theorem p_passes : ∀ as Qd, wf_passes as Qd → w_passes (startD ["test", "counts", "counter", "sign", "number"] as) { nx := fun _ => Qd .non, rt := fun d _ => Qd d } := fun as Qd h => by
  unfold wf_passes at h
  split at h
  · obtain ⟨t, k, rfl, rfl, hl, hc, q⟩ := h
    show w_passes [.sh t.dd, .sh k.dd, .no, .no, .no] _
    simp only [w_passes, ↓za, ↓zb, ↓zc, ↓zd, ↓ze, ↓zf, ↓zg, ↓zh, ↓zi, ↓zj, ↓zk, ↓zl, ↓zm, ↓zn, ↓zo, ↓zp, ↓zq, ↓zr, ↓zt, ↓zu, ↓zv, ↓zw, ↓zx, ↓zy, ↓zz, ↓z3, ↓z7, ↓z8, ↓z9, ↓zA, ↓zB, ↓zC, ↓zD, ↓zE, ↓zF, ↓zG, ↓zH, ↓zI, ↓zJ, ↓zK, ↓zL, ↓zM, ↓zN, ↓zO, ↓zP, ↓zQ, ↓zR, ↓zS, ↓zT, ↓zU, ↓zV, ↓zW, ↓zX, ↓zY, ↓zZ, ↓xa, ↓xb, ↓xf, ↓xg, ↓xh, ↓xi, ↓xj, ↓xk, ↓xl, ↓xm, ↓xo, ↓xq, ↓xt, ↓xu, ↓xw, ↓xy, ↓xz, ↓x5, ↓x6, ↓x7, ↓x8, ↓x9, ↓xB, ↓xD, ↓xE, ↓xF, ↓xG, ↓xH, ↓xI, ↓xJ, ↓xK, ↓xL, ↓xM, ↓xN, ↓xO, xP, xQ, ↓xR, ↓xS, ↓xT, ↓xU, ↓xV, ↓xW, ↓xX, ↓xY, ↓xZ, ↓qb, ↓qc, ↓qd, ↓qf, ↓qg, ↓qh, ↓qi, ↓qj, ↓qk, dLt, dLe, dGt, dGe, ql, qm, qo, qp, qq, dI2, qr, qt, dEq, dNe, qu, qv, qw, qx, qy, qz, q8, q9, qA, qB, Option.some.injEq, qC, qD, qE, qF, qG, dIs, qH, qI, shs, kiC, qJ, qK, obD, id_eq, List.getElem?_cons_zero, List.getElem?_cons_succ, List.set_cons_zero, List.set_cons_succ, List.length_cons, List.length_nil, D.bl.injEq, exists_eq_left', decide_eq_true_eq, decide_eq_false_iff_not, Bool.not_eq_true', Bool.not_eq_false', Nat.zero_add, Nat.reduceAdd, true_and, and_true, forall_const, reduceCtorEq, not_true_eq_false, not_false_eq_true, false_implies, true_implies, implies_true, qL, Nat.reduceLeDiff, Int.reduceLE, Int.reduceLT, Int.reduceNeg, Int.reducePow, Int.reduceAdd, Int.reduceSub, Int.reduceMul, Tst.dd]
    show ∃ b, D.bl (decide (t.s = Str.ofString ">=")) = D.bl b ∧ _
    refine ⟨_, rfl, fun e => Cts.ix hl hc ?_, fun e => Cts.ix hl hc ?_⟩
    · have e := of_decide_eq_true e
      show Qd _
      rw [Tst.ok, if_pos e] at q
      exact q
    · have e := of_decide_eq_false e
      show Qd _
      rw [Tst.ok, if_neg e] at q
      exact q
  · exact h.elim
/-! ### holds -/
def wf_holds : WFn
  | [.sh d, .sh e], Q => ∃ (l : List Tst) (k : Cts), d = condD l ∧ e = k.dd ∧ k.vs.length = k.ns.length ∧ (∀ t ∈ l, t.c ∈ k.ns) ∧ Q (.bl (holdsB l k))
  | _, _ => False
theorem len_holds : ∀ as Qd, wf_holds as Qd → as.length = 2 := fun as Qd h => by
  unfold wf_holds at h
  split at h
  · rfl
  · exact h.elim

def w_holds : WS := (wRet (wGx true [2] (wItL (wVar 0)) (wSt 2) (wCall wf_passes (asCons (wVar 2) (asCons (wVar 1) asNil)))))

theorem p_holds : ∀ as Qd, wf_holds as Qd → w_holds (startD ["condition", "counts", "test"] as) { nx := fun _ => Qd .non, rt := fun d _ => Qd d } := fun as Qd h => by
  unfold wf_holds at h
  split at h
  · obtain ⟨l, k, rfl, rfl, hl, hc, q⟩ := h
    show w_holds [.sh (condD l), .sh k.dd, .no] _
    simp only [w_holds, ↓za, ↓zb, ↓zc, ↓zd, ↓ze, ↓zf, ↓zg, ↓zh, ↓zi, ↓zj, ↓zk, ↓zl, ↓zm, ↓zn, ↓zo, ↓zp, ↓zq, ↓zr, ↓zt, ↓zu, ↓zv, ↓zw, ↓zx, ↓zy, ↓zz, ↓z3, ↓z7, ↓z8, ↓z9, ↓zA, ↓zB, ↓zC, ↓zD, ↓zE, ↓zF, ↓zG, ↓zH, ↓zI, ↓zJ, ↓zK, ↓zL, ↓zM, ↓zN, ↓zO, ↓zP, ↓zQ, ↓zR, ↓zS, ↓zT, ↓zU, ↓zV, ↓zW, ↓zX, ↓zY, ↓zZ, ↓xa, ↓xb, ↓xf, ↓xg, ↓xh, ↓xi, ↓xj, ↓xk, ↓xl, ↓xm, ↓xo, ↓xq, ↓xt, ↓xu, ↓xw, ↓xy, ↓xz, ↓x5, ↓x6, ↓x7, ↓x8, ↓x9, ↓xB, ↓xD, ↓xE, ↓xF, ↓xG, ↓xH, ↓xI, ↓xJ, ↓xK, ↓xL, ↓xM, ↓xN, ↓xO, xP, xQ, ↓xR, ↓xS, ↓xT, ↓xU, ↓xV, ↓xW, ↓xX, ↓xY, ↓xZ, ↓qb, ↓qc, ↓qd, ↓qf, ↓qg, ↓qh, ↓qi, ↓qj, ↓qk, dLt, dLe, dGt, dGe, ql, qm, qo, qp, qq, dI2, qr, qt, dEq, dNe, qu, qv, qw, qx, qy, qz, q8, q9, qA, qB, Option.some.injEq, qC, qD, qE, qF, qG, dIs, qH, qI, shs, kiC, qJ, qK, obD, id_eq, List.getElem?_cons_zero, List.getElem?_cons_succ, List.set_cons_zero, List.set_cons_succ, List.length_cons, List.length_nil, D.bl.injEq, exists_eq_left', decide_eq_true_eq, decide_eq_false_iff_not, Bool.not_eq_true', Bool.not_eq_false', Nat.zero_add, Nat.reduceAdd, true_and, and_true, forall_const, reduceCtorEq, not_true_eq_false, not_false_eq_true, false_implies, true_implies, implies_true, qL, Nat.reduceLeDiff, Int.reduceLE, Int.reduceLT, Int.reduceNeg, Int.reducePow, Int.reduceAdd, Int.reduceSub, Int.reduceMul, condD]
    refine ⟨rfl, wGxL_rule (fun d => (Tst.ofD d).ok k) rfl _ (fun d hd => ?_) ?_⟩
    · obtain ⟨t, ht, rfl⟩ := List.mem_map.mp hd
      refine ⟨[.sh (.lst (l.map Tst.dd)), .sh k.dd, .sh t.dd], rfl, rfl, fun Q' q' => ?_⟩
      simp only [↓za, ↓zb, ↓zc, ↓zd, ↓ze, ↓zf, ↓zg, ↓zh, ↓zi, ↓zj, ↓zk, ↓zl, ↓zm, ↓zn, ↓zo, ↓zp, ↓zq, ↓zr, ↓zt, ↓zu, ↓zv, ↓zw, ↓zx, ↓zy, ↓zz, ↓z3, ↓z7, ↓z8, ↓z9, ↓zA, ↓zB, ↓zC, ↓zD, ↓zE, ↓zF, ↓zG, ↓zH, ↓zI, ↓zJ, ↓zK, ↓zL, ↓zM, ↓zN, ↓zO, ↓zP, ↓zQ, ↓zR, ↓zS, ↓zT, ↓zU, ↓zV, ↓zW, ↓zX, ↓zY, ↓zZ, ↓xa, ↓xb, ↓xf, ↓xg, ↓xh, ↓xi, ↓xj, ↓xk, ↓xl, ↓xm, ↓xo, ↓xq, ↓xt, ↓xu, ↓xw, ↓xy, ↓xz, ↓x5, ↓x6, ↓x7, ↓x8, ↓x9, ↓xB, ↓xD, ↓xE, ↓xF, ↓xG, ↓xH, ↓xI, ↓xJ, ↓xK, ↓xL, ↓xM, ↓xN, ↓xO, xP, xQ, ↓xR, ↓xS, ↓xT, ↓xU, ↓xV, ↓xW, ↓xX, ↓xY, ↓xZ, ↓qb, ↓qc, ↓qd, ↓qf, ↓qg, ↓qh, ↓qi, ↓qj, ↓qk, dLt, dLe, dGt, dGe, ql, qm, qo, qp, qq, dI2, qr, qt, dEq, dNe, qu, qv, qw, qx, qy, qz, q8, q9, qA, qB, Option.some.injEq, qC, qD, qE, qF, qG, dIs, qH, qI, shs, kiC, qJ, qK, obD, id_eq, List.getElem?_cons_zero, List.getElem?_cons_succ, List.set_cons_zero, List.set_cons_succ, List.length_cons, List.length_nil, D.bl.injEq, exists_eq_left', decide_eq_true_eq, decide_eq_false_iff_not, Bool.not_eq_true', Bool.not_eq_false', Nat.zero_add, Nat.reduceAdd, true_and, and_true, forall_const, reduceCtorEq, not_true_eq_false, not_false_eq_true, false_implies, true_implies, implies_true, qL, Nat.reduceLeDiff, Int.reduceLE, Int.reduceLT, Int.reduceNeg, Int.reducePow, Int.reduceAdd, Int.reduceSub, Int.reduceMul, wipeD, List.reverse_cons, List.reverse_nil, List.nil_append, noOwnB, List.all_cons, List.all_nil, Bool.and_true, Bool.true_and, wf_passes]
      exact ⟨t, k, rfl, rfl, hl, hc t ht, q'⟩
    · rw [if_pos rfl, List.all_map]
      exact q
  · exact h.elim

/-! ### Rules.__init__ -/
def wf_Rules_init : WFo
  | [.od x (.ins n [] []), .sh (.lst a), .sh (.lst b), .sh (.lst c), .sh (.lst d)], Q => n = "Rules" ∧ Q .non [.od x (.ins n rulF [.sh (.lst a), .sh (.lst b), .sh (.lst c), .sh (.lst d)]), .sh (.lst a), .sh (.lst b), .sh (.lst c), .sh (.lst d)]
  | _, _ => False
theorem len_Rules_init : ∀ as Qd, wf_Rules_init as Qd → as.length = 5 := fun as Qd h => by
  unfold wf_Rules_init at h
  split at h
  · rfl
  · exact h.elim

def w_Rules_init : WS := (wSeq (wFldN 0 "Rules" "facts" (wUn qz (wPk 1)))
 (wSeq (wFldN 0 "Rules" "counters" (wUn qz (wPk 2)))
 (wSeq (wFldN 0 "Rules" "gains" (wUn qz (wPk 3)))
 (wFldN 0 "Rules" "leaves" (wUn qz (wPk 4))))))

theorem p_Rules_init : ∀ as Qd, wf_Rules_init as Qd → w_Rules_init (startD ["self", "facts", "counters", "gains", "leaves"] as) { nx := fun ρ => ∃ as2, back as ρ as2 ∧ Qd .non as2, rt := fun d ρ => ∃ as2, back as ρ as2 ∧ Qd d as2 } := fun as Qd h => by
  unfold wf_Rules_init at h
  split at h
  · rename_i x n a b c d
    obtain ⟨rfl, q⟩ := h
    show w_Rules_init [.od x (.ins _ [] []), .sh (.lst a), .sh (.lst b), .sh (.lst c), .sh (.lst d)] _
    simp only [w_Rules_init, ↓za, ↓zb, ↓zc, ↓zd, ↓ze, ↓zf, ↓zg, ↓zh, ↓zi, ↓zj, ↓zk, ↓zl, ↓zm, ↓zn, ↓zo, ↓zp, ↓zq, ↓zr, ↓zt, ↓zu, ↓zv, ↓zw, ↓zx, ↓zy, ↓zz, ↓z3, ↓z7, ↓z8, ↓z9, ↓zA, ↓zB, ↓zC, ↓zD, ↓zE, ↓zF, ↓zG, ↓zH, ↓zI, ↓zJ, ↓zK, ↓zL, ↓zM, ↓zN, ↓zO, ↓zP, ↓zQ, ↓zR, ↓zS, ↓zT, ↓zU, ↓zV, ↓zW, ↓zX, ↓zY, ↓zZ, ↓xa, ↓xb, ↓xf, ↓xg, ↓xh, ↓xi, ↓xj, ↓xk, ↓xl, ↓xm, ↓xo, ↓xq, ↓xt, ↓xu, ↓xw, ↓xy, ↓xz, ↓x5, ↓x6, ↓x7, ↓x8, ↓x9, ↓xB, ↓xD, ↓xE, ↓xF, ↓xG, ↓xH, ↓xI, ↓xJ, ↓xK, ↓xL, ↓xM, ↓xN, ↓xO, xP, xQ, ↓xR, ↓xS, ↓xT, ↓xU, ↓xV, ↓xW, ↓xX, ↓xY, ↓xZ, ↓qb, ↓qc, ↓qd, ↓qf, ↓qg, ↓qh, ↓qi, ↓qj, ↓qk, dLt, dLe, dGt, dGe, ql, qm, qo, qp, qq, dI2, qr, qt, dEq, dNe, qu, qv, qw, qx, qy, qz, q8, q9, qA, qB, Option.some.injEq, qC, qD, qE, qF, qG, dIs, qH, qI, shs, kiC, qJ, qK, obD, id_eq, List.getElem?_cons_zero, List.getElem?_cons_succ, List.set_cons_zero, List.set_cons_succ, List.length_cons, List.length_nil, D.bl.injEq, exists_eq_left', decide_eq_true_eq, decide_eq_false_iff_not, Bool.not_eq_true', Bool.not_eq_false', Nat.zero_add, Nat.reduceAdd, true_and, and_true, forall_const, reduceCtorEq, not_true_eq_false, not_false_eq_true, false_implies, true_implies, implies_true, qL, Nat.reduceLeDiff, Int.reduceLE, Int.reduceLT, Int.reduceNeg, Int.reducePow, Int.reduceAdd, Int.reduceSub, Int.reduceMul, qz, List.nil_append]
    refine ⟨⟨ninf, by decide⟩, ⟨ninc, by decide⟩, ⟨ning, by decide⟩, ⟨ninl, by decide⟩, _, ?_, q⟩
    exact ⟨⟨rfl, _, rfl⟩, rfl, rfl, rfl, rfl, rfl⟩
  · exact h.elim
/-! ### Rules.names -/
def wf_Rules_names : WFn
  | [.sh d], Q => ∃ r : Rl, d = r.dd ∧ r.ctrs.length ≤ 1000 ∧ Q (.lst (r.names.map D.str))
  | _, _ => False
theorem len_Rules_names : ∀ as Qd, wf_Rules_names as Qd → as.length = 1 := fun as Qd h => by
  unfold wf_Rules_names at h
  split at h
  · rfl
  · exact h.elim

def w_Rules_names : WS := (wRet (wFz (wLc [1] (wItL (wFld "Rules" "counters" (wPk 0))) (wSt 1) wYes (wOp dIx (wPk 1) (wC (.int 0))))))

theorem p_Rules_names : ∀ as Qd, wf_Rules_names as Qd → w_Rules_names (startD ["self", "counter"] as) { nx := fun _ => Qd .non, rt := fun d _ => Qd d } := fun as Qd h => by
  unfold wf_Rules_names at h
  split at h
  · obtain ⟨r, rfl, hl, q⟩ := h
    show w_Rules_names [.sh r.dd, .no] _
    simp only [w_Rules_names, Rl.dd, lkr_facts, lkr_counters, lkr_gains, lkr_leaves, ↓za, ↓zb, ↓zc, ↓zd, ↓ze, ↓zf, ↓zg, ↓zh, ↓zi, ↓zj, ↓zk, ↓zl, ↓zm, ↓zn, ↓zo, ↓zp, ↓zq, ↓zr, ↓zt, ↓zu, ↓zv, ↓zw, ↓zx, ↓zy, ↓zz, ↓z3, ↓z7, ↓z8, ↓z9, ↓zA, ↓zB, ↓zC, ↓zD, ↓zE, ↓zF, ↓zG, ↓zH, ↓zI, ↓zJ, ↓zK, ↓zL, ↓zM, ↓zN, ↓zO, ↓zP, ↓zQ, ↓zR, ↓zS, ↓zT, ↓zU, ↓zV, ↓zW, ↓zX, ↓zY, ↓zZ, ↓xa, ↓xb, ↓xf, ↓xg, ↓xh, ↓xi, ↓xj, ↓xk, ↓xl, ↓xm, ↓xo, ↓xq, ↓xt, ↓xu, ↓xw, ↓xy, ↓xz, ↓x5, ↓x6, ↓x7, ↓x8, ↓x9, ↓xB, ↓xD, ↓xE, ↓xF, ↓xG, ↓xH, ↓xI, ↓xJ, ↓xK, ↓xL, ↓xM, ↓xN, ↓xO, xP, xQ, ↓xR, ↓xS, ↓xT, ↓xU, ↓xV, ↓xW, ↓xX, ↓xY, ↓xZ, ↓qb, ↓qc, ↓qd, ↓qf, ↓qg, ↓qh, ↓qi, ↓qj, ↓qk, dLt, dLe, dGt, dGe, ql, qm, qo, qp, qq, dI2, qr, qt, dEq, dNe, qu, qv, qw, qx, qy, qz, q8, q9, qA, qB, Option.some.injEq, qC, qD, qE, qF, qG, dIs, qH, qI, shs, kiC, qJ, qK, obD, id_eq, List.getElem?_cons_zero, List.getElem?_cons_succ, List.set_cons_zero, List.set_cons_succ, List.length_cons, List.length_nil, D.bl.injEq, exists_eq_left', decide_eq_true_eq, decide_eq_false_iff_not, Bool.not_eq_true', Bool.not_eq_false', Nat.zero_add, Nat.reduceAdd, true_and, and_true, forall_const, reduceCtorEq, not_true_eq_false, not_false_eq_true, false_implies, true_implies, implies_true, qL, Nat.reduceLeDiff, Int.reduceLE, Int.reduceLT, Int.reduceNeg, Int.reducePow, Int.reduceAdd, Int.reduceSub, Int.reduceMul]
    refine ⟨by rw [List.length_map]; omega, rfl, ?_⟩
    refine lc_map (ρ := [_, .no]) (fun c : Ctr => D.str c.nm) _ [] (fun c hc Kt ht => ?_) ⟨rfl, ?_⟩
    · simp only [↓za, ↓zb, ↓zc, ↓zd, ↓ze, ↓zf, ↓zg, ↓zh, ↓zi, ↓zj, ↓zk, ↓zl, ↓zm, ↓zn, ↓zo, ↓zp, ↓zq, ↓zr, ↓zt, ↓zu, ↓zv, ↓zw, ↓zx, ↓zy, ↓zz, ↓z3, ↓z7, ↓z8, ↓z9, ↓zA, ↓zB, ↓zC, ↓zD, ↓zE, ↓zF, ↓zG, ↓zH, ↓zI, ↓zJ, ↓zK, ↓zL, ↓zM, ↓zN, ↓zO, ↓zP, ↓zQ, ↓zR, ↓zS, ↓zT, ↓zU, ↓zV, ↓zW, ↓zX, ↓zY, ↓zZ, ↓xa, ↓xb, ↓xf, ↓xg, ↓xh, ↓xi, ↓xj, ↓xk, ↓xl, ↓xm, ↓xo, ↓xq, ↓xt, ↓xu, ↓xw, ↓xy, ↓xz, ↓x5, ↓x6, ↓x7, ↓x8, ↓x9, ↓xB, ↓xD, ↓xE, ↓xF, ↓xG, ↓xH, ↓xI, ↓xJ, ↓xK, ↓xL, ↓xM, ↓xN, ↓xO, xP, xQ, ↓xR, ↓xS, ↓xT, ↓xU, ↓xV, ↓xW, ↓xX, ↓xY, ↓xZ, ↓qb, ↓qc, ↓qd, ↓qf, ↓qg, ↓qh, ↓qi, ↓qj, ↓qk, dLt, dLe, dGt, dGe, ql, qm, qo, qp, qq, dI2, qr, qt, dEq, dNe, qu, qv, qw, qx, qy, qz, q8, q9, qA, qB, Option.some.injEq, qC, qD, qE, qF, qG, dIs, qH, qI, shs, kiC, qJ, qK, obD, id_eq, List.getElem?_cons_zero, List.getElem?_cons_succ, List.set_cons_zero, List.set_cons_succ, List.length_cons, List.length_nil, D.bl.injEq, exists_eq_left', decide_eq_true_eq, decide_eq_false_iff_not, Bool.not_eq_true', Bool.not_eq_false', Nat.zero_add, Nat.reduceAdd, true_and, and_true, forall_const, reduceCtorEq, not_true_eq_false, not_false_eq_true, false_implies, true_implies, implies_true, qL, Nat.reduceLeDiff, Int.reduceLE, Int.reduceLT, Int.reduceNeg, Int.reducePow, Int.reduceAdd, Int.reduceSub, Int.reduceMul, wipeD, List.reverse_cons, List.reverse_nil, List.nil_append, noOwnB, List.all_cons, List.all_nil, Bool.and_true, Bool.true_and, Ctr.dd]
      exact ht
    · simp only [↓za, ↓zb, ↓zc, ↓zd, ↓ze, ↓zf, ↓zg, ↓zh, ↓zi, ↓zj, ↓zk, ↓zl, ↓zm, ↓zn, ↓zo, ↓zp, ↓zq, ↓zr, ↓zt, ↓zu, ↓zv, ↓zw, ↓zx, ↓zy, ↓zz, ↓z3, ↓z7, ↓z8, ↓z9, ↓zA, ↓zB, ↓zC, ↓zD, ↓zE, ↓zF, ↓zG, ↓zH, ↓zI, ↓zJ, ↓zK, ↓zL, ↓zM, ↓zN, ↓zO, ↓zP, ↓zQ, ↓zR, ↓zS, ↓zT, ↓zU, ↓zV, ↓zW, ↓zX, ↓zY, ↓zZ, ↓xa, ↓xb, ↓xf, ↓xg, ↓xh, ↓xi, ↓xj, ↓xk, ↓xl, ↓xm, ↓xo, ↓xq, ↓xt, ↓xu, ↓xw, ↓xy, ↓xz, ↓x5, ↓x6, ↓x7, ↓x8, ↓x9, ↓xB, ↓xD, ↓xE, ↓xF, ↓xG, ↓xH, ↓xI, ↓xJ, ↓xK, ↓xL, ↓xM, ↓xN, ↓xO, xP, xQ, ↓xR, ↓xS, ↓xT, ↓xU, ↓xV, ↓xW, ↓xX, ↓xY, ↓xZ, ↓qb, ↓qc, ↓qd, ↓qf, ↓qg, ↓qh, ↓qi, ↓qj, ↓qk, dLt, dLe, dGt, dGe, ql, qm, qo, qp, qq, dI2, qr, qt, dEq, dNe, qu, qv, qw, qx, qy, qz, q8, q9, qA, qB, Option.some.injEq, qC, qD, qE, qF, qG, dIs, qH, qI, shs, kiC, qJ, qK, obD, id_eq, List.getElem?_cons_zero, List.getElem?_cons_succ, List.set_cons_zero, List.set_cons_succ, List.length_cons, List.length_nil, D.bl.injEq, exists_eq_left', decide_eq_true_eq, decide_eq_false_iff_not, Bool.not_eq_true', Bool.not_eq_false', Nat.zero_add, Nat.reduceAdd, true_and, and_true, forall_const, reduceCtorEq, not_true_eq_false, not_false_eq_true, false_implies, true_implies, implies_true, qL, Nat.reduceLeDiff, Int.reduceLE, Int.reduceLT, Int.reduceNeg, Int.reducePow, Int.reduceAdd, Int.reduceSub, Int.reduceMul, wipeD, List.reverse_cons, List.reverse_nil, List.nil_append, noOwnB, List.all_cons, List.all_nil, Bool.and_true, Bool.true_and]
      rw [Rl.names, List.map_map] at q
      exact q
  · exact h.elim
/-! ### counted -/
def wf_counted : WFn
  | [.sh d, .sh (.int v), .sh (.str f)], Q => ∃ c : Ctr, d = c.dd ∧ c.st.length = c.fs.length ∧ Q (.int (c.yr f v))
  | _, _ => False
theorem len_counted : ∀ as Qd, wf_counted as Qd → as.length = 3 := fun as Qd h => by
  unfold wf_counted at h
  split at h
  · rfl
  · exact h.elim

def w_counted : WS := (wSeq (wAsg (wVar 0) (wTp [3, 4, 5]))
 (wSeq (wIf (wTst (wOp dNotIn (wPk 2) (wPk 5)))
 (wRet (wVar 1))
 wNext)
 (wSeq (wIf (wTst (wOp dEq (wOp dIx (wPk 5) (wPk 2)) (wC (.str "reset"))))
 (wRet (wC (.int 0)))
 wNext)
 (wRet (wOp qE (wPk 4) (wOp qt (wPk 1) (wOp dIx (wPk 5) (wPk 2))))))))

theorem p_counted : ∀ as Qd, wf_counted as Qd → w_counted (startD ["counter", "value", "fact", "name", "cap", "steps"] as) { nx := fun _ => Qd .non, rt := fun d _ => Qd d } := fun as Qd h => by
  unfold wf_counted at h
  split at h
  · rename_i d v f
    obtain ⟨c, rfl, hl, q⟩ := h
    show w_counted [.sh c.dd, .sh (.int v), .sh (.str f), .no, .no, .no] _
    simp only [w_counted, ↓za, ↓zb, ↓zc, ↓zd, ↓ze, ↓zf, ↓zg, ↓zh, ↓zi, ↓zj, ↓zk, ↓zl, ↓zm, ↓zn, ↓zo, ↓zp, ↓zq, ↓zr, ↓zt, ↓zu, ↓zv, ↓zw, ↓zx, ↓zy, ↓zz, ↓z3, ↓z7, ↓z8, ↓z9, ↓zA, ↓zB, ↓zC, ↓zD, ↓zE, ↓zF, ↓zG, ↓zH, ↓zI, ↓zJ, ↓zK, ↓zL, ↓zM, ↓zN, ↓zO, ↓zP, ↓zQ, ↓zR, ↓zS, ↓zT, ↓zU, ↓zV, ↓zW, ↓zX, ↓zY, ↓zZ, ↓xa, ↓xb, ↓xf, ↓xg, ↓xh, ↓xi, ↓xj, ↓xk, ↓xl, ↓xm, ↓xo, ↓xq, ↓xt, ↓xu, ↓xw, ↓xy, ↓xz, ↓x5, ↓x6, ↓x7, ↓x8, ↓x9, ↓xB, ↓xD, ↓xE, ↓xF, ↓xG, ↓xH, ↓xI, ↓xJ, ↓xK, ↓xL, ↓xM, ↓xN, ↓xO, xP, xQ, ↓xR, ↓xS, ↓xT, ↓xU, ↓xV, ↓xW, ↓xX, ↓xY, ↓xZ, ↓qb, ↓qc, ↓qd, ↓qf, ↓qg, ↓qh, ↓qi, ↓qj, ↓qk, dLt, dLe, dGt, dGe, ql, qm, qo, qp, qq, dI2, qr, qt, dEq, dNe, qu, qv, qw, qx, qy, qz, q8, q9, qA, qB, Option.some.injEq, qC, qD, qE, qF, qG, dIs, qH, qI, shs, kiC, qJ, qK, obD, id_eq, List.getElem?_cons_zero, List.getElem?_cons_succ, List.set_cons_zero, List.set_cons_succ, List.length_cons, List.length_nil, D.bl.injEq, exists_eq_left', decide_eq_true_eq, decide_eq_false_iff_not, Bool.not_eq_true', Bool.not_eq_false', Nat.zero_add, Nat.reduceAdd, true_and, and_true, forall_const, reduceCtorEq, not_true_eq_false, not_false_eq_true, false_implies, true_implies, implies_true, qL, Nat.reduceLeDiff, Int.reduceLE, Int.reduceLT, Int.reduceNeg, Int.reducePow, Int.reduceAdd, Int.reduceSub, Int.reduceMul, Ctr.dd]
    refine Ctr.inS hl ⟨_, rfl, fun e => ?_, fun e => ?_⟩
    · have e : lookG c.fs c.st f = none := by
        cases h : lookG c.fs c.st f with
        | none => rfl
        | some o => rw [h] at e; cases e
      rw [Ctr.yr, e] at q
      exact q
    · obtain ⟨o, ho⟩ : ∃ o, lookG c.fs c.st f = some o := by
        cases h : lookG c.fs c.st f with
        | none => rw [h] at e; cases e
        | some o => exact ⟨o, rfl⟩
      refine Ctr.ixS hl ho (dEq_reset ⟨_, rfl, fun e => ?_, fun e => Ctr.ixS hl ho ?_⟩)
      · cases o with
        | none => rw [Ctr.yr, ho] at q; exact q
        | some i => cases e
      · cases o with
        | none => cases e
        | some i => rw [Ctr.yr, ho] at q; exact q
  · exact h.elim
/-! ### year_counts -/
def wf_year_counts : WFn
  | [.sh d, .sh e, .sh (.str f)], Q => ∃ (r : Rl) (k : Cts), d = r.dd ∧ e = k.dd ∧ r.ok ∧ k.ns = r.names ∧ k.vs.length = k.ns.length ∧ Q (r.year k f).dd
  | _, _ => False
theorem len_year_counts : ∀ as Qd, wf_year_counts as Qd → as.length = 3 := fun as Qd h => by
  unfold wf_year_counts at h
  split at h
  · rfl
  · exact h.elim

def w_year_counts : WS := (wRet (wFz (wDc [3] (wItL (wFld "Rules" "counters" (wPk 0))) (wSt 3) wYes (wOp dIx (wPk 3) (wC (.int 0))) (wCall wf_counted (asCons (wVar 3) (asCons (wOp dIx (wPk 1) (wOp dIx (wPk 3) (wC (.int 0)))) (asCons (wVar 2) asNil)))))))

theorem p_year_counts : ∀ as Qd, wf_year_counts as Qd → w_year_counts (startD ["rules", "counts", "fact", "counter"] as) { nx := fun _ => Qd .non, rt := fun d _ => Qd d } := fun as Qd h => by
  unfold wf_year_counts at h
  split at h
  · rename_i d e f
    obtain ⟨r, k, rfl, rfl, ok, hn, hl, q⟩ := h
    have n3 := ok.n3
    show w_year_counts [.sh r.dd, .sh k.dd, .sh (.str f), .no] _
    simp only [w_year_counts, Rl.dd, lkr_facts, lkr_counters, lkr_gains, lkr_leaves, ↓za, ↓zb, ↓zc, ↓zd, ↓ze, ↓zf, ↓zg, ↓zh, ↓zi, ↓zj, ↓zk, ↓zl, ↓zm, ↓zn, ↓zo, ↓zp, ↓zq, ↓zr, ↓zt, ↓zu, ↓zv, ↓zw, ↓zx, ↓zy, ↓zz, ↓z3, ↓z7, ↓z8, ↓z9, ↓zA, ↓zB, ↓zC, ↓zD, ↓zE, ↓zF, ↓zG, ↓zH, ↓zI, ↓zJ, ↓zK, ↓zL, ↓zM, ↓zN, ↓zO, ↓zP, ↓zQ, ↓zR, ↓zS, ↓zT, ↓zU, ↓zV, ↓zW, ↓zX, ↓zY, ↓zZ, ↓xa, ↓xb, ↓xf, ↓xg, ↓xh, ↓xi, ↓xj, ↓xk, ↓xl, ↓xm, ↓xo, ↓xq, ↓xt, ↓xu, ↓xw, ↓xy, ↓xz, ↓x5, ↓x6, ↓x7, ↓x8, ↓x9, ↓xB, ↓xD, ↓xE, ↓xF, ↓xG, ↓xH, ↓xI, ↓xJ, ↓xK, ↓xL, ↓xM, ↓xN, ↓xO, xP, xQ, ↓xR, ↓xS, ↓xT, ↓xU, ↓xV, ↓xW, ↓xX, ↓xY, ↓xZ, ↓qb, ↓qc, ↓qd, ↓qf, ↓qg, ↓qh, ↓qi, ↓qj, ↓qk, dLt, dLe, dGt, dGe, ql, qm, qo, qp, qq, dI2, qr, qt, dEq, dNe, qu, qv, qw, qx, qy, qz, q8, q9, qA, qB, Option.some.injEq, qC, qD, qE, qF, qG, dIs, qH, qI, shs, kiC, qJ, qK, obD, id_eq, List.getElem?_cons_zero, List.getElem?_cons_succ, List.set_cons_zero, List.set_cons_succ, List.length_cons, List.length_nil, D.bl.injEq, exists_eq_left', decide_eq_true_eq, decide_eq_false_iff_not, Bool.not_eq_true', Bool.not_eq_false', Nat.zero_add, Nat.reduceAdd, true_and, and_true, forall_const, reduceCtorEq, not_true_eq_false, not_false_eq_true, false_implies, true_implies, implies_true, qL, Nat.reduceLeDiff, Int.reduceLE, Int.reduceLT, Int.reduceNeg, Int.reducePow, Int.reduceAdd, Int.reduceSub, Int.reduceMul]
    refine ⟨by rw [List.length_map]; omega, rfl, ?_⟩
    refine dc_map (ρ := [_, _, _, .no]) (fun c : Ctr => (Sum.inr c.nm : Key)) (fun c => .int (c.yr f (k.at c.nm))) _ [] [] ?_ (fun c hc Kt ht => ?_) ⟨rfl, ?_⟩
    · have e : r.ctrs.map (fun c => (Sum.inr c.nm : Key)) = r.names.map Sum.inr := by rw [Rl.names, List.map_map]; rfl
      rw [List.nil_append, e]
      exact inr_nodup ok.nd
    · simp only [↓za, ↓zb, ↓zc, ↓zd, ↓ze, ↓zf, ↓zg, ↓zh, ↓zi, ↓zj, ↓zk, ↓zl, ↓zm, ↓zn, ↓zo, ↓zp, ↓zq, ↓zr, ↓zt, ↓zu, ↓zv, ↓zw, ↓zx, ↓zy, ↓zz, ↓z3, ↓z7, ↓z8, ↓z9, ↓zA, ↓zB, ↓zC, ↓zD, ↓zE, ↓zF, ↓zG, ↓zH, ↓zI, ↓zJ, ↓zK, ↓zL, ↓zM, ↓zN, ↓zO, ↓zP, ↓zQ, ↓zR, ↓zS, ↓zT, ↓zU, ↓zV, ↓zW, ↓zX, ↓zY, ↓zZ, ↓xa, ↓xb, ↓xf, ↓xg, ↓xh, ↓xi, ↓xj, ↓xk, ↓xl, ↓xm, ↓xo, ↓xq, ↓xt, ↓xu, ↓xw, ↓xy, ↓xz, ↓x5, ↓x6, ↓x7, ↓x8, ↓x9, ↓xB, ↓xD, ↓xE, ↓xF, ↓xG, ↓xH, ↓xI, ↓xJ, ↓xK, ↓xL, ↓xM, ↓xN, ↓xO, xP, xQ, ↓xR, ↓xS, ↓xT, ↓xU, ↓xV, ↓xW, ↓xX, ↓xY, ↓xZ, ↓qb, ↓qc, ↓qd, ↓qf, ↓qg, ↓qh, ↓qi, ↓qj, ↓qk, dLt, dLe, dGt, dGe, ql, qm, qo, qp, qq, dI2, qr, qt, dEq, dNe, qu, qv, qw, qx, qy, qz, q8, q9, qA, qB, Option.some.injEq, qC, qD, qE, qF, qG, dIs, qH, qI, shs, kiC, qJ, qK, obD, id_eq, List.getElem?_cons_zero, List.getElem?_cons_succ, List.set_cons_zero, List.set_cons_succ, List.length_cons, List.length_nil, D.bl.injEq, exists_eq_left', decide_eq_true_eq, decide_eq_false_iff_not, Bool.not_eq_true', Bool.not_eq_false', Nat.zero_add, Nat.reduceAdd, true_and, and_true, forall_const, reduceCtorEq, not_true_eq_false, not_false_eq_true, false_implies, true_implies, implies_true, qL, Nat.reduceLeDiff, Int.reduceLE, Int.reduceLT, Int.reduceNeg, Int.reducePow, Int.reduceAdd, Int.reduceSub, Int.reduceMul, wipeD, List.reverse_cons, List.reverse_nil, List.nil_append, noOwnB, List.all_cons, List.all_nil, Bool.and_true, Bool.true_and, Ctr.dd, wf_counted]
      refine Cts.ix hl (by rw [hn]; exact List.mem_map.mpr ⟨c, hc, rfl⟩) ⟨c, rfl, (ok.st c hc).1, _, rfl, ht⟩
    · simp only [↓za, ↓zb, ↓zc, ↓zd, ↓ze, ↓zf, ↓zg, ↓zh, ↓zi, ↓zj, ↓zk, ↓zl, ↓zm, ↓zn, ↓zo, ↓zp, ↓zq, ↓zr, ↓zt, ↓zu, ↓zv, ↓zw, ↓zx, ↓zy, ↓zz, ↓z3, ↓z7, ↓z8, ↓z9, ↓zA, ↓zB, ↓zC, ↓zD, ↓zE, ↓zF, ↓zG, ↓zH, ↓zI, ↓zJ, ↓zK, ↓zL, ↓zM, ↓zN, ↓zO, ↓zP, ↓zQ, ↓zR, ↓zS, ↓zT, ↓zU, ↓zV, ↓zW, ↓zX, ↓zY, ↓zZ, ↓xa, ↓xb, ↓xf, ↓xg, ↓xh, ↓xi, ↓xj, ↓xk, ↓xl, ↓xm, ↓xo, ↓xq, ↓xt, ↓xu, ↓xw, ↓xy, ↓xz, ↓x5, ↓x6, ↓x7, ↓x8, ↓x9, ↓xB, ↓xD, ↓xE, ↓xF, ↓xG, ↓xH, ↓xI, ↓xJ, ↓xK, ↓xL, ↓xM, ↓xN, ↓xO, xP, xQ, ↓xR, ↓xS, ↓xT, ↓xU, ↓xV, ↓xW, ↓xX, ↓xY, ↓xZ, ↓qb, ↓qc, ↓qd, ↓qf, ↓qg, ↓qh, ↓qi, ↓qj, ↓qk, dLt, dLe, dGt, dGe, ql, qm, qo, qp, qq, dI2, qr, qt, dEq, dNe, qu, qv, qw, qx, qy, qz, q8, q9, qA, qB, Option.some.injEq, qC, qD, qE, qF, qG, dIs, qH, qI, shs, kiC, qJ, qK, obD, id_eq, List.getElem?_cons_zero, List.getElem?_cons_succ, List.set_cons_zero, List.set_cons_succ, List.length_cons, List.length_nil, D.bl.injEq, exists_eq_left', decide_eq_true_eq, decide_eq_false_iff_not, Bool.not_eq_true', Bool.not_eq_false', Nat.zero_add, Nat.reduceAdd, true_and, and_true, forall_const, reduceCtorEq, not_true_eq_false, not_false_eq_true, false_implies, true_implies, implies_true, qL, Nat.reduceLeDiff, Int.reduceLE, Int.reduceLT, Int.reduceNeg, Int.reducePow, Int.reduceAdd, Int.reduceSub, Int.reduceMul, wipeD, List.reverse_cons, List.reverse_nil, List.nil_append, noOwnB, List.all_cons, List.all_nil, Bool.and_true, Bool.true_and]
      have e : (r.year k f).dd = .dk (r.ctrs.map fun c => .inr c.nm) (r.ctrs.map fun c => .int (c.yr f (k.at c.nm))) := by
        unfold Rl.year Cts.dd Rl.names
        rw [List.map_map, List.map_map]; rfl
      rw [e] at q
      exact q
  · exact h.elim
/-! ### year_gain -/
def wf_year_gain : WFn
  | [.sh d, .sh e, .sh (.str f)], Q => ∃ (r : Rl) (k : Cts), d = r.dd ∧ e = k.dd ∧ r.ok ∧ k.ns = r.names ∧ k.vs.length = k.ns.length ∧ Q (.int (r.gain k f))
  | _, _ => False
theorem len_year_gain : ∀ as Qd, wf_year_gain as Qd → as.length = 3 := fun as Qd h => by
  unfold wf_year_gain at h
  split at h
  · rfl
  · exact h.elim

def w_year_gain : WS := (wRet (wUn q8 (wFz (wLc [3, 4, 5] (wItL (wFld "Rules" "gains" (wPk 0))) (wTp [3, 4, 5]) (wAnd (wTst (wOp dEq (wPk 4) (wPk 2))) (wTru (wCall wf_holds (asCons (wVar 5) (asCons (wVar 1) asNil))))) (wVar 3)))))

theorem p_year_gain : ∀ as Qd, wf_year_gain as Qd → w_year_gain (startD ["rules", "counts", "fact", "amount", "other", "condition"] as) { nx := fun _ => Qd .non, rt := fun d _ => Qd d } := fun as Qd h => by
  unfold wf_year_gain at h
  split at h
  · rename_i d e f
    obtain ⟨r, k, rfl, rfl, ok, hn, hl, q⟩ := h
    have n3 := ok.n20
    show w_year_gain [.sh r.dd, .sh k.dd, .sh (.str f), .no, .no, .no] _
    simp only [w_year_gain, Rl.dd, lkr_facts, lkr_counters, lkr_gains, lkr_leaves, ↓za, ↓zb, ↓zc, ↓zd, ↓ze, ↓zf, ↓zg, ↓zh, ↓zi, ↓zj, ↓zk, ↓zl, ↓zm, ↓zn, ↓zo, ↓zp, ↓zq, ↓zr, ↓zt, ↓zu, ↓zv, ↓zw, ↓zx, ↓zy, ↓zz, ↓z3, ↓z7, ↓z8, ↓z9, ↓zA, ↓zB, ↓zC, ↓zD, ↓zE, ↓zF, ↓zG, ↓zH, ↓zI, ↓zJ, ↓zK, ↓zL, ↓zM, ↓zN, ↓zO, ↓zP, ↓zQ, ↓zR, ↓zS, ↓zT, ↓zU, ↓zV, ↓zW, ↓zX, ↓zY, ↓zZ, ↓xa, ↓xb, ↓xf, ↓xg, ↓xh, ↓xi, ↓xj, ↓xk, ↓xl, ↓xm, ↓xo, ↓xq, ↓xt, ↓xu, ↓xw, ↓xy, ↓xz, ↓x5, ↓x6, ↓x7, ↓x8, ↓x9, ↓xB, ↓xD, ↓xE, ↓xF, ↓xG, ↓xH, ↓xI, ↓xJ, ↓xK, ↓xL, ↓xM, ↓xN, ↓xO, xP, xQ, ↓xR, ↓xS, ↓xT, ↓xU, ↓xV, ↓xW, ↓xX, ↓xY, ↓xZ, ↓qb, ↓qc, ↓qd, ↓qf, ↓qg, ↓qh, ↓qi, ↓qj, ↓qk, dLt, dLe, dGt, dGe, ql, qm, qo, qp, qq, dI2, qr, qt, dEq, dNe, qu, qv, qw, qx, qy, qz, q8, q9, qA, qB, Option.some.injEq, qC, qD, qE, qF, qG, dIs, qH, qI, shs, kiC, qJ, qK, obD, id_eq, List.getElem?_cons_zero, List.getElem?_cons_succ, List.set_cons_zero, List.set_cons_succ, List.length_cons, List.length_nil, D.bl.injEq, exists_eq_left', decide_eq_true_eq, decide_eq_false_iff_not, Bool.not_eq_true', Bool.not_eq_false', Nat.zero_add, Nat.reduceAdd, true_and, and_true, forall_const, reduceCtorEq, not_true_eq_false, not_false_eq_true, false_implies, true_implies, implies_true, qL, Nat.reduceLeDiff, Int.reduceLE, Int.reduceLT, Int.reduceNeg, Int.reducePow, Int.reduceAdd, Int.reduceSub, Int.reduceMul]
    refine ⟨by rw [List.length_map]; omega, rfl, ?_⟩
    refine lc_filter (ρ := [_, _, _, .no, .no, .no]) (fun g : Gn => decide (g.fact = f) && holdsB g.cond k) (fun g => .int g.am) _ [] (fun g hg Kt Kf ht hf => ?_) ?_
    rotate_left
    · simp only [↓za, ↓zb, ↓zc, ↓zd, ↓ze, ↓zf, ↓zg, ↓zh, ↓zi, ↓zj, ↓zk, ↓zl, ↓zm, ↓zn, ↓zo, ↓zp, ↓zq, ↓zr, ↓zt, ↓zu, ↓zv, ↓zw, ↓zx, ↓zy, ↓zz, ↓z3, ↓z7, ↓z8, ↓z9, ↓zA, ↓zB, ↓zC, ↓zD, ↓zE, ↓zF, ↓zG, ↓zH, ↓zI, ↓zJ, ↓zK, ↓zL, ↓zM, ↓zN, ↓zO, ↓zP, ↓zQ, ↓zR, ↓zS, ↓zT, ↓zU, ↓zV, ↓zW, ↓zX, ↓zY, ↓zZ, ↓xa, ↓xb, ↓xf, ↓xg, ↓xh, ↓xi, ↓xj, ↓xk, ↓xl, ↓xm, ↓xo, ↓xq, ↓xt, ↓xu, ↓xw, ↓xy, ↓xz, ↓x5, ↓x6, ↓x7, ↓x8, ↓x9, ↓xB, ↓xD, ↓xE, ↓xF, ↓xG, ↓xH, ↓xI, ↓xJ, ↓xK, ↓xL, ↓xM, ↓xN, ↓xO, xP, xQ, ↓xR, ↓xS, ↓xT, ↓xU, ↓xV, ↓xW, ↓xX, ↓xY, ↓xZ, ↓qb, ↓qc, ↓qd, ↓qf, ↓qg, ↓qh, ↓qi, ↓qj, ↓qk, dLt, dLe, dGt, dGe, ql, qm, qo, qp, qq, dI2, qr, qt, dEq, dNe, qu, qv, qw, qx, qy, qz, q8, q9, qA, qB, Option.some.injEq, qC, qD, qE, qF, qG, dIs, qH, qI, shs, kiC, qJ, qK, obD, id_eq, List.getElem?_cons_zero, List.getElem?_cons_succ, List.set_cons_zero, List.set_cons_succ, List.length_cons, List.length_nil, D.bl.injEq, exists_eq_left', decide_eq_true_eq, decide_eq_false_iff_not, Bool.not_eq_true', Bool.not_eq_false', Nat.zero_add, Nat.reduceAdd, true_and, and_true, forall_const, reduceCtorEq, not_true_eq_false, not_false_eq_true, false_implies, true_implies, implies_true, qL, Nat.reduceLeDiff, Int.reduceLE, Int.reduceLT, Int.reduceNeg, Int.reducePow, Int.reduceAdd, Int.reduceSub, Int.reduceMul, wipeD, List.reverse_cons, List.reverse_nil, List.nil_append, noOwnB, List.all_cons, List.all_nil, Bool.and_true, Bool.true_and]
      refine ⟨(List.filter (fun g : Gn => decide (g.fact = f) && holdsB g.cond k) r.gains).map (fun g : Gn => g.am), ?_, q⟩
      rw [List.map_map]; rfl
    simp only [↓za, ↓zb, ↓zc, ↓zd, ↓ze, ↓zf, ↓zg, ↓zh, ↓zi, ↓zj, ↓zk, ↓zl, ↓zm, ↓zn, ↓zo, ↓zp, ↓zq, ↓zr, ↓zt, ↓zu, ↓zv, ↓zw, ↓zx, ↓zy, ↓zz, ↓z3, ↓z7, ↓z8, ↓z9, ↓zA, ↓zB, ↓zC, ↓zD, ↓zE, ↓zF, ↓zG, ↓zH, ↓zI, ↓zJ, ↓zK, ↓zL, ↓zM, ↓zN, ↓zO, ↓zP, ↓zQ, ↓zR, ↓zS, ↓zT, ↓zU, ↓zV, ↓zW, ↓zX, ↓zY, ↓zZ, ↓xa, ↓xb, ↓xf, ↓xg, ↓xh, ↓xi, ↓xj, ↓xk, ↓xl, ↓xm, ↓xo, ↓xq, ↓xt, ↓xu, ↓xw, ↓xy, ↓xz, ↓x5, ↓x6, ↓x7, ↓x8, ↓x9, ↓xB, ↓xD, ↓xE, ↓xF, ↓xG, ↓xH, ↓xI, ↓xJ, ↓xK, ↓xL, ↓xM, ↓xN, ↓xO, xP, xQ, ↓xR, ↓xS, ↓xT, ↓xU, ↓xV, ↓xW, ↓xX, ↓xY, ↓xZ, ↓qb, ↓qc, ↓qd, ↓qf, ↓qg, ↓qh, ↓qi, ↓qj, ↓qk, dLt, dLe, dGt, dGe, ql, qm, qo, qp, qq, dI2, qr, qt, dEq, dNe, qu, qv, qw, qx, qy, qz, q8, q9, qA, qB, Option.some.injEq, qC, qD, qE, qF, qG, dIs, qH, qI, shs, kiC, qJ, qK, obD, id_eq, List.getElem?_cons_zero, List.getElem?_cons_succ, List.set_cons_zero, List.set_cons_succ, List.length_cons, List.length_nil, D.bl.injEq, exists_eq_left', decide_eq_true_eq, decide_eq_false_iff_not, Bool.not_eq_true', Bool.not_eq_false', Nat.zero_add, Nat.reduceAdd, true_and, and_true, forall_const, reduceCtorEq, not_true_eq_false, not_false_eq_true, false_implies, true_implies, implies_true, qL, Nat.reduceLeDiff, Int.reduceLE, Int.reduceLT, Int.reduceNeg, Int.reducePow, Int.reduceAdd, Int.reduceSub, Int.reduceMul, wipeD, List.reverse_cons, List.reverse_nil, List.nil_append, noOwnB, List.all_cons, List.all_nil, Bool.and_true, Bool.true_and, Gn.dd, wf_holds]
    show ∃ b, D.bl (decide (g.fact = f)) = D.bl b ∧ _
    refine ⟨_, rfl, fun e => ⟨g.cond, k, rfl, rfl, hl, fun t ht => by rw [hn]; exact (ok.gc g hg).2 t ht, fun e2 => ht (by rw [e, e2]; rfl), fun e2 => hf (by rw [e2, Bool.and_false])⟩, fun e => hf (by rw [e]; rfl)⟩
  · exact h.elim
/-! ### leave_gain -/
def wf_leave_gain : WFn
  | [.sh d, .sh e], Q => ∃ (r : Rl) (k : Cts), d = r.dd ∧ e = k.dd ∧ r.ok ∧ k.ns = r.names ∧ k.vs.length = k.ns.length ∧ Q (.int (r.lv k))
  | _, _ => False
theorem len_leave_gain : ∀ as Qd, wf_leave_gain as Qd → as.length = 2 := fun as Qd h => by
  unfold wf_leave_gain at h
  split at h
  · rfl
  · exact h.elim

def w_leave_gain : WS := (wRet (wUn q8 (wFz (wLc [2, 3] (wItL (wFld "Rules" "leaves" (wPk 0))) (wTp [2, 3]) (wTru (wCall wf_holds (asCons (wVar 3) (asCons (wVar 1) asNil)))) (wVar 2)))))

theorem p_leave_gain : ∀ as Qd, wf_leave_gain as Qd → w_leave_gain (startD ["rules", "counts", "amount", "condition"] as) { nx := fun _ => Qd .non, rt := fun d _ => Qd d } := fun as Qd h => by
  unfold wf_leave_gain at h
  split at h
  · obtain ⟨r, k, rfl, rfl, ok, hn, hl, q⟩ := h
    have n3 := ok.l20
    show w_leave_gain [.sh r.dd, .sh k.dd, .no, .no] _
    simp only [w_leave_gain, Rl.dd, lkr_facts, lkr_counters, lkr_gains, lkr_leaves, ↓za, ↓zb, ↓zc, ↓zd, ↓ze, ↓zf, ↓zg, ↓zh, ↓zi, ↓zj, ↓zk, ↓zl, ↓zm, ↓zn, ↓zo, ↓zp, ↓zq, ↓zr, ↓zt, ↓zu, ↓zv, ↓zw, ↓zx, ↓zy, ↓zz, ↓z3, ↓z7, ↓z8, ↓z9, ↓zA, ↓zB, ↓zC, ↓zD, ↓zE, ↓zF, ↓zG, ↓zH, ↓zI, ↓zJ, ↓zK, ↓zL, ↓zM, ↓zN, ↓zO, ↓zP, ↓zQ, ↓zR, ↓zS, ↓zT, ↓zU, ↓zV, ↓zW, ↓zX, ↓zY, ↓zZ, ↓xa, ↓xb, ↓xf, ↓xg, ↓xh, ↓xi, ↓xj, ↓xk, ↓xl, ↓xm, ↓xo, ↓xq, ↓xt, ↓xu, ↓xw, ↓xy, ↓xz, ↓x5, ↓x6, ↓x7, ↓x8, ↓x9, ↓xB, ↓xD, ↓xE, ↓xF, ↓xG, ↓xH, ↓xI, ↓xJ, ↓xK, ↓xL, ↓xM, ↓xN, ↓xO, xP, xQ, ↓xR, ↓xS, ↓xT, ↓xU, ↓xV, ↓xW, ↓xX, ↓xY, ↓xZ, ↓qb, ↓qc, ↓qd, ↓qf, ↓qg, ↓qh, ↓qi, ↓qj, ↓qk, dLt, dLe, dGt, dGe, ql, qm, qo, qp, qq, dI2, qr, qt, dEq, dNe, qu, qv, qw, qx, qy, qz, q8, q9, qA, qB, Option.some.injEq, qC, qD, qE, qF, qG, dIs, qH, qI, shs, kiC, qJ, qK, obD, id_eq, List.getElem?_cons_zero, List.getElem?_cons_succ, List.set_cons_zero, List.set_cons_succ, List.length_cons, List.length_nil, D.bl.injEq, exists_eq_left', decide_eq_true_eq, decide_eq_false_iff_not, Bool.not_eq_true', Bool.not_eq_false', Nat.zero_add, Nat.reduceAdd, true_and, and_true, forall_const, reduceCtorEq, not_true_eq_false, not_false_eq_true, false_implies, true_implies, implies_true, qL, Nat.reduceLeDiff, Int.reduceLE, Int.reduceLT, Int.reduceNeg, Int.reducePow, Int.reduceAdd, Int.reduceSub, Int.reduceMul]
    refine ⟨by rw [List.length_map]; omega, rfl, ?_⟩
    refine lc_filter (ρ := [_, _, .no, .no]) (fun g : Lv => holdsB g.cond k) (fun g => .int g.am) _ [] (fun g hg Kt Kf ht hf => ?_) ?_
    rotate_left
    · simp only [↓za, ↓zb, ↓zc, ↓zd, ↓ze, ↓zf, ↓zg, ↓zh, ↓zi, ↓zj, ↓zk, ↓zl, ↓zm, ↓zn, ↓zo, ↓zp, ↓zq, ↓zr, ↓zt, ↓zu, ↓zv, ↓zw, ↓zx, ↓zy, ↓zz, ↓z3, ↓z7, ↓z8, ↓z9, ↓zA, ↓zB, ↓zC, ↓zD, ↓zE, ↓zF, ↓zG, ↓zH, ↓zI, ↓zJ, ↓zK, ↓zL, ↓zM, ↓zN, ↓zO, ↓zP, ↓zQ, ↓zR, ↓zS, ↓zT, ↓zU, ↓zV, ↓zW, ↓zX, ↓zY, ↓zZ, ↓xa, ↓xb, ↓xf, ↓xg, ↓xh, ↓xi, ↓xj, ↓xk, ↓xl, ↓xm, ↓xo, ↓xq, ↓xt, ↓xu, ↓xw, ↓xy, ↓xz, ↓x5, ↓x6, ↓x7, ↓x8, ↓x9, ↓xB, ↓xD, ↓xE, ↓xF, ↓xG, ↓xH, ↓xI, ↓xJ, ↓xK, ↓xL, ↓xM, ↓xN, ↓xO, xP, xQ, ↓xR, ↓xS, ↓xT, ↓xU, ↓xV, ↓xW, ↓xX, ↓xY, ↓xZ, ↓qb, ↓qc, ↓qd, ↓qf, ↓qg, ↓qh, ↓qi, ↓qj, ↓qk, dLt, dLe, dGt, dGe, ql, qm, qo, qp, qq, dI2, qr, qt, dEq, dNe, qu, qv, qw, qx, qy, qz, q8, q9, qA, qB, Option.some.injEq, qC, qD, qE, qF, qG, dIs, qH, qI, shs, kiC, qJ, qK, obD, id_eq, List.getElem?_cons_zero, List.getElem?_cons_succ, List.set_cons_zero, List.set_cons_succ, List.length_cons, List.length_nil, D.bl.injEq, exists_eq_left', decide_eq_true_eq, decide_eq_false_iff_not, Bool.not_eq_true', Bool.not_eq_false', Nat.zero_add, Nat.reduceAdd, true_and, and_true, forall_const, reduceCtorEq, not_true_eq_false, not_false_eq_true, false_implies, true_implies, implies_true, qL, Nat.reduceLeDiff, Int.reduceLE, Int.reduceLT, Int.reduceNeg, Int.reducePow, Int.reduceAdd, Int.reduceSub, Int.reduceMul, wipeD, List.reverse_cons, List.reverse_nil, List.nil_append, noOwnB, List.all_cons, List.all_nil, Bool.and_true, Bool.true_and]
      refine ⟨(List.filter (fun g : Lv => holdsB g.cond k) r.leaves).map (fun g : Lv => g.am), ?_, q⟩
      rw [List.map_map]; rfl
    simp only [↓za, ↓zb, ↓zc, ↓zd, ↓ze, ↓zf, ↓zg, ↓zh, ↓zi, ↓zj, ↓zk, ↓zl, ↓zm, ↓zn, ↓zo, ↓zp, ↓zq, ↓zr, ↓zt, ↓zu, ↓zv, ↓zw, ↓zx, ↓zy, ↓zz, ↓z3, ↓z7, ↓z8, ↓z9, ↓zA, ↓zB, ↓zC, ↓zD, ↓zE, ↓zF, ↓zG, ↓zH, ↓zI, ↓zJ, ↓zK, ↓zL, ↓zM, ↓zN, ↓zO, ↓zP, ↓zQ, ↓zR, ↓zS, ↓zT, ↓zU, ↓zV, ↓zW, ↓zX, ↓zY, ↓zZ, ↓xa, ↓xb, ↓xf, ↓xg, ↓xh, ↓xi, ↓xj, ↓xk, ↓xl, ↓xm, ↓xo, ↓xq, ↓xt, ↓xu, ↓xw, ↓xy, ↓xz, ↓x5, ↓x6, ↓x7, ↓x8, ↓x9, ↓xB, ↓xD, ↓xE, ↓xF, ↓xG, ↓xH, ↓xI, ↓xJ, ↓xK, ↓xL, ↓xM, ↓xN, ↓xO, xP, xQ, ↓xR, ↓xS, ↓xT, ↓xU, ↓xV, ↓xW, ↓xX, ↓xY, ↓xZ, ↓qb, ↓qc, ↓qd, ↓qf, ↓qg, ↓qh, ↓qi, ↓qj, ↓qk, dLt, dLe, dGt, dGe, ql, qm, qo, qp, qq, dI2, qr, qt, dEq, dNe, qu, qv, qw, qx, qy, qz, q8, q9, qA, qB, Option.some.injEq, qC, qD, qE, qF, qG, dIs, qH, qI, shs, kiC, qJ, qK, obD, id_eq, List.getElem?_cons_zero, List.getElem?_cons_succ, List.set_cons_zero, List.set_cons_succ, List.length_cons, List.length_nil, D.bl.injEq, exists_eq_left', decide_eq_true_eq, decide_eq_false_iff_not, Bool.not_eq_true', Bool.not_eq_false', Nat.zero_add, Nat.reduceAdd, true_and, and_true, forall_const, reduceCtorEq, not_true_eq_false, not_false_eq_true, false_implies, true_implies, implies_true, qL, Nat.reduceLeDiff, Int.reduceLE, Int.reduceLT, Int.reduceNeg, Int.reducePow, Int.reduceAdd, Int.reduceSub, Int.reduceMul, wipeD, List.reverse_cons, List.reverse_nil, List.nil_append, noOwnB, List.all_cons, List.all_nil, Bool.and_true, Bool.true_and, Lv.dd, wf_holds]
    exact ⟨g.cond, k, rfl, rfl, hl, fun t ht => by rw [hn]; exact (ok.lc g hg).2 t ht, ht, hf⟩
  · exact h.elim
/-! ### first_counts -/
def wf_first_counts : WFn
  | [.sh d], Q => ∃ (r : Rl), d = r.dd ∧ r.ok ∧ Q r.zero.dd
  | _, _ => False
theorem len_first_counts : ∀ as Qd, wf_first_counts as Qd → as.length = 1 := fun as Qd h => by
  unfold wf_first_counts at h
  split at h
  · rfl
  · exact h.elim

def w_first_counts : WS := (wRet (wFz (wDc [1] (wItL (wMeth "Rules" "names" wf_Rules_names (wVar 0) asNil)) (wSt 1) wYes (wVar 1) (wC (.int 0)))))

theorem p_first_counts : ∀ as Qd, wf_first_counts as Qd → w_first_counts (startD ["rules", "name"] as) { nx := fun _ => Qd .non, rt := fun d _ => Qd d } := fun as Qd h => by
  unfold wf_first_counts at h
  split at h
  · obtain ⟨r, rfl, ok, q⟩ := h
    have n3 := ok.n3
    show w_first_counts [.sh r.dd, .no] _
    simp only [w_first_counts, Rl.dd, lkr_facts, lkr_counters, lkr_gains, lkr_leaves, ↓za, ↓zb, ↓zc, ↓zd, ↓ze, ↓zf, ↓zg, ↓zh, ↓zi, ↓zj, ↓zk, ↓zl, ↓zm, ↓zn, ↓zo, ↓zp, ↓zq, ↓zr, ↓zt, ↓zu, ↓zv, ↓zw, ↓zx, ↓zy, ↓zz, ↓z3, ↓z7, ↓z8, ↓z9, ↓zA, ↓zB, ↓zC, ↓zD, ↓zE, ↓zF, ↓zG, ↓zH, ↓zI, ↓zJ, ↓zK, ↓zL, ↓zM, ↓zN, ↓zO, ↓zP, ↓zQ, ↓zR, ↓zS, ↓zT, ↓zU, ↓zV, ↓zW, ↓zX, ↓zY, ↓zZ, ↓xa, ↓xb, ↓xf, ↓xg, ↓xh, ↓xi, ↓xj, ↓xk, ↓xl, ↓xm, ↓xo, ↓xq, ↓xt, ↓xu, ↓xw, ↓xy, ↓xz, ↓x5, ↓x6, ↓x7, ↓x8, ↓x9, ↓xB, ↓xD, ↓xE, ↓xF, ↓xG, ↓xH, ↓xI, ↓xJ, ↓xK, ↓xL, ↓xM, ↓xN, ↓xO, xP, xQ, ↓xR, ↓xS, ↓xT, ↓xU, ↓xV, ↓xW, ↓xX, ↓xY, ↓xZ, ↓qb, ↓qc, ↓qd, ↓qf, ↓qg, ↓qh, ↓qi, ↓qj, ↓qk, dLt, dLe, dGt, dGe, ql, qm, qo, qp, qq, dI2, qr, qt, dEq, dNe, qu, qv, qw, qx, qy, qz, q8, q9, qA, qB, Option.some.injEq, qC, qD, qE, qF, qG, dIs, qH, qI, shs, kiC, qJ, qK, obD, id_eq, List.getElem?_cons_zero, List.getElem?_cons_succ, List.set_cons_zero, List.set_cons_succ, List.length_cons, List.length_nil, D.bl.injEq, exists_eq_left', decide_eq_true_eq, decide_eq_false_iff_not, Bool.not_eq_true', Bool.not_eq_false', Nat.zero_add, Nat.reduceAdd, true_and, and_true, forall_const, reduceCtorEq, not_true_eq_false, not_false_eq_true, false_implies, true_implies, implies_true, qL, Nat.reduceLeDiff, Int.reduceLE, Int.reduceLT, Int.reduceNeg, Int.reducePow, Int.reduceAdd, Int.reduceSub, Int.reduceMul, wf_Rules_names]
    refine ⟨nin_names, r, rfl, by omega, by rw [List.length_map, Rl.names, List.length_map]; omega, rfl, ?_⟩
    refine dc_map (ρ := [_, .no]) (fun x : Str => (Sum.inr x : Key)) (fun _ => .int 0) _ [] [] ?_ (fun x hx Kt ht => ?_) ⟨rfl, ?_⟩
    · rw [List.nil_append]
      exact inr_nodup ok.nd
    · simp only [↓za, ↓zb, ↓zc, ↓zd, ↓ze, ↓zf, ↓zg, ↓zh, ↓zi, ↓zj, ↓zk, ↓zl, ↓zm, ↓zn, ↓zo, ↓zp, ↓zq, ↓zr, ↓zt, ↓zu, ↓zv, ↓zw, ↓zx, ↓zy, ↓zz, ↓z3, ↓z7, ↓z8, ↓z9, ↓zA, ↓zB, ↓zC, ↓zD, ↓zE, ↓zF, ↓zG, ↓zH, ↓zI, ↓zJ, ↓zK, ↓zL, ↓zM, ↓zN, ↓zO, ↓zP, ↓zQ, ↓zR, ↓zS, ↓zT, ↓zU, ↓zV, ↓zW, ↓zX, ↓zY, ↓zZ, ↓xa, ↓xb, ↓xf, ↓xg, ↓xh, ↓xi, ↓xj, ↓xk, ↓xl, ↓xm, ↓xo, ↓xq, ↓xt, ↓xu, ↓xw, ↓xy, ↓xz, ↓x5, ↓x6, ↓x7, ↓x8, ↓x9, ↓xB, ↓xD, ↓xE, ↓xF, ↓xG, ↓xH, ↓xI, ↓xJ, ↓xK, ↓xL, ↓xM, ↓xN, ↓xO, xP, xQ, ↓xR, ↓xS, ↓xT, ↓xU, ↓xV, ↓xW, ↓xX, ↓xY, ↓xZ, ↓qb, ↓qc, ↓qd, ↓qf, ↓qg, ↓qh, ↓qi, ↓qj, ↓qk, dLt, dLe, dGt, dGe, ql, qm, qo, qp, qq, dI2, qr, qt, dEq, dNe, qu, qv, qw, qx, qy, qz, q8, q9, qA, qB, Option.some.injEq, qC, qD, qE, qF, qG, dIs, qH, qI, shs, kiC, qJ, qK, obD, id_eq, List.getElem?_cons_zero, List.getElem?_cons_succ, List.set_cons_zero, List.set_cons_succ, List.length_cons, List.length_nil, D.bl.injEq, exists_eq_left', decide_eq_true_eq, decide_eq_false_iff_not, Bool.not_eq_true', Bool.not_eq_false', Nat.zero_add, Nat.reduceAdd, true_and, and_true, forall_const, reduceCtorEq, not_true_eq_false, not_false_eq_true, false_implies, true_implies, implies_true, qL, Nat.reduceLeDiff, Int.reduceLE, Int.reduceLT, Int.reduceNeg, Int.reducePow, Int.reduceAdd, Int.reduceSub, Int.reduceMul, wipeD, List.reverse_cons, List.reverse_nil, List.nil_append, noOwnB, List.all_cons, List.all_nil, Bool.and_true, Bool.true_and]
      exact ⟨_, rfl, ht⟩
    · simp only [↓za, ↓zb, ↓zc, ↓zd, ↓ze, ↓zf, ↓zg, ↓zh, ↓zi, ↓zj, ↓zk, ↓zl, ↓zm, ↓zn, ↓zo, ↓zp, ↓zq, ↓zr, ↓zt, ↓zu, ↓zv, ↓zw, ↓zx, ↓zy, ↓zz, ↓z3, ↓z7, ↓z8, ↓z9, ↓zA, ↓zB, ↓zC, ↓zD, ↓zE, ↓zF, ↓zG, ↓zH, ↓zI, ↓zJ, ↓zK, ↓zL, ↓zM, ↓zN, ↓zO, ↓zP, ↓zQ, ↓zR, ↓zS, ↓zT, ↓zU, ↓zV, ↓zW, ↓zX, ↓zY, ↓zZ, ↓xa, ↓xb, ↓xf, ↓xg, ↓xh, ↓xi, ↓xj, ↓xk, ↓xl, ↓xm, ↓xo, ↓xq, ↓xt, ↓xu, ↓xw, ↓xy, ↓xz, ↓x5, ↓x6, ↓x7, ↓x8, ↓x9, ↓xB, ↓xD, ↓xE, ↓xF, ↓xG, ↓xH, ↓xI, ↓xJ, ↓xK, ↓xL, ↓xM, ↓xN, ↓xO, xP, xQ, ↓xR, ↓xS, ↓xT, ↓xU, ↓xV, ↓xW, ↓xX, ↓xY, ↓xZ, ↓qb, ↓qc, ↓qd, ↓qf, ↓qg, ↓qh, ↓qi, ↓qj, ↓qk, dLt, dLe, dGt, dGe, ql, qm, qo, qp, qq, dI2, qr, qt, dEq, dNe, qu, qv, qw, qx, qy, qz, q8, q9, qA, qB, Option.some.injEq, qC, qD, qE, qF, qG, dIs, qH, qI, shs, kiC, qJ, qK, obD, id_eq, List.getElem?_cons_zero, List.getElem?_cons_succ, List.set_cons_zero, List.set_cons_succ, List.length_cons, List.length_nil, D.bl.injEq, exists_eq_left', decide_eq_true_eq, decide_eq_false_iff_not, Bool.not_eq_true', Bool.not_eq_false', Nat.zero_add, Nat.reduceAdd, true_and, and_true, forall_const, reduceCtorEq, not_true_eq_false, not_false_eq_true, false_implies, true_implies, implies_true, qL, Nat.reduceLeDiff, Int.reduceLE, Int.reduceLT, Int.reduceNeg, Int.reducePow, Int.reduceAdd, Int.reduceSub, Int.reduceMul, wipeD, List.reverse_cons, List.reverse_nil, List.nil_append, noOwnB, List.all_cons, List.all_nil, Bool.and_true, Bool.true_and]
      have e : r.zero.dd = .dk (r.names.map .inr) (r.names.map fun _ => .int 0) := by
        unfold Rl.zero Cts.dd Rl.names
        rw [List.map_map, List.map_map, List.map_map]; rfl
      rw [e] at q
      exact q
  · exact h.elim

/-! ### _law_cell -/
def wf__law_cell : WFn
  | [.sh (.scr ds), .sh (.int k)], Q => (∃ ns : List Int, ds = ns.map D.int) ∧ 0 ≤ k ∧ ∀ z, Q (.int z)
  | _, _ => False
theorem len__law_cell : ∀ as Qd, wf__law_cell as Qd → as.length = 2 := fun as Qd h => by
  unfold wf__law_cell at h
  split at h
  · rfl
  · exact h.elim

def w__law_cell : WS := (wSeq (wIf (wTst (wOp dLt (wPk 1) (wUn qu (wPk 0))))
 (wRet (wOp dIx (wPk 0) (wPk 1)))
 wNext)
 (wRet (wC (.int 0))))

theorem p__law_cell : ∀ as Qd, wf__law_cell as Qd → w__law_cell (startD ["_law_script", "_law_k"] as) { nx := fun _ => Qd .non, rt := fun d _ => Qd d } := fun as Qd h => by
  unfold wf__law_cell at h
  split at h
  · obtain ⟨⟨ns, rfl⟩, hk, q⟩ := h
    show w__law_cell [.sh _, .sh _] _
    simp only [w__law_cell, ↓za, ↓zb, ↓zc, ↓zd, ↓ze, ↓zf, ↓zg, ↓zh, ↓zi, ↓zj, ↓zk, ↓zl, ↓zm, ↓zn, ↓zo, ↓zp, ↓zq, ↓zr, ↓zt, ↓zu, ↓zv, ↓zw, ↓zx, ↓zy, ↓zz, ↓z3, ↓z7, ↓z8, ↓z9, ↓zA, ↓zB, ↓zC, ↓zD, ↓zE, ↓zF, ↓zG, ↓zH, ↓zI, ↓zJ, ↓zK, ↓zL, ↓zM, ↓zN, ↓zO, ↓zP, ↓zQ, ↓zR, ↓zS, ↓zT, ↓zU, ↓zV, ↓zW, ↓zX, ↓zY, ↓zZ, ↓xa, ↓xb, ↓xf, ↓xg, ↓xh, ↓xi, ↓xj, ↓xk, ↓xl, ↓xm, ↓xo, ↓xq, ↓xt, ↓xu, ↓xw, ↓xy, ↓xz, ↓x5, ↓x6, ↓x7, ↓x8, ↓x9, ↓xB, ↓xD, ↓xE, ↓xF, ↓xG, ↓xH, ↓xI, ↓xJ, ↓xK, ↓xL, ↓xM, ↓xN, ↓xO, xP, xQ, ↓xR, ↓xS, ↓xT, ↓xU, ↓xV, ↓xW, ↓xX, ↓xY, ↓xZ, ↓qb, ↓qc, ↓qd, ↓qf, ↓qg, ↓qh, ↓qi, ↓qj, ↓qk, dLt, dLe, dGt, dGe, ql, qm, qo, qp, qq, dI2, qr, qt, dEq, dNe, qu, qv, qw, qx, qy, qz, q8, q9, qA, qB, Option.some.injEq, qC, qD, qE, qF, qG, dIs, qH, qI, shs, kiC, qJ, qK, obD, id_eq, List.getElem?_cons_zero, List.getElem?_cons_succ, List.set_cons_zero, List.set_cons_succ, List.length_cons, List.length_nil, D.bl.injEq, exists_eq_left', decide_eq_true_eq, decide_eq_false_iff_not, Bool.not_eq_true', Bool.not_eq_false', Nat.zero_add, Nat.reduceAdd, true_and, and_true, forall_const, reduceCtorEq, not_true_eq_false, not_false_eq_true, false_implies, true_implies, implies_true, qL, Nat.reduceLeDiff, Int.reduceLE, Int.reduceLT, Int.reduceNeg, Int.reducePow, Int.reduceAdd, Int.reduceSub, Int.reduceMul]
    refine ⟨fun hc => ?_, fun _ => q 0⟩
    rw [List.length_map] at hc
    obtain ⟨n, _, _, e⟩ := atI_map (f := D.int) hk hc
    exact ⟨_, e, q n⟩
  · exact h.elim
/-! ### _law_digits -/
def wf__law_digits : WFn
  | [.sh (.scr ds), .sh (.int a), .sh (.int b)], Q => a = 0 ∧ b = 63 ∧ (∃ ns : List Int, ds = ns.map D.int) ∧ ∀ ns : List Int, Q (.lst (ns.map D.int))
  | _, _ => False
theorem len__law_digits : ∀ as Qd, wf__law_digits as Qd → as.length = 3 := fun as Qd h => by
  unfold wf__law_digits at h
  split at h
  · rfl
  · exact h.elim

def w__law_digits : WS := (wSeq (wAsgO (wfLst waNil) 3)
 (wSeq (wFor (wRg2 (waCons (wVar 1) (waCons (wVar 2) waNil))) (wSt 7)
 (wSeq (wAsg (wCall wf__law_cell (asCons (wVar 0) (asCons (wVar 7) asNil))) (wSt 4))
 (wSeq (wIf (wTst (wOp dLt (wPk 4) (wC (.int 0))))
 (wAsg (wOp ql (wC (.int 1)) (wOp qm (wC (.int 2)) (wPk 4))) (wSt 4))
 wNext)
 (wIf (wTst (wOp dGe (wPk 4) (wOp qq (wC (.int 10)) (wC (.int 18)))))
 (wFor (wRg1 (waCons (wC (.int 60)) waNil)) (wSt 5)
 (wIf (wTst (wOp dGt (wPk 4) (wC (.int 0))))
 (wSeq (wApp 3 (wOp qo (wUn qv (wPk 4)) (wC (.int 1000))))
 (wAsg (wOp qp (wPk 4) (wC (.int 1000))) (wSt 4)))
 wNext))
 (wSeq (wAsg (wOp qo (wUn qv (wOp qt (wOp qt (wOp qm (wPk 4) (wC (.int 48271))) (wOp qm (wPk 7) (wC (.int 69621)))) (wC (.int 11)))) (wC (.int 2147483647))) (wSt 6))
 (wFor (wRg1 (waCons (wC (.int 12)) waNil)) (wSt 5)
 (wSeq (wAsg (wOp qo (wUn qv (wOp qt (wOp qt (wOp qm (wPk 6) (wC (.int 16807))) (wOp qm (wC (.int 7)) (wPk 5))) (wC (.int 1)))) (wC (.int 2147483647))) (wSt 6))
 (wApp 3 (wOp qo (wUn qv (wOp qp (wPk 6) (wC (.int 997)))) (wC (.int 1000)))))))))))
 (wRet (wVar 3))))

theorem p__law_digits : ∀ as Qd, wf__law_digits as Qd → w__law_digits (startD ["_law_script", "_law_first", "_law_last", "_law_digits_here", "_law_cell_here", "_law_turn", "_law_seed", "_law_k"] as) { nx := fun _ => Qd .non, rt := fun d _ => Qd d } := fun as Qd h => by
  unfold wf__law_digits at h
  split at h
  · obtain ⟨rfl, rfl, ⟨ns0, rfl⟩, q⟩ := h
    show w__law_digits [.sh _, .sh (.int 0), .sh (.int 63), .no, .no, .no, .no, .no] _
    simp only [w__law_digits, ↓za, ↓zb, ↓zc, ↓zd, ↓ze, ↓zf, ↓zg, ↓zh, ↓zi, ↓zj, ↓zk, ↓zl, ↓zm, ↓zn, ↓zo, ↓zp, ↓zq, ↓zr, ↓zt, ↓zu, ↓zv, ↓zw, ↓zx, ↓zy, ↓zz, ↓z3, ↓z7, ↓z8, ↓z9, ↓zA, ↓zB, ↓zC, ↓zD, ↓zE, ↓zF, ↓zG, ↓zH, ↓zI, ↓zJ, ↓zK, ↓zL, ↓zM, ↓zN, ↓zO, ↓zP, ↓zQ, ↓zR, ↓zS, ↓zT, ↓zU, ↓zV, ↓zW, ↓zX, ↓zY, ↓zZ, ↓xa, ↓xb, ↓xf, ↓xg, ↓xh, ↓xi, ↓xj, ↓xk, ↓xl, ↓xm, ↓xo, ↓xq, ↓xt, ↓xu, ↓xw, ↓xy, ↓xz, ↓x5, ↓x6, ↓x7, ↓x8, ↓x9, ↓xB, ↓xD, ↓xE, ↓xF, ↓xG, ↓xH, ↓xI, ↓xJ, ↓xK, ↓xL, ↓xM, ↓xN, ↓xO, xP, xQ, ↓xR, ↓xS, ↓xT, ↓xU, ↓xV, ↓xW, ↓xX, ↓xY, ↓xZ, ↓qb, ↓qc, ↓qd, ↓qf, ↓qg, ↓qh, ↓qi, ↓qj, ↓qk, dLt, dLe, dGt, dGe, ql, qm, qo, qp, qq, dI2, qr, qt, dEq, dNe, qu, qv, qw, qx, qy, qz, q8, q9, qA, qB, Option.some.injEq, qC, qD, qE, qF, qG, dIs, qH, qI, shs, kiC, qJ, qK, obD, id_eq, List.getElem?_cons_zero, List.getElem?_cons_succ, List.set_cons_zero, List.set_cons_succ, List.length_cons, List.length_nil, D.bl.injEq, exists_eq_left', decide_eq_true_eq, decide_eq_false_iff_not, Bool.not_eq_true', Bool.not_eq_false', Nat.zero_add, Nat.reduceAdd, true_and, and_true, forall_const, reduceCtorEq, not_true_eq_false, not_false_eq_true, false_implies, true_implies, implies_true, qL, Nat.reduceLeDiff, Int.reduceLE, Int.reduceLT, Int.reduceNeg, Int.reducePow, Int.reduceAdd, Int.reduceSub, Int.reduceMul]
    refine for_nat (fun k ρ => ∃ (ns : List Int) (s4 s5 s6 s7 : Sl), ρ = [.sh (.scr (ns0.map D.int)), .sh (.int 0), .sh (.int 63), .ol (ns.map D.int), s4, s5, s6, s7] ∧ ns.length ≤ 60 * k) ?_ ?_ _ ⟨[], _, _, _, _, rfl, Nat.le_refl _⟩
    · rintro k hk ρ ⟨ns, s4, s5, s6, s7, rfl, hl⟩ C hC
      have key : ∀ (z : Int) (E : EnD), E.nx = C → (10 ^ Int.toNat 18 ≤ z → wForL (wSt 5) (wIf (wTst (wOp (dI2 fun i j => D.bl (decide (j < i))) (wPk 4) (wC (D.int 0))))
            (wSeq (wApp 3 (wOp (qr (fun x j => 0 < j) fun i j => D.int (i % j)) (wUn qv (wPk 4)) (wC (D.int 1000)))) (wAsg (wOp (qr CDiv fun i j => D.int (i / j)) (wPk 4) (wC (D.int 1000))) (wSt 4))) wNext) (rangeD 0 60)
            [.sh (.scr (ns0.map D.int)), .sh (.int 0), .sh (.int 63), .ol (ns.map D.int), .sh (.int z), s5, s6, .sh (.int (k : Nat))] E) := fun z E hE _ => by
        subst hE
        refine for_nat (fun j ρ => ∃ (ms : List Int) (y : Int) (s5 : Sl), ρ = [.sh (.scr (ns0.map D.int)), .sh (.int 0), .sh (.int 63), .ol (ms.map D.int), .sh (.int y), s5, s6, .sh (.int (k : Nat))] ∧ ms.length ≤ 60 * k + j) ?_ ?_ _ ⟨ns, z, s5, rfl, hl⟩
        · rintro j hj ρ ⟨ms, y, s5, rfl, hm⟩ C2 hC2
          simp only [↓za, ↓zb, ↓zc, ↓zd, ↓ze, ↓zf, ↓zg, ↓zh, ↓zi, ↓zj, ↓zk, ↓zl, ↓zm, ↓zn, ↓zo, ↓zp, ↓zq, ↓zr, ↓zt, ↓zu, ↓zv, ↓zw, ↓zx, ↓zy, ↓zz, ↓z3, ↓z7, ↓z8, ↓z9, ↓zA, ↓zB, ↓zC, ↓zD, ↓zE, ↓zF, ↓zG, ↓zH, ↓zI, ↓zJ, ↓zK, ↓zL, ↓zM, ↓zN, ↓zO, ↓zP, ↓zQ, ↓zR, ↓zS, ↓zT, ↓zU, ↓zV, ↓zW, ↓zX, ↓zY, ↓zZ, ↓xa, ↓xb, ↓xf, ↓xg, ↓xh, ↓xi, ↓xj, ↓xk, ↓xl, ↓xm, ↓xo, ↓xq, ↓xt, ↓xu, ↓xw, ↓xy, ↓xz, ↓x5, ↓x6, ↓x7, ↓x8, ↓x9, ↓xB, ↓xD, ↓xE, ↓xF, ↓xG, ↓xH, ↓xI, ↓xJ, ↓xK, ↓xL, ↓xM, ↓xN, ↓xO, xP, xQ, ↓xR, ↓xS, ↓xT, ↓xU, ↓xV, ↓xW, ↓xX, ↓xY, ↓xZ, ↓qb, ↓qc, ↓qd, ↓qf, ↓qg, ↓qh, ↓qi, ↓qj, ↓qk, dLt, dLe, dGt, dGe, ql, qm, qo, qp, qq, dI2, qr, qt, dEq, dNe, qu, qv, qw, qx, qy, qz, q8, q9, qA, qB, Option.some.injEq, qC, qD, qE, qF, qG, dIs, qH, qI, shs, kiC, qJ, qK, obD, id_eq, List.getElem?_cons_zero, List.getElem?_cons_succ, List.set_cons_zero, List.set_cons_succ, List.length_cons, List.length_nil, D.bl.injEq, exists_eq_left', decide_eq_true_eq, decide_eq_false_iff_not, Bool.not_eq_true', Bool.not_eq_false', Nat.zero_add, Nat.reduceAdd, true_and, and_true, forall_const, reduceCtorEq, not_true_eq_false, not_false_eq_true, false_implies, true_implies, implies_true, qL, Nat.reduceLeDiff, Int.reduceLE, Int.reduceLT, Int.reduceNeg, Int.reducePow, Int.reduceAdd, Int.reduceSub, Int.reduceMul, List.length_map]
          refine ⟨fun hy => ⟨by omega, ⟨by decide, by decide⟩, hC2 _ ⟨ms ++ [y % 1000], y / 1000, _, by rw [List.map_append]; rfl, by simp; omega⟩⟩, fun _ => hC2 _ ⟨ms, y, _, rfl, by omega⟩⟩
        · rintro ρ ⟨ms, y, s5, rfl, hm⟩
          have : (60 : Int).toNat = 60 := rfl
          exact hC _ ⟨ms, _, _, _, _, rfl, by omega⟩
      have key2 : ∀ (z y : Int) (E : EnD), E.nx = C → 0 ≤ y → y < 2147483647 → wForL (wSt 5) (wSeq (wAsg (wOp (qr (fun x j => 0 < j) fun i j => D.int (i % j)) (wUn qv (wOp qt (wOp qt (wOp (qr CMul fun i j => D.int (i * j)) (wPk 6) (wC (D.int 16807)))
            (wOp (qr CMul fun i j => D.int (i * j)) (wC (D.int 7)) (wPk 5))) (wC (D.int 1)))) (wC (D.int 2147483647))) (wSt 6)) (wApp 3 (wOp (qr (fun x j => 0 < j) fun i j => D.int (i % j)) (wUn qv (wOp (qr CDiv fun i j => D.int (i / j)) (wPk 6) (wC (D.int 997)))) (wC (D.int 1000))))) (rangeD 0 12)
            [.sh (.scr (ns0.map D.int)), .sh (.int 0), .sh (.int 63), .ol (ns.map D.int), .sh (.int z), s5, .sh (.int y), .sh (.int (k : Nat))] E := fun z y E hE h0 h1 => by
        subst hE
        refine for_nat (fun j ρ => ∃ (ms : List Int) (y : Int) (s5 : Sl), ρ = [.sh (.scr (ns0.map D.int)), .sh (.int 0), .sh (.int 63), .ol (ms.map D.int), .sh (.int z), s5, .sh (.int y), .sh (.int (k : Nat))] ∧ ms.length ≤ 60 * k + j ∧ 0 ≤ y ∧ y < 2147483647) ?_ ?_ _ ⟨ns, y, s5, rfl, hl, h0, h1⟩
        · rintro j hj ρ ⟨ms, y, s5, rfl, hm, y0, y1⟩ C2 hC2
          simp only [↓za, ↓zb, ↓zc, ↓zd, ↓ze, ↓zf, ↓zg, ↓zh, ↓zi, ↓zj, ↓zk, ↓zl, ↓zm, ↓zn, ↓zo, ↓zp, ↓zq, ↓zr, ↓zt, ↓zu, ↓zv, ↓zw, ↓zx, ↓zy, ↓zz, ↓z3, ↓z7, ↓z8, ↓z9, ↓zA, ↓zB, ↓zC, ↓zD, ↓zE, ↓zF, ↓zG, ↓zH, ↓zI, ↓zJ, ↓zK, ↓zL, ↓zM, ↓zN, ↓zO, ↓zP, ↓zQ, ↓zR, ↓zS, ↓zT, ↓zU, ↓zV, ↓zW, ↓zX, ↓zY, ↓zZ, ↓xa, ↓xb, ↓xf, ↓xg, ↓xh, ↓xi, ↓xj, ↓xk, ↓xl, ↓xm, ↓xo, ↓xq, ↓xt, ↓xu, ↓xw, ↓xy, ↓xz, ↓x5, ↓x6, ↓x7, ↓x8, ↓x9, ↓xB, ↓xD, ↓xE, ↓xF, ↓xG, ↓xH, ↓xI, ↓xJ, ↓xK, ↓xL, ↓xM, ↓xN, ↓xO, xP, xQ, ↓xR, ↓xS, ↓xT, ↓xU, ↓xV, ↓xW, ↓xX, ↓xY, ↓xZ, ↓qb, ↓qc, ↓qd, ↓qf, ↓qg, ↓qh, ↓qi, ↓qj, ↓qk, dLt, dLe, dGt, dGe, ql, qm, qo, qp, qq, dI2, qr, qt, dEq, dNe, qu, qv, qw, qx, qy, qz, q8, q9, qA, qB, Option.some.injEq, qC, qD, qE, qF, qG, dIs, qH, qI, shs, kiC, qJ, qK, obD, id_eq, List.getElem?_cons_zero, List.getElem?_cons_succ, List.set_cons_zero, List.set_cons_succ, List.length_cons, List.length_nil, D.bl.injEq, exists_eq_left', decide_eq_true_eq, decide_eq_false_iff_not, Bool.not_eq_true', Bool.not_eq_false', Nat.zero_add, Nat.reduceAdd, true_and, and_true, forall_const, reduceCtorEq, not_true_eq_false, not_false_eq_true, false_implies, true_implies, implies_true, qL, Nat.reduceLeDiff, Int.reduceLE, Int.reduceLT, Int.reduceNeg, Int.reducePow, Int.reduceAdd, Int.reduceSub, Int.reduceMul, List.length_map]
          exact ⟨.inr (by decide), .inl (by decide), ⟨by decide, by decide⟩, by omega, hC2 _ ⟨ms ++ [(y * 16807 + 7 * (j : Int) + 1) % 2147483647 / 997 % 1000], (y * 16807 + 7 * (j : Int) + 1) % 2147483647, _, by rw [List.map_append]; rfl, by simp; omega, Int.emod_nonneg _ (by omega), Int.emod_lt_of_pos _ (by omega)⟩⟩
        · rintro ρ ⟨ms, y, s5, rfl, hm, _⟩
          have : (12 : Int).toNat = 12 := rfl
          exact hC _ ⟨ms, _, _, _, _, rfl, by omega⟩
      simp only [↓za, ↓zb, ↓zc, ↓zd, ↓ze, ↓zf, ↓zg, ↓zh, ↓zi, ↓zj, ↓zk, ↓zl, ↓zm, ↓zn, ↓zo, ↓zp, ↓zq, ↓zr, ↓zt, ↓zu, ↓zv, ↓zw, ↓zx, ↓zy, ↓zz, ↓z3, ↓z7, ↓z8, ↓z9, ↓zA, ↓zB, ↓zC, ↓zD, ↓zE, ↓zF, ↓zG, ↓zH, ↓zI, ↓zJ, ↓zK, ↓zL, ↓zM, ↓zN, ↓zO, ↓zP, ↓zQ, ↓zR, ↓zS, ↓zT, ↓zU, ↓zV, ↓zW, ↓zX, ↓zY, ↓zZ, ↓xa, ↓xb, ↓xf, ↓xg, ↓xh, ↓xi, ↓xj, ↓xk, ↓xl, ↓xm, ↓xo, ↓xq, ↓xt, ↓xu, ↓xw, ↓xy, ↓xz, ↓x5, ↓x6, ↓x7, ↓x8, ↓x9, ↓xB, ↓xD, ↓xE, ↓xF, ↓xG, ↓xH, ↓xI, ↓xJ, ↓xK, ↓xL, ↓xM, ↓xN, ↓xO, xP, xQ, ↓xR, ↓xS, ↓xT, ↓xU, ↓xV, ↓xW, ↓xX, ↓xY, ↓xZ, ↓qb, ↓qc, ↓qd, ↓qf, ↓qg, ↓qh, ↓qi, ↓qj, ↓qk, dLt, dLe, dGt, dGe, ql, qm, qo, qp, qq, dI2, qr, qt, dEq, dNe, qu, qv, qw, qx, qy, qz, q8, q9, qA, qB, Option.some.injEq, qC, qD, qE, qF, qG, dIs, qH, qI, shs, kiC, qJ, qK, obD, id_eq, List.getElem?_cons_zero, List.getElem?_cons_succ, List.set_cons_zero, List.set_cons_succ, List.length_cons, List.length_nil, D.bl.injEq, exists_eq_left', decide_eq_true_eq, decide_eq_false_iff_not, Bool.not_eq_true', Bool.not_eq_false', Nat.zero_add, Nat.reduceAdd, true_and, and_true, forall_const, reduceCtorEq, not_true_eq_false, not_false_eq_true, false_implies, true_implies, implies_true, qL, Nat.reduceLeDiff, Int.reduceLE, Int.reduceLT, Int.reduceNeg, Int.reducePow, Int.reduceAdd, Int.reduceSub, Int.reduceMul, wf__law_cell]
      refine ⟨⟨ns0, rfl⟩, by omega, fun z => ⟨fun hz => ⟨.inl (by decide), ⟨by decide, by decide, by decide⟩, key _ _ rfl, fun hb => ?_⟩, fun hz => ⟨⟨by decide, by decide, by decide⟩, key _ _ rfl, fun hb => ?_⟩⟩⟩
      · exact ⟨.inr (by decide), .inr (by decide), key2 _ _ _ rfl (Int.emod_nonneg _ (by omega)) (Int.emod_lt_of_pos _ (by omega))⟩
      · exact ⟨.inr (by decide), .inr (by decide), key2 _ _ _ rfl (Int.emod_nonneg _ (by omega)) (Int.emod_lt_of_pos _ (by omega))⟩
    · rintro ρ ⟨ns, s4, s5, s6, s7, rfl, hl⟩
      simp only [↓za, ↓zb, ↓zc, ↓zd, ↓ze, ↓zf, ↓zg, ↓zh, ↓zi, ↓zj, ↓zk, ↓zl, ↓zm, ↓zn, ↓zo, ↓zp, ↓zq, ↓zr, ↓zt, ↓zu, ↓zv, ↓zw, ↓zx, ↓zy, ↓zz, ↓z3, ↓z7, ↓z8, ↓z9, ↓zA, ↓zB, ↓zC, ↓zD, ↓zE, ↓zF, ↓zG, ↓zH, ↓zI, ↓zJ, ↓zK, ↓zL, ↓zM, ↓zN, ↓zO, ↓zP, ↓zQ, ↓zR, ↓zS, ↓zT, ↓zU, ↓zV, ↓zW, ↓zX, ↓zY, ↓zZ, ↓xa, ↓xb, ↓xf, ↓xg, ↓xh, ↓xi, ↓xj, ↓xk, ↓xl, ↓xm, ↓xo, ↓xq, ↓xt, ↓xu, ↓xw, ↓xy, ↓xz, ↓x5, ↓x6, ↓x7, ↓x8, ↓x9, ↓xB, ↓xD, ↓xE, ↓xF, ↓xG, ↓xH, ↓xI, ↓xJ, ↓xK, ↓xL, ↓xM, ↓xN, ↓xO, xP, xQ, ↓xR, ↓xS, ↓xT, ↓xU, ↓xV, ↓xW, ↓xX, ↓xY, ↓xZ, ↓qb, ↓qc, ↓qd, ↓qf, ↓qg, ↓qh, ↓qi, ↓qj, ↓qk, dLt, dLe, dGt, dGe, ql, qm, qo, qp, qq, dI2, qr, qt, dEq, dNe, qu, qv, qw, qx, qy, qz, q8, q9, qA, qB, Option.some.injEq, qC, qD, qE, qF, qG, dIs, qH, qI, shs, kiC, qJ, qK, obD, id_eq, List.getElem?_cons_zero, List.getElem?_cons_succ, List.set_cons_zero, List.set_cons_succ, List.length_cons, List.length_nil, D.bl.injEq, exists_eq_left', decide_eq_true_eq, decide_eq_false_iff_not, Bool.not_eq_true', Bool.not_eq_false', Nat.zero_add, Nat.reduceAdd, true_and, and_true, forall_const, reduceCtorEq, not_true_eq_false, not_false_eq_true, false_implies, true_implies, implies_true, qL, Nat.reduceLeDiff, Int.reduceLE, Int.reduceLT, Int.reduceNeg, Int.reducePow, Int.reduceAdd, Int.reduceSub, Int.reduceMul]
      exact q ns
  · exact h.elim
/-! ### _law_draw -/
def wf__law_draw : WFn
  | [.bx, .sh (.int n)], Q => 0 < n ∧ ∀ r : Int, 0 ≤ r → r < n → Q (.int r)
  | _, _ => False
theorem len__law_draw : ∀ as Qd, wf__law_draw as Qd → as.length = 2 := fun as Qd h => by
  unfold wf__law_draw at h
  split at h
  · rfl
  · exact h.elim

def w__law_draw : WS := (wSeq (wAsg (wBx1 0) (wSt 2))
 (wSeq (wBxPut 0 (wOp qt (wPk 2) (wC (.int 1))))
 (wSeq (wDraw 0 2 1)
 (wRet (wC (.int 0))))))

theorem p__law_draw : ∀ as Qd, wf__law_draw as Qd → w__law_draw (startD ["_law_box", "_law_many", "_law_at"] as) { nx := fun _ => Qd .non, rt := fun d _ => Qd d } := fun as Qd h => by
  unfold wf__law_draw at h
  split at h
  · obtain ⟨hn, q⟩ := h
    show w__law_draw [.bx, .sh (.int _), .no] _
    simp only [w__law_draw, ↓za, ↓zb, ↓zc, ↓zd, ↓ze, ↓zf, ↓zg, ↓zh, ↓zi, ↓zj, ↓zk, ↓zl, ↓zm, ↓zn, ↓zo, ↓zp, ↓zq, ↓zr, ↓zt, ↓zu, ↓zv, ↓zw, ↓zx, ↓zy, ↓zz, ↓z3, ↓z7, ↓z8, ↓z9, ↓zA, ↓zB, ↓zC, ↓zD, ↓zE, ↓zF, ↓zG, ↓zH, ↓zI, ↓zJ, ↓zK, ↓zL, ↓zM, ↓zN, ↓zO, ↓zP, ↓zQ, ↓zR, ↓zS, ↓zT, ↓zU, ↓zV, ↓zW, ↓zX, ↓zY, ↓zZ, ↓xa, ↓xb, ↓xf, ↓xg, ↓xh, ↓xi, ↓xj, ↓xk, ↓xl, ↓xm, ↓xo, ↓xq, ↓xt, ↓xu, ↓xw, ↓xy, ↓xz, ↓x5, ↓x6, ↓x7, ↓x8, ↓x9, ↓xB, ↓xD, ↓xE, ↓xF, ↓xG, ↓xH, ↓xI, ↓xJ, ↓xK, ↓xL, ↓xM, ↓xN, ↓xO, xP, xQ, ↓xR, ↓xS, ↓xT, ↓xU, ↓xV, ↓xW, ↓xX, ↓xY, ↓xZ, ↓qb, ↓qc, ↓qd, ↓qf, ↓qg, ↓qh, ↓qi, ↓qj, ↓qk, dLt, dLe, dGt, dGe, ql, qm, qo, qp, qq, dI2, qr, qt, dEq, dNe, qu, qv, qw, qx, qy, qz, q8, q9, qA, qB, Option.some.injEq, qC, qD, qE, qF, qG, dIs, qH, qI, shs, kiC, qJ, qK, obD, id_eq, List.getElem?_cons_zero, List.getElem?_cons_succ, List.set_cons_zero, List.set_cons_succ, List.length_cons, List.length_nil, D.bl.injEq, exists_eq_left', decide_eq_true_eq, decide_eq_false_iff_not, Bool.not_eq_true', Bool.not_eq_false', Nat.zero_add, Nat.reduceAdd, true_and, and_true, forall_const, reduceCtorEq, not_true_eq_false, not_false_eq_true, false_implies, true_implies, implies_true, qL, Nat.reduceLeDiff, Int.reduceLE, Int.reduceLT, Int.reduceNeg, Int.reducePow, Int.reduceAdd, Int.reduceSub, Int.reduceMul, List.length_map]
    intro n h0
    first
      | exact ⟨by omega, n, _, rfl, rfl, h0, hn, q, .inr (by decide), hn, q _ (Int.emod_nonneg _ (by omega)) (Int.emod_lt_of_pos _ hn)⟩
      | exact ⟨by omega, n, _, rfl, rfl, h0, hn, q, q 0 (by decide) hn⟩
  · exact h.elim
/-! ### _law_condition -/
def wf__law_condition : WFn
  | [.bx, .sh (.lst ds)], Q => ∃ ns : List Str, ds = ns.map D.str ∧ (∀ x ∈ ns, PyData.strOk x = true) ∧ ∀ l : List Tst, l.length ≤ 2 → (∀ t ∈ l, t.c ∈ ns) → Q (condD l)
  | _, _ => False
theorem len__law_condition : ∀ as Qd, wf__law_condition as Qd → as.length = 2 := fun as Qd h => by
  unfold wf__law_condition at h
  split at h
  · rfl
  · exact h.elim

def w__law_condition : WS := (wSeq (wAsgO (wfLst waNil) 2)
 (wSeq (wIf (wTst (wOp dNe (wPk 1) (wFz (wfLst waNil))))
 (wFor (wRg1 (waCons (wCall wf__law_draw (asBox 0 (asCons (wC (.int 3)) asNil))) waNil)) (wSt 3)
 (wApp 2 (wTup (waCons (wOp dIx (wPk 1) (wCall wf__law_draw (asBox 0 (asCons (wUn qu (wPk 1)) asNil)))) (waCons (wOp dIx (wFz (wfLst (waCons (wC (.str ">=")) (waCons (wC (.str "<")) waNil)))) (wCall wf__law_draw (asBox 0 (asCons (wC (.int 2)) asNil)))) (waCons (wCall wf__law_draw (asBox 0 (asCons (wC (.int 5)) asNil))) waNil))))))
 wNext)
 (wRet (wVar 2))))

theorem p__law_condition : ∀ as Qd, wf__law_condition as Qd → w__law_condition (startD ["_law_box", "_law_names", "_law_condition_here", "_law_k"] as) { nx := fun _ => Qd .non, rt := fun d _ => Qd d } := fun as Qd h => by
  unfold wf__law_condition at h
  split at h
  · obtain ⟨ns, rfl, hs, q⟩ := h
    show w__law_condition [.bx, .sh (.lst (ns.map D.str)), .no, .no] _
    simp only [w__law_condition, ↓za, ↓zb, ↓zc, ↓zd, ↓ze, ↓zf, ↓zg, ↓zh, ↓zi, ↓zj, ↓zk, ↓zl, ↓zm, ↓zn, ↓zo, ↓zp, ↓zq, ↓zr, ↓zt, ↓zu, ↓zv, ↓zw, ↓zx, ↓zy, ↓zz, ↓z3, ↓z7, ↓z8, ↓z9, ↓zA, ↓zB, ↓zC, ↓zD, ↓zE, ↓zF, ↓zG, ↓zH, ↓zI, ↓zJ, ↓zK, ↓zL, ↓zM, ↓zN, ↓zO, ↓zP, ↓zQ, ↓zR, ↓zS, ↓zT, ↓zU, ↓zV, ↓zW, ↓zX, ↓zY, ↓zZ, ↓xa, ↓xb, ↓xf, ↓xg, ↓xh, ↓xi, ↓xj, ↓xk, ↓xl, ↓xm, ↓xo, ↓xq, ↓xt, ↓xu, ↓xw, ↓xy, ↓xz, ↓x5, ↓x6, ↓x7, ↓x8, ↓x9, ↓xB, ↓xD, ↓xE, ↓xF, ↓xG, ↓xH, ↓xI, ↓xJ, ↓xK, ↓xL, ↓xM, ↓xN, ↓xO, xP, xQ, ↓xR, ↓xS, ↓xT, ↓xU, ↓xV, ↓xW, ↓xX, ↓xY, ↓xZ, ↓qb, ↓qc, ↓qd, ↓qf, ↓qg, ↓qh, ↓qi, ↓qj, ↓qk, dLt, dLe, dGt, dGe, ql, qm, qo, qp, qq, dI2, qr, qt, dEq, dNe, qu, qv, qw, qx, qy, qz, q8, q9, qA, qB, Option.some.injEq, qC, qD, qE, qF, qG, dIs, qH, qI, shs, kiC, qJ, qK, obD, id_eq, List.getElem?_cons_zero, List.getElem?_cons_succ, List.set_cons_zero, List.set_cons_succ, List.length_cons, List.length_nil, D.bl.injEq, exists_eq_left', decide_eq_true_eq, decide_eq_false_iff_not, Bool.not_eq_true', Bool.not_eq_false', Nat.zero_add, Nat.reduceAdd, true_and, and_true, forall_const, reduceCtorEq, not_true_eq_false, not_false_eq_true, false_implies, true_implies, implies_true, qL, Nat.reduceLeDiff, Int.reduceLE, Int.reduceLT, Int.reduceNeg, Int.reducePow, Int.reduceAdd, Int.reduceSub, Int.reduceMul]
    refine dNe_nil hs ⟨_, rfl, fun e => ?_, fun e => ?_⟩
    · simp only [↓za, ↓zb, ↓zc, ↓zd, ↓ze, ↓zf, ↓zg, ↓zh, ↓zi, ↓zj, ↓zk, ↓zl, ↓zm, ↓zn, ↓zo, ↓zp, ↓zq, ↓zr, ↓zt, ↓zu, ↓zv, ↓zw, ↓zx, ↓zy, ↓zz, ↓z3, ↓z7, ↓z8, ↓z9, ↓zA, ↓zB, ↓zC, ↓zD, ↓zE, ↓zF, ↓zG, ↓zH, ↓zI, ↓zJ, ↓zK, ↓zL, ↓zM, ↓zN, ↓zO, ↓zP, ↓zQ, ↓zR, ↓zS, ↓zT, ↓zU, ↓zV, ↓zW, ↓zX, ↓zY, ↓zZ, ↓xa, ↓xb, ↓xf, ↓xg, ↓xh, ↓xi, ↓xj, ↓xk, ↓xl, ↓xm, ↓xo, ↓xq, ↓xt, ↓xu, ↓xw, ↓xy, ↓xz, ↓x5, ↓x6, ↓x7, ↓x8, ↓x9, ↓xB, ↓xD, ↓xE, ↓xF, ↓xG, ↓xH, ↓xI, ↓xJ, ↓xK, ↓xL, ↓xM, ↓xN, ↓xO, xP, xQ, ↓xR, ↓xS, ↓xT, ↓xU, ↓xV, ↓xW, ↓xX, ↓xY, ↓xZ, ↓qb, ↓qc, ↓qd, ↓qf, ↓qg, ↓qh, ↓qi, ↓qj, ↓qk, dLt, dLe, dGt, dGe, ql, qm, qo, qp, qq, dI2, qr, qt, dEq, dNe, qu, qv, qw, qx, qy, qz, q8, q9, qA, qB, Option.some.injEq, qC, qD, qE, qF, qG, dIs, qH, qI, shs, kiC, qJ, qK, obD, id_eq, List.getElem?_cons_zero, List.getElem?_cons_succ, List.set_cons_zero, List.set_cons_succ, List.length_cons, List.length_nil, D.bl.injEq, exists_eq_left', decide_eq_true_eq, decide_eq_false_iff_not, Bool.not_eq_true', Bool.not_eq_false', Nat.zero_add, Nat.reduceAdd, true_and, and_true, forall_const, reduceCtorEq, not_true_eq_false, not_false_eq_true, false_implies, true_implies, implies_true, qL, Nat.reduceLeDiff, Int.reduceLE, Int.reduceLT, Int.reduceNeg, Int.reducePow, Int.reduceAdd, Int.reduceSub, Int.reduceMul, wf__law_draw]
      intro n n0 n2
      refine ⟨⟨by omega, by omega⟩, for_nat (fun j ρ => ∃ (l : List Tst) (s3 : Sl), ρ = [.bx, .sh (.lst (ns.map D.str)), .ol (l.map Tst.dd), s3] ∧ (∀ t ∈ l, t.c ∈ ns) ∧ l.length ≤ j) ?_ ?_ _ ⟨[], _, rfl, (fun t ht => nomatch ht), Nat.le_refl _⟩⟩
      · rintro j hj ρ ⟨l, s3, rfl, hl, hj2⟩ C hC
        simp only [↓za, ↓zb, ↓zc, ↓zd, ↓ze, ↓zf, ↓zg, ↓zh, ↓zi, ↓zj, ↓zk, ↓zl, ↓zm, ↓zn, ↓zo, ↓zp, ↓zq, ↓zr, ↓zt, ↓zu, ↓zv, ↓zw, ↓zx, ↓zy, ↓zz, ↓z3, ↓z7, ↓z8, ↓z9, ↓zA, ↓zB, ↓zC, ↓zD, ↓zE, ↓zF, ↓zG, ↓zH, ↓zI, ↓zJ, ↓zK, ↓zL, ↓zM, ↓zN, ↓zO, ↓zP, ↓zQ, ↓zR, ↓zS, ↓zT, ↓zU, ↓zV, ↓zW, ↓zX, ↓zY, ↓zZ, ↓xa, ↓xb, ↓xf, ↓xg, ↓xh, ↓xi, ↓xj, ↓xk, ↓xl, ↓xm, ↓xo, ↓xq, ↓xt, ↓xu, ↓xw, ↓xy, ↓xz, ↓x5, ↓x6, ↓x7, ↓x8, ↓x9, ↓xB, ↓xD, ↓xE, ↓xF, ↓xG, ↓xH, ↓xI, ↓xJ, ↓xK, ↓xL, ↓xM, ↓xN, ↓xO, xP, xQ, ↓xR, ↓xS, ↓xT, ↓xU, ↓xV, ↓xW, ↓xX, ↓xY, ↓xZ, ↓qb, ↓qc, ↓qd, ↓qf, ↓qg, ↓qh, ↓qi, ↓qj, ↓qk, dLt, dLe, dGt, dGe, ql, qm, qo, qp, qq, dI2, qr, qt, dEq, dNe, qu, qv, qw, qx, qy, qz, q8, q9, qA, qB, Option.some.injEq, qC, qD, qE, qF, qG, dIs, qH, qI, shs, kiC, qJ, qK, obD, id_eq, List.getElem?_cons_zero, List.getElem?_cons_succ, List.set_cons_zero, List.set_cons_succ, List.length_cons, List.length_nil, D.bl.injEq, exists_eq_left', decide_eq_true_eq, decide_eq_false_iff_not, Bool.not_eq_true', Bool.not_eq_false', Nat.zero_add, Nat.reduceAdd, true_and, and_true, forall_const, reduceCtorEq, not_true_eq_false, not_false_eq_true, false_implies, true_implies, implies_true, qL, Nat.reduceLeDiff, Int.reduceLE, Int.reduceLT, Int.reduceNeg, Int.reducePow, Int.reduceAdd, Int.reduceSub, Int.reduceMul, wf__law_draw, List.length_map]
        have hpos : 0 < ns.length := by cases ns with | nil => cases e | cons _ _ => simp
        refine ⟨by omega, fun r r0 r1 => ?_⟩
        obtain ⟨x, hx, e⟩ := strs_at r0 r1
        refine ⟨_, e, fun u u0 u2 => ?_⟩
        obtain ⟨sg, _, hat⟩ := sign_two u0 u2
        exact ⟨_, hat, fun v v0 v5 => ⟨by omega, hC _ ⟨l ++ [⟨x, sg, v⟩], _, by rw [List.map_append]; rfl, all_snoc hl hx, by simp; omega⟩⟩⟩
      · rintro ρ ⟨l, s3, rfl, hl, hj2⟩
        simp only [↓za, ↓zb, ↓zc, ↓zd, ↓ze, ↓zf, ↓zg, ↓zh, ↓zi, ↓zj, ↓zk, ↓zl, ↓zm, ↓zn, ↓zo, ↓zp, ↓zq, ↓zr, ↓zt, ↓zu, ↓zv, ↓zw, ↓zx, ↓zy, ↓zz, ↓z3, ↓z7, ↓z8, ↓z9, ↓zA, ↓zB, ↓zC, ↓zD, ↓zE, ↓zF, ↓zG, ↓zH, ↓zI, ↓zJ, ↓zK, ↓zL, ↓zM, ↓zN, ↓zO, ↓zP, ↓zQ, ↓zR, ↓zS, ↓zT, ↓zU, ↓zV, ↓zW, ↓zX, ↓zY, ↓zZ, ↓xa, ↓xb, ↓xf, ↓xg, ↓xh, ↓xi, ↓xj, ↓xk, ↓xl, ↓xm, ↓xo, ↓xq, ↓xt, ↓xu, ↓xw, ↓xy, ↓xz, ↓x5, ↓x6, ↓x7, ↓x8, ↓x9, ↓xB, ↓xD, ↓xE, ↓xF, ↓xG, ↓xH, ↓xI, ↓xJ, ↓xK, ↓xL, ↓xM, ↓xN, ↓xO, xP, xQ, ↓xR, ↓xS, ↓xT, ↓xU, ↓xV, ↓xW, ↓xX, ↓xY, ↓xZ, ↓qb, ↓qc, ↓qd, ↓qf, ↓qg, ↓qh, ↓qi, ↓qj, ↓qk, dLt, dLe, dGt, dGe, ql, qm, qo, qp, qq, dI2, qr, qt, dEq, dNe, qu, qv, qw, qx, qy, qz, q8, q9, qA, qB, Option.some.injEq, qC, qD, qE, qF, qG, dIs, qH, qI, shs, kiC, qJ, qK, obD, id_eq, List.getElem?_cons_zero, List.getElem?_cons_succ, List.set_cons_zero, List.set_cons_succ, List.length_cons, List.length_nil, D.bl.injEq, exists_eq_left', decide_eq_true_eq, decide_eq_false_iff_not, Bool.not_eq_true', Bool.not_eq_false', Nat.zero_add, Nat.reduceAdd, true_and, and_true, forall_const, reduceCtorEq, not_true_eq_false, not_false_eq_true, false_implies, true_implies, implies_true, qL, Nat.reduceLeDiff, Int.reduceLE, Int.reduceLT, Int.reduceNeg, Int.reducePow, Int.reduceAdd, Int.reduceSub, Int.reduceMul]
        exact q l (by omega) hl
    · exact q [] (by simp) fun t ht => nomatch ht
  · exact h.elim
/-! ### _law_amount -/
def wf__law_amount : WFn
  | [.bx], Q => ∀ a : Int, Q (.int a)
  | _, _ => False
theorem len__law_amount : ∀ as Qd, wf__law_amount as Qd → as.length = 1 := fun as Qd h => by
  unfold wf__law_amount at h
  split at h
  · rfl
  · exact h.elim

def w__law_amount : WS := (wRet (wOp dIx (wFz (wfLst (waCons (wOp ql (wCall wf__law_draw (asBox 0 (asCons (wC (.int 21)) asNil))) (wC (.int 10))) (waCons (wOp dIx (wFz (wfLst (waCons (wC (.int 0)) (waCons (wC (.int 1000)) (waCons (wUn dNeg (wC (.int 1000))) (waCons (wC (.int 7)) waNil)))))) (wCall wf__law_draw (asBox 0 (asCons (wC (.int 4)) asNil)))) waNil)))) (wUn qv (wOp dEq (wCall wf__law_draw (asBox 0 (asCons (wC (.int 6)) asNil))) (wC (.int 0))))))

theorem p__law_amount : ∀ as Qd, wf__law_amount as Qd → w__law_amount (startD ["_law_box"] as) { nx := fun _ => Qd .non, rt := fun d _ => Qd d } := fun as Qd h => by
  unfold wf__law_amount at h
  split at h
  · show w__law_amount [.bx] _
    simp only [w__law_amount, ↓za, ↓zb, ↓zc, ↓zd, ↓ze, ↓zf, ↓zg, ↓zh, ↓zi, ↓zj, ↓zk, ↓zl, ↓zm, ↓zn, ↓zo, ↓zp, ↓zq, ↓zr, ↓zt, ↓zu, ↓zv, ↓zw, ↓zx, ↓zy, ↓zz, ↓z3, ↓z7, ↓z8, ↓z9, ↓zA, ↓zB, ↓zC, ↓zD, ↓zE, ↓zF, ↓zG, ↓zH, ↓zI, ↓zJ, ↓zK, ↓zL, ↓zM, ↓zN, ↓zO, ↓zP, ↓zQ, ↓zR, ↓zS, ↓zT, ↓zU, ↓zV, ↓zW, ↓zX, ↓zY, ↓zZ, ↓xa, ↓xb, ↓xf, ↓xg, ↓xh, ↓xi, ↓xj, ↓xk, ↓xl, ↓xm, ↓xo, ↓xq, ↓xt, ↓xu, ↓xw, ↓xy, ↓xz, ↓x5, ↓x6, ↓x7, ↓x8, ↓x9, ↓xB, ↓xD, ↓xE, ↓xF, ↓xG, ↓xH, ↓xI, ↓xJ, ↓xK, ↓xL, ↓xM, ↓xN, ↓xO, xP, xQ, ↓xR, ↓xS, ↓xT, ↓xU, ↓xV, ↓xW, ↓xX, ↓xY, ↓xZ, ↓qb, ↓qc, ↓qd, ↓qf, ↓qg, ↓qh, ↓qi, ↓qj, ↓qk, dLt, dLe, dGt, dGe, ql, qm, qo, qp, qq, dI2, qr, qt, dEq, dNe, qu, qv, qw, qx, qy, qz, q8, q9, qA, qB, Option.some.injEq, qC, qD, qE, qF, qG, dIs, qH, qI, shs, kiC, qJ, qK, obD, id_eq, List.getElem?_cons_zero, List.getElem?_cons_succ, List.set_cons_zero, List.set_cons_succ, List.length_cons, List.length_nil, D.bl.injEq, exists_eq_left', decide_eq_true_eq, decide_eq_false_iff_not, Bool.not_eq_true', Bool.not_eq_false', Nat.zero_add, Nat.reduceAdd, true_and, and_true, forall_const, reduceCtorEq, not_true_eq_false, not_false_eq_true, false_implies, true_implies, implies_true, qL, Nat.reduceLeDiff, Int.reduceLE, Int.reduceLT, Int.reduceNeg, Int.reducePow, Int.reduceAdd, Int.reduceSub, Int.reduceMul, wf__law_draw]
    intro r r0 r1
    show ∀ r_1 : Int, 0 ≤ r_1 → r_1 < 4 → ∃ d_1, atI [D.int 0, .int 1000, .int (-1000), .int 7] r_1 = some d_1 ∧ _
    intro s s0 s4
    obtain ⟨d, hd, e⟩ := atI_mem (l := [D.int 0, .int 1000, .int (-1000), .int 7]) s0 s4
    have hi : ∃ i : Int, d = .int i := by
      simp only [List.mem_cons, List.not_mem_nil, or_false] at hd
      rcases hd with rfl | rfl | rfl | rfl <;> exact ⟨_, rfl⟩
    obtain ⟨i, rfl⟩ := hi
    refine ⟨_, e, fun t t0 t6 => ?_⟩
    show dIx (.lst [.int (r - 10), .int i]) (.int (if decide (t = 0) = true then 1 else 0)) Qd
    by_cases z : t = 0
    · rw [if_pos (decide_eq_true z)]; exact ⟨_, rfl, h _⟩
    · rw [if_neg (by simpa using z)]; exact ⟨_, rfl, h _⟩
  · exact h.elim
theorem cap_at {r : Int} (h0 : 0 ≤ r) (h5 : r < 5) : ∃ i : Int, 1 ≤ i ∧ i ≤ 20 ∧ atI [D.int 1, .int 2, .int 3, .int 4, .int 20] r = some (.int i) := by
  have h : r = 0 ∨ r = 1 ∨ r = 2 ∨ r = 3 ∨ r = 4 := by omega
  rcases h with rfl | rfl | rfl | rfl | rfl
  · exact ⟨1, by decide, by decide, rfl⟩
  · exact ⟨2, by decide, by decide, rfl⟩
  · exact ⟨3, by decide, by decide, rfl⟩
  · exact ⟨4, by decide, by decide, rfl⟩
  · exact ⟨20, by decide, by decide, rfl⟩
theorem name_at {k : Nat} (h : k = 0 ∨ k = 1 ∨ k = 2) : ∃ nm : Str, atI [D.str "years", .str "gap", .str "and"] (k : Int) = some (.str nm) ∧ (["years", "gap", "and"] : List Str).take k ++ [nm] = (["years", "gap", "and"] : List Str).take (k + 1) := by
  rcases h with rfl | rfl | rfl
  · exact ⟨_, rfl, rfl⟩
  · exact ⟨_, rfl, rfl⟩
  · exact ⟨_, rfl, rfl⟩
theorem putA_str {xs : List Str} {ds : List D} {f : Str} {y : D} (h : f ∉ xs) : putA (xs.map Sum.inr : List Key) ds (.inr f) y = ((xs ++ [f]).map Sum.inr, ds ++ [y]) := by
  unfold putA
  rw [if_neg, List.map_append]
  · rfl
  · intro z
    obtain ⟨x, hx, e⟩ := List.mem_map.mp z
    exact h (by rw [← Sum.inr.inj e]; exact hx)
/-! ### _law_facts -/
/-- a list of facts: unlike ones -/
def goodR (fs : List Str) : Prop := fs.Nodup ∧ 1 ≤ fs.length ∧ fs.length ≤ 3 ∧ ∀ f ∈ fs, PyData.strOk f = true
def wf__law_facts : WFn
  | [.bx], Q => ∀ fs : List Str, goodR fs → Q (.lst (fs.map D.str))
  | _, _ => False
theorem len__law_facts : ∀ as Qd, wf__law_facts as Qd → as.length = 1 := fun as Qd h => by
  unfold wf__law_facts at h
  split at h
  · rfl
  · exact h.elim
theorem goodR1 : goodR ["full"] := by unfold goodR; decide +kernel
theorem goodR2 : goodR ["full", "half"] := by unfold goodR; decide +kernel
theorem goodR3 : goodR ["none", "full", "half"] := by unfold goodR; decide +kernel
theorem goodR4 : goodR ["if", "reset"] := by unfold goodR; decide +kernel

def w__law_facts : WS := (wRet (wOp dIx (wFz (wfLst (waCons (wFz (wfLst (waCons (wC (.str "full")) waNil))) (waCons (wFz (wfLst (waCons (wC (.str "full")) (waCons (wC (.str "half")) waNil)))) (waCons (wFz (wfLst (waCons (wC (.str "none")) (waCons (wC (.str "full")) (waCons (wC (.str "half")) waNil))))) (waCons (wFz (wfLst (waCons (wC (.str "if")) (waCons (wC (.str "reset")) waNil)))) waNil)))))) (wCall wf__law_draw (asBox 0 (asCons (wC (.int 4)) asNil)))))

theorem p__law_facts : ∀ as Qd, wf__law_facts as Qd → w__law_facts (startD ["_law_box"] as) { nx := fun _ => Qd .non, rt := fun d _ => Qd d } := fun as Qd h => by
  unfold wf__law_facts at h
  split at h
  · show w__law_facts [.bx] _
    simp only [w__law_facts, ↓za, ↓zb, ↓zc, ↓zd, ↓ze, ↓zf, ↓zg, ↓zh, ↓zi, ↓zj, ↓zk, ↓zl, ↓zm, ↓zn, ↓zo, ↓zp, ↓zq, ↓zr, ↓zt, ↓zu, ↓zv, ↓zw, ↓zx, ↓zy, ↓zz, ↓z3, ↓z7, ↓z8, ↓z9, ↓zA, ↓zB, ↓zC, ↓zD, ↓zE, ↓zF, ↓zG, ↓zH, ↓zI, ↓zJ, ↓zK, ↓zL, ↓zM, ↓zN, ↓zO, ↓zP, ↓zQ, ↓zR, ↓zS, ↓zT, ↓zU, ↓zV, ↓zW, ↓zX, ↓zY, ↓zZ, ↓xa, ↓xb, ↓xf, ↓xg, ↓xh, ↓xi, ↓xj, ↓xk, ↓xl, ↓xm, ↓xo, ↓xq, ↓xt, ↓xu, ↓xw, ↓xy, ↓xz, ↓x5, ↓x6, ↓x7, ↓x8, ↓x9, ↓xB, ↓xD, ↓xE, ↓xF, ↓xG, ↓xH, ↓xI, ↓xJ, ↓xK, ↓xL, ↓xM, ↓xN, ↓xO, xP, xQ, ↓xR, ↓xS, ↓xT, ↓xU, ↓xV, ↓xW, ↓xX, ↓xY, ↓xZ, ↓qb, ↓qc, ↓qd, ↓qf, ↓qg, ↓qh, ↓qi, ↓qj, ↓qk, dLt, dLe, dGt, dGe, ql, qm, qo, qp, qq, dI2, qr, qt, dEq, dNe, qu, qv, qw, qx, qy, qz, q8, q9, qA, qB, Option.some.injEq, qC, qD, qE, qF, qG, dIs, qH, qI, shs, kiC, qJ, qK, obD, id_eq, List.getElem?_cons_zero, List.getElem?_cons_succ, List.set_cons_zero, List.set_cons_succ, List.length_cons, List.length_nil, D.bl.injEq, exists_eq_left', decide_eq_true_eq, decide_eq_false_iff_not, Bool.not_eq_true', Bool.not_eq_false', Nat.zero_add, Nat.reduceAdd, true_and, and_true, forall_const, reduceCtorEq, not_true_eq_false, not_false_eq_true, false_implies, true_implies, implies_true, qL, Nat.reduceLeDiff, Int.reduceLE, Int.reduceLT, Int.reduceNeg, Int.reducePow, Int.reduceAdd, Int.reduceSub, Int.reduceMul, wf__law_draw]
    intro r r0 r1
    obtain ⟨d, hd, e⟩ := atI_mem (l := [D.lst [.str "full"], .lst [.str "full", .str "half"], .lst [.str "none", .str "full", .str "half"], .lst [.str "if", .str "reset"]]) r0 r1
    refine ⟨d, e, ?_⟩
    simp only [List.mem_cons, List.not_mem_nil, or_false] at hd
    rcases hd with rfl | rfl | rfl | rfl
    · exact h _ goodR1
    · exact h _ goodR2
    · exact h _ goodR3
    · exact h _ goodR4
  · exact h.elim

/-! ### _law_counters -/
structure CtrsOk (fs : List Str) (cs : List Ctr) : Prop where
  nm : cs.map (·.nm) = (["years", "gap", "and"] : List Str).take cs.length
  st : ∀ c ∈ cs, c.st.length = c.fs.length ∧ c.fs.Nodup ∧ 1 ≤ c.cap ∧ c.cap ≤ 20 ∧ (∀ x ∈ c.fs, x ∈ fs) ∧ ∀ i, some i ∈ c.st → 1 ≤ i ∧ i ≤ 3
def wf__law_counters : WFn
  | [.bx, .sh (.lst ds)], Q => ∃ fs : List Str, ds = fs.map D.str ∧ goodR fs ∧ ∀ cs : List Ctr, cs.length ≤ 3 → CtrsOk fs cs → Q (.lst (cs.map Ctr.dd))
  | _, _ => False
theorem len__law_counters : ∀ as Qd, wf__law_counters as Qd → as.length = 2 := fun as Qd h => by
  unfold wf__law_counters at h
  split at h
  · rfl
  · exact h.elim

def w__law_counters : WS := (wSeq (wAsgO (wfLst waNil) 2)
 (wSeq (wFor (wRg1 (waCons (wCall wf__law_draw (asBox 0 (asCons (wC (.int 4)) asNil))) waNil)) (wSt 7)
 (wSeq (wAsg (wOp dIx (wFz (wfLst (waCons (wC (.int 1)) (waCons (wC (.int 2)) (waCons (wC (.int 3)) (waCons (wC (.int 4)) (waCons (wC (.int 20)) waNil))))))) (wCall wf__law_draw (asBox 0 (asCons (wC (.int 5)) asNil)))) (wSt 3))
 (wSeq (wAsgO wfDk 4)
 (wSeq (wFor (wItL (wVar 1)) (wSt 6)
 (wSeq (wAsg (wCall wf__law_draw (asBox 0 (asCons (wC (.int 4)) asNil))) (wSt 5))
 (wSeq (wIf (wTst (wOp dLt (wPk 5) (wC (.int 2))))
 (wPut 4 (wVar 6) (wOp qt (wC (.int 1)) (wCall wf__law_draw (asBox 0 (asCons (wOp qE (wPk 3) (wC (.int 3))) asNil)))))
 wNext)
 (wIf (wTst (wOp dEq (wPk 5) (wC (.int 2))))
 (wPut 4 (wVar 6) (wC (.str "reset")))
 wNext))))
 (wApp 2 (wTup (waCons (wOp dIx (wFz (wfLst (waCons (wC (.str "years")) (waCons (wC (.str "gap")) (waCons (wC (.str "and")) waNil))))) (wPk 7)) (waCons (wVar 3) (waCons (wVar 4) waNil)))))))))
 (wRet (wVar 2))))

theorem p__law_counters : ∀ as Qd, wf__law_counters as Qd → w__law_counters (startD ["_law_box", "_law_facts_here", "_law_counters_here", "_law_cap", "_law_steps", "_law_way", "_law_fact", "_law_k"] as) { nx := fun _ => Qd .non, rt := fun d _ => Qd d } := fun as Qd h => by
  unfold wf__law_counters at h
  split at h
  · obtain ⟨fs, rfl, hg, q⟩ := h
    show w__law_counters [.bx, .sh (.lst (fs.map D.str)), .no, .no, .no, .no, .no, .no] _
    simp only [w__law_counters, ↓za, ↓zb, ↓zc, ↓zd, ↓ze, ↓zf, ↓zg, ↓zh, ↓zi, ↓zj, ↓zk, ↓zl, ↓zm, ↓zn, ↓zo, ↓zp, ↓zq, ↓zr, ↓zt, ↓zu, ↓zv, ↓zw, ↓zx, ↓zy, ↓zz, ↓z3, ↓z7, ↓z8, ↓z9, ↓zA, ↓zB, ↓zC, ↓zD, ↓zE, ↓zF, ↓zG, ↓zH, ↓zI, ↓zJ, ↓zK, ↓zL, ↓zM, ↓zN, ↓zO, ↓zP, ↓zQ, ↓zR, ↓zS, ↓zT, ↓zU, ↓zV, ↓zW, ↓zX, ↓zY, ↓zZ, ↓xa, ↓xb, ↓xf, ↓xg, ↓xh, ↓xi, ↓xj, ↓xk, ↓xl, ↓xm, ↓xo, ↓xq, ↓xt, ↓xu, ↓xw, ↓xy, ↓xz, ↓x5, ↓x6, ↓x7, ↓x8, ↓x9, ↓xB, ↓xD, ↓xE, ↓xF, ↓xG, ↓xH, ↓xI, ↓xJ, ↓xK, ↓xL, ↓xM, ↓xN, ↓xO, xP, xQ, ↓xR, ↓xS, ↓xT, ↓xU, ↓xV, ↓xW, ↓xX, ↓xY, ↓xZ, ↓qb, ↓qc, ↓qd, ↓qf, ↓qg, ↓qh, ↓qi, ↓qj, ↓qk, dLt, dLe, dGt, dGe, ql, qm, qo, qp, qq, dI2, qr, qt, dEq, dNe, qu, qv, qw, qx, qy, qz, q8, q9, qA, qB, Option.some.injEq, qC, qD, qE, qF, qG, dIs, qH, qI, shs, kiC, qJ, qK, obD, id_eq, List.getElem?_cons_zero, List.getElem?_cons_succ, List.set_cons_zero, List.set_cons_succ, List.length_cons, List.length_nil, D.bl.injEq, exists_eq_left', decide_eq_true_eq, decide_eq_false_iff_not, Bool.not_eq_true', Bool.not_eq_false', Nat.zero_add, Nat.reduceAdd, true_and, and_true, forall_const, reduceCtorEq, not_true_eq_false, not_false_eq_true, false_implies, true_implies, implies_true, qL, Nat.reduceLeDiff, Int.reduceLE, Int.reduceLT, Int.reduceNeg, Int.reducePow, Int.reduceAdd, Int.reduceSub, Int.reduceMul, wf__law_draw]
    intro n n0 n4
    refine ⟨⟨by omega, by omega⟩, for_nat (fun k ρ => ∃ (cs : List Ctr) (s3 s4 s5 s6 s7 : Sl), ρ = [.bx, .sh (.lst (fs.map D.str)), .ol (cs.map Ctr.dd), s3, s4, s5, s6, s7] ∧ cs.length = k ∧ CtrsOk fs cs ∧ ((∃ d, s4 = .sh d) ∨ s4 = .no)) ?_ ?_ _ ⟨[], _, _, _, _, _, rfl, rfl, ⟨rfl, fun c hc => nomatch hc⟩, .inr rfl⟩⟩
    · rintro k hk ρ ⟨cs, s3, s4, s5, s6, s7, rfl, hk2, hcs, h4⟩ C hC
      simp only [↓za, ↓zb, ↓zc, ↓zd, ↓ze, ↓zf, ↓zg, ↓zh, ↓zi, ↓zj, ↓zk, ↓zl, ↓zm, ↓zn, ↓zo, ↓zp, ↓zq, ↓zr, ↓zt, ↓zu, ↓zv, ↓zw, ↓zx, ↓zy, ↓zz, ↓z3, ↓z7, ↓z8, ↓z9, ↓zA, ↓zB, ↓zC, ↓zD, ↓zE, ↓zF, ↓zG, ↓zH, ↓zI, ↓zJ, ↓zK, ↓zL, ↓zM, ↓zN, ↓zO, ↓zP, ↓zQ, ↓zR, ↓zS, ↓zT, ↓zU, ↓zV, ↓zW, ↓zX, ↓zY, ↓zZ, ↓xa, ↓xb, ↓xf, ↓xg, ↓xh, ↓xi, ↓xj, ↓xk, ↓xl, ↓xm, ↓xo, ↓xq, ↓xt, ↓xu, ↓xw, ↓xy, ↓xz, ↓x5, ↓x6, ↓x7, ↓x8, ↓x9, ↓xB, ↓xD, ↓xE, ↓xF, ↓xG, ↓xH, ↓xI, ↓xJ, ↓xK, ↓xL, ↓xM, ↓xN, ↓xO, xP, xQ, ↓xR, ↓xS, ↓xT, ↓xU, ↓xV, ↓xW, ↓xX, ↓xY, ↓xZ, ↓qb, ↓qc, ↓qd, ↓qf, ↓qg, ↓qh, ↓qi, ↓qj, ↓qk, dLt, dLe, dGt, dGe, ql, qm, qo, qp, qq, dI2, qr, qt, dEq, dNe, qu, qv, qw, qx, qy, qz, q8, q9, qA, qB, Option.some.injEq, qC, qD, qE, qF, qG, dIs, qH, qI, shs, kiC, qJ, qK, obD, id_eq, List.getElem?_cons_zero, List.getElem?_cons_succ, List.set_cons_zero, List.set_cons_succ, List.length_cons, List.length_nil, D.bl.injEq, exists_eq_left', decide_eq_true_eq, decide_eq_false_iff_not, Bool.not_eq_true', Bool.not_eq_false', Nat.zero_add, Nat.reduceAdd, true_and, and_true, forall_const, reduceCtorEq, not_true_eq_false, not_false_eq_true, false_implies, true_implies, implies_true, qL, Nat.reduceLeDiff, Int.reduceLE, Int.reduceLT, Int.reduceNeg, Int.reducePow, Int.reduceAdd, Int.reduceSub, Int.reduceMul, wf__law_draw]
      intro r r0 r5
      obtain ⟨cap, hc1, hc2, e⟩ := cap_at r0 r5
      refine ⟨_, e, ?_⟩
      refine for_pre (fun dn ρ => ∃ (xs : List Str) (st : List (Option Int)) (s5 s6 : Sl), ρ = [.bx, .sh (.lst (fs.map D.str)), .ol (cs.map Ctr.dd), .sh (.int cap), .ok (xs.map .inr) (st.map stD), s5, s6, .sh (.int (k : Nat))] ∧ st.length = xs.length ∧ xs.Nodup ∧ (∀ x ∈ xs, x ∈ dn) ∧ (∀ i, some i ∈ st → 1 ≤ i ∧ i ≤ 3) ∧ xs.length ≤ dn.length) ?_ ?_ _ ⟨[], [], _, _, rfl, rfl, List.nodup_nil, (fun x hx => nomatch hx), (fun i hi => nomatch hi), Nat.le_refl _⟩
      · rintro dn f rest e2 ρ ⟨xs, st, s5, s6, rfl, hl, hnd, hsub, hst, hxl⟩ C2 hC2
        have hf : f ∉ xs := fun z => by
          have := hg.1
          rw [e2, List.nodup_append] at this
          exact this.2.2 f (hsub f z) f List.mem_cons_self rfl
        have hlen : xs.length < 16777216 := by
          have h3 := hg.2.2.1
          rw [e2, List.length_append] at h3
          omega
        have hput : ∀ o : Option Int, putA (xs.map Sum.inr : List Key) (st.map stD) (.inr f) (stD o) = ((xs ++ [f]).map Sum.inr, (st ++ [o]).map stD) := fun o => by rw [putA_str hf, List.map_append, List.map_append]; rfl
        have hfin : ∀ (o : Option Int) (r : Int), (∀ i, o = some i → 1 ≤ i ∧ i ≤ 3) → C2 [.bx, .sh (.lst (fs.map D.str)), .ol (cs.map Ctr.dd), .sh (.int cap), .ok ((xs ++ [f]).map Sum.inr) ((st ++ [o]).map stD), .sh (.int r), .sh (.str f), .sh (.int (k : Nat))] := fun o r ho =>
          hC2 _ ⟨xs ++ [f], st ++ [o], _, _, rfl, by rw [List.length_append, List.length_append, hl]; rfl, by
            rw [List.nodup_append]
            exact ⟨hnd, by simp, fun a ha b hb e => hf (by rw [List.mem_singleton.mp hb] at e; rw [← e]; exact ha)⟩, all_snoc (fun x hx => List.mem_append_left _ (hsub x hx)) (List.mem_append_right _ List.mem_cons_self), fun i hi => by
            rcases List.mem_append.mp hi with z | z
            · exact hst i z
            · exact ho i (List.mem_singleton.mp z).symm, by rw [List.length_append, List.length_append]; simp; omega⟩
        simp only [↓za, ↓zb, ↓zc, ↓zd, ↓ze, ↓zf, ↓zg, ↓zh, ↓zi, ↓zj, ↓zk, ↓zl, ↓zm, ↓zn, ↓zo, ↓zp, ↓zq, ↓zr, ↓zt, ↓zu, ↓zv, ↓zw, ↓zx, ↓zy, ↓zz, ↓z3, ↓z7, ↓z8, ↓z9, ↓zA, ↓zB, ↓zC, ↓zD, ↓zE, ↓zF, ↓zG, ↓zH, ↓zI, ↓zJ, ↓zK, ↓zL, ↓zM, ↓zN, ↓zO, ↓zP, ↓zQ, ↓zR, ↓zS, ↓zT, ↓zU, ↓zV, ↓zW, ↓zX, ↓zY, ↓zZ, ↓xa, ↓xb, ↓xf, ↓xg, ↓xh, ↓xi, ↓xj, ↓xk, ↓xl, ↓xm, ↓xo, ↓xq, ↓xt, ↓xu, ↓xw, ↓xy, ↓xz, ↓x5, ↓x6, ↓x7, ↓x8, ↓x9, ↓xB, ↓xD, ↓xE, ↓xF, ↓xG, ↓xH, ↓xI, ↓xJ, ↓xK, ↓xL, ↓xM, ↓xN, ↓xO, xP, xQ, ↓xR, ↓xS, ↓xT, ↓xU, ↓xV, ↓xW, ↓xX, ↓xY, ↓xZ, ↓qb, ↓qc, ↓qd, ↓qf, ↓qg, ↓qh, ↓qi, ↓qj, ↓qk, dLt, dLe, dGt, dGe, ql, qm, qo, qp, qq, dI2, qr, qt, dEq, dNe, qu, qv, qw, qx, qy, qz, q8, q9, qA, qB, Option.some.injEq, qC, qD, qE, qF, qG, dIs, qH, qI, shs, kiC, qJ, qK, obD, id_eq, List.getElem?_cons_zero, List.getElem?_cons_succ, List.set_cons_zero, List.set_cons_succ, List.length_cons, List.length_nil, D.bl.injEq, exists_eq_left', decide_eq_true_eq, decide_eq_false_iff_not, Bool.not_eq_true', Bool.not_eq_false', Nat.zero_add, Nat.reduceAdd, true_and, and_true, forall_const, reduceCtorEq, not_true_eq_false, not_false_eq_true, false_implies, true_implies, implies_true, qL, Nat.reduceLeDiff, Int.reduceLE, Int.reduceLT, Int.reduceNeg, Int.reducePow, Int.reduceAdd, Int.reduceSub, Int.reduceMul, wf__law_draw, List.length_map]
        intro r r0 r4
        refine ⟨fun r2 => ⟨by split <;> omega, fun u u0 u1 => ⟨⟨_, rfl, True.intro⟩, _, rfl, hlen, ?_⟩⟩, fun r2 => ?_⟩
        · show ∃ b, D.bl (decide (r = 2)) = D.bl b ∧ _
          refine ⟨_, rfl, fun e => absurd (of_decide_eq_true e) (by omega), fun _ => ?_⟩
          have hp := hput (some (1 + u))
          have hp : putA (xs.map Sum.inr : List Key) (st.map stD) (.inr f) (.int (1 + u)) = ((xs ++ [f]).map Sum.inr, (st ++ [some (1 + u)]).map stD) := hp
          rw [hp]
          exact hfin _ r fun i hi => by cases hi; split at u1 <;> omega
        · show ∃ b, D.bl (decide (r = 2)) = D.bl b ∧ _
          refine ⟨_, rfl, fun e => ⟨⟨_, rfl, True.intro⟩, _, rfl, hlen, ?_⟩, fun _ => hC2 _ ⟨xs, st, _, _, rfl, hl, hnd, fun x hx => List.mem_append_left _ (hsub x hx), hst, by rw [List.length_append]; omega⟩⟩
          have hp : putA (xs.map Sum.inr : List Key) (st.map stD) (.inr f) (.str "reset") = ((xs ++ [f]).map Sum.inr, (st ++ [none]).map stD) := hput none
          rw [hp]
          exact hfin none r fun i hi => nomatch hi
      · rintro ρ ⟨xs, st, s5, s6, rfl, hl, hnd, hsub, hst, hxl⟩
        simp only [↓za, ↓zb, ↓zc, ↓zd, ↓ze, ↓zf, ↓zg, ↓zh, ↓zi, ↓zj, ↓zk, ↓zl, ↓zm, ↓zn, ↓zo, ↓zp, ↓zq, ↓zr, ↓zt, ↓zu, ↓zv, ↓zw, ↓zx, ↓zy, ↓zz, ↓z3, ↓z7, ↓z8, ↓z9, ↓zA, ↓zB, ↓zC, ↓zD, ↓zE, ↓zF, ↓zG, ↓zH, ↓zI, ↓zJ, ↓zK, ↓zL, ↓zM, ↓zN, ↓zO, ↓zP, ↓zQ, ↓zR, ↓zS, ↓zT, ↓zU, ↓zV, ↓zW, ↓zX, ↓zY, ↓zZ, ↓xa, ↓xb, ↓xf, ↓xg, ↓xh, ↓xi, ↓xj, ↓xk, ↓xl, ↓xm, ↓xo, ↓xq, ↓xt, ↓xu, ↓xw, ↓xy, ↓xz, ↓x5, ↓x6, ↓x7, ↓x8, ↓x9, ↓xB, ↓xD, ↓xE, ↓xF, ↓xG, ↓xH, ↓xI, ↓xJ, ↓xK, ↓xL, ↓xM, ↓xN, ↓xO, xP, xQ, ↓xR, ↓xS, ↓xT, ↓xU, ↓xV, ↓xW, ↓xX, ↓xY, ↓xZ, ↓qb, ↓qc, ↓qd, ↓qf, ↓qg, ↓qh, ↓qi, ↓qj, ↓qk, dLt, dLe, dGt, dGe, ql, qm, qo, qp, qq, dI2, qr, qt, dEq, dNe, qu, qv, qw, qx, qy, qz, q8, q9, qA, qB, Option.some.injEq, qC, qD, qE, qF, qG, dIs, qH, qI, shs, kiC, qJ, qK, obD, id_eq, List.getElem?_cons_zero, List.getElem?_cons_succ, List.set_cons_zero, List.set_cons_succ, List.length_cons, List.length_nil, D.bl.injEq, exists_eq_left', decide_eq_true_eq, decide_eq_false_iff_not, Bool.not_eq_true', Bool.not_eq_false', Nat.zero_add, Nat.reduceAdd, true_and, and_true, forall_const, reduceCtorEq, not_true_eq_false, not_false_eq_true, false_implies, true_implies, implies_true, qL, Nat.reduceLeDiff, Int.reduceLE, Int.reduceLT, Int.reduceNeg, Int.reducePow, Int.reduceAdd, Int.reduceSub, Int.reduceMul]
        have h3 := hg.2.2.1
        have hk3 : k = 0 ∨ k = 1 ∨ k = 2 := by omega
        obtain ⟨nm, hat, htk⟩ := name_at hk3
        refine ⟨_, hat, by rw [List.length_map]; omega, hC _ ⟨cs ++ [⟨nm, cap, xs, st⟩], _, _, _, _, _, by rw [List.map_append]; rfl, by rw [List.length_append, hk2]; rfl, ⟨?_, ?_⟩, .inl ⟨_, rfl⟩⟩⟩
        · rw [List.map_append, hcs.nm, List.length_append, hk2]; exact htk
        · exact all_snoc hcs.st ⟨hl, hnd, hc1, hc2, hsub, hst⟩
    · rintro ρ ⟨cs, s3, s4, s5, s6, s7, rfl, hk2, hcs, h4⟩
      simp only [↓za, ↓zb, ↓zc, ↓zd, ↓ze, ↓zf, ↓zg, ↓zh, ↓zi, ↓zj, ↓zk, ↓zl, ↓zm, ↓zn, ↓zo, ↓zp, ↓zq, ↓zr, ↓zt, ↓zu, ↓zv, ↓zw, ↓zx, ↓zy, ↓zz, ↓z3, ↓z7, ↓z8, ↓z9, ↓zA, ↓zB, ↓zC, ↓zD, ↓zE, ↓zF, ↓zG, ↓zH, ↓zI, ↓zJ, ↓zK, ↓zL, ↓zM, ↓zN, ↓zO, ↓zP, ↓zQ, ↓zR, ↓zS, ↓zT, ↓zU, ↓zV, ↓zW, ↓zX, ↓zY, ↓zZ, ↓xa, ↓xb, ↓xf, ↓xg, ↓xh, ↓xi, ↓xj, ↓xk, ↓xl, ↓xm, ↓xo, ↓xq, ↓xt, ↓xu, ↓xw, ↓xy, ↓xz, ↓x5, ↓x6, ↓x7, ↓x8, ↓x9, ↓xB, ↓xD, ↓xE, ↓xF, ↓xG, ↓xH, ↓xI, ↓xJ, ↓xK, ↓xL, ↓xM, ↓xN, ↓xO, xP, xQ, ↓xR, ↓xS, ↓xT, ↓xU, ↓xV, ↓xW, ↓xX, ↓xY, ↓xZ, ↓qb, ↓qc, ↓qd, ↓qf, ↓qg, ↓qh, ↓qi, ↓qj, ↓qk, dLt, dLe, dGt, dGe, ql, qm, qo, qp, qq, dI2, qr, qt, dEq, dNe, qu, qv, qw, qx, qy, qz, q8, q9, qA, qB, Option.some.injEq, qC, qD, qE, qF, qG, dIs, qH, qI, shs, kiC, qJ, qK, obD, id_eq, List.getElem?_cons_zero, List.getElem?_cons_succ, List.set_cons_zero, List.set_cons_succ, List.length_cons, List.length_nil, D.bl.injEq, exists_eq_left', decide_eq_true_eq, decide_eq_false_iff_not, Bool.not_eq_true', Bool.not_eq_false', Nat.zero_add, Nat.reduceAdd, true_and, and_true, forall_const, reduceCtorEq, not_true_eq_false, not_false_eq_true, false_implies, true_implies, implies_true, qL, Nat.reduceLeDiff, Int.reduceLE, Int.reduceLT, Int.reduceNeg, Int.reducePow, Int.reduceAdd, Int.reduceSub, Int.reduceMul]
      exact q cs (by omega) hcs
  · exact h.elim
/-! ### _law_scheme -/
theorem names_take (n : Nat) : ((["years", "gap", "and"] : List Str).take n).Nodup ∧ ∀ x ∈ (["years", "gap", "and"] : List Str).take n, PyData.strOk x = true := by
  have h : (["years", "gap", "and"] : List Str).Nodup ∧ ∀ x ∈ (["years", "gap", "and"] : List Str), PyData.strOk x = true := by decide +kernel
  exact ⟨h.1.sublist (List.take_sublist n _), fun x hx => h.2 x (List.mem_of_mem_take hx)⟩
structure SchOk (r : Rl) : Prop where
  ok : r.ok
  gf : goodR r.facts
  cs : CtrsOk r.facts r.ctrs
def wf__law_scheme : WFn
  | [.bx, .sh (.lst ds)], Q => ∃ fs : List Str, ds = fs.map D.str ∧ goodR fs ∧ ∀ r : Rl, SchOk r → r.facts = fs → Q (.lst r.ds)
  | _, _ => False
theorem len__law_scheme : ∀ as Qd, wf__law_scheme as Qd → as.length = 2 := fun as Qd h => by
  unfold wf__law_scheme at h
  split at h
  · rfl
  · exact h.elim

def w__law_scheme : WS := (wSeq (wAsg (wCall wf__law_counters (asBox 0 (asCons (wVar 1) asNil))) (wSt 2))
 (wSeq (wAsg (wFz (wLc [7] (wItL (wVar 2)) (wSt 7) wYes (wOp dIx (wPk 7) (wC (.int 0))))) (wSt 3))
 (wSeq (wAsgO (wfLst waNil) 4)
 (wSeq (wFor (wRg1 (waCons (wCall wf__law_draw (asBox 0 (asCons (wC (.int 4)) asNil))) waNil)) (wSt 5)
 (wApp 4 (wTup (waCons (wCall wf__law_amount (asBox 0 asNil)) (waCons (wOp dIx (wPk 1) (wCall wf__law_draw (asBox 0 (asCons (wUn qu (wPk 1)) asNil)))) (waCons (wCall wf__law_condition (asBox 0 (asCons (wVar 3) asNil))) waNil))))))
 (wSeq (wAsgO (wfLst waNil) 6)
 (wSeq (wFor (wRg1 (waCons (wCall wf__law_draw (asBox 0 (asCons (wC (.int 3)) asNil))) waNil)) (wSt 5)
 (wApp 6 (wTup (waCons (wCall wf__law_amount (asBox 0 asNil)) (waCons (wCall wf__law_condition (asBox 0 (asCons (wVar 3) asNil))) waNil)))))
 (wRet (wFz (wfLst (waCons (wVar 1) (waCons (wVar 2) (waCons (wVar 4) (waCons (wVar 6) waNil)))))))))))))

theorem p__law_scheme : ∀ as Qd, wf__law_scheme as Qd → w__law_scheme (startD ["_law_box", "_law_facts_here", "_law_counters_here", "_law_names", "_law_gains", "_law_k", "_law_leaves", "_law_counter"] as) { nx := fun _ => Qd .non, rt := fun d _ => Qd d } := fun as Qd h => by
  unfold wf__law_scheme at h
  split at h
  · obtain ⟨fs, rfl, hg, q⟩ := h
    show w__law_scheme [.bx, .sh (.lst (fs.map D.str)), .no, .no, .no, .no, .no, .no] _
    simp only [w__law_scheme, ↓za, ↓zb, ↓zc, ↓zd, ↓ze, ↓zf, ↓zg, ↓zh, ↓zi, ↓zj, ↓zk, ↓zl, ↓zm, ↓zn, ↓zo, ↓zp, ↓zq, ↓zr, ↓zt, ↓zu, ↓zv, ↓zw, ↓zx, ↓zy, ↓zz, ↓z3, ↓z7, ↓z8, ↓z9, ↓zA, ↓zB, ↓zC, ↓zD, ↓zE, ↓zF, ↓zG, ↓zH, ↓zI, ↓zJ, ↓zK, ↓zL, ↓zM, ↓zN, ↓zO, ↓zP, ↓zQ, ↓zR, ↓zS, ↓zT, ↓zU, ↓zV, ↓zW, ↓zX, ↓zY, ↓zZ, ↓xa, ↓xb, ↓xf, ↓xg, ↓xh, ↓xi, ↓xj, ↓xk, ↓xl, ↓xm, ↓xo, ↓xq, ↓xt, ↓xu, ↓xw, ↓xy, ↓xz, ↓x5, ↓x6, ↓x7, ↓x8, ↓x9, ↓xB, ↓xD, ↓xE, ↓xF, ↓xG, ↓xH, ↓xI, ↓xJ, ↓xK, ↓xL, ↓xM, ↓xN, ↓xO, xP, xQ, ↓xR, ↓xS, ↓xT, ↓xU, ↓xV, ↓xW, ↓xX, ↓xY, ↓xZ, ↓qb, ↓qc, ↓qd, ↓qf, ↓qg, ↓qh, ↓qi, ↓qj, ↓qk, dLt, dLe, dGt, dGe, ql, qm, qo, qp, qq, dI2, qr, qt, dEq, dNe, qu, qv, qw, qx, qy, qz, q8, q9, qA, qB, Option.some.injEq, qC, qD, qE, qF, qG, dIs, qH, qI, shs, kiC, qJ, qK, obD, id_eq, List.getElem?_cons_zero, List.getElem?_cons_succ, List.set_cons_zero, List.set_cons_succ, List.length_cons, List.length_nil, D.bl.injEq, exists_eq_left', decide_eq_true_eq, decide_eq_false_iff_not, Bool.not_eq_true', Bool.not_eq_false', Nat.zero_add, Nat.reduceAdd, true_and, and_true, forall_const, reduceCtorEq, not_true_eq_false, not_false_eq_true, false_implies, true_implies, implies_true, qL, Nat.reduceLeDiff, Int.reduceLE, Int.reduceLT, Int.reduceNeg, Int.reducePow, Int.reduceAdd, Int.reduceSub, Int.reduceMul, wf__law_counters]
    refine ⟨fs, rfl, hg, fun cs hc3 hcs => ?_⟩
    have hnm := hcs.nm
    have hn := names_take cs.length
    rw [← hnm] at hn
    generalize hns : cs.map (·.nm) = ns at *
    refine ⟨by rw [List.length_map]; omega, rfl, ?_⟩
    refine lc_map (ρ := [_, _, _, .no, .no, .no, .no, .no]) (fun c : Ctr => D.str c.nm) _ [] (fun c hc Kt ht => ?_) ⟨rfl, ?_⟩
    · simp only [↓za, ↓zb, ↓zc, ↓zd, ↓ze, ↓zf, ↓zg, ↓zh, ↓zi, ↓zj, ↓zk, ↓zl, ↓zm, ↓zn, ↓zo, ↓zp, ↓zq, ↓zr, ↓zt, ↓zu, ↓zv, ↓zw, ↓zx, ↓zy, ↓zz, ↓z3, ↓z7, ↓z8, ↓z9, ↓zA, ↓zB, ↓zC, ↓zD, ↓zE, ↓zF, ↓zG, ↓zH, ↓zI, ↓zJ, ↓zK, ↓zL, ↓zM, ↓zN, ↓zO, ↓zP, ↓zQ, ↓zR, ↓zS, ↓zT, ↓zU, ↓zV, ↓zW, ↓zX, ↓zY, ↓zZ, ↓xa, ↓xb, ↓xf, ↓xg, ↓xh, ↓xi, ↓xj, ↓xk, ↓xl, ↓xm, ↓xo, ↓xq, ↓xt, ↓xu, ↓xw, ↓xy, ↓xz, ↓x5, ↓x6, ↓x7, ↓x8, ↓x9, ↓xB, ↓xD, ↓xE, ↓xF, ↓xG, ↓xH, ↓xI, ↓xJ, ↓xK, ↓xL, ↓xM, ↓xN, ↓xO, xP, xQ, ↓xR, ↓xS, ↓xT, ↓xU, ↓xV, ↓xW, ↓xX, ↓xY, ↓xZ, ↓qb, ↓qc, ↓qd, ↓qf, ↓qg, ↓qh, ↓qi, ↓qj, ↓qk, dLt, dLe, dGt, dGe, ql, qm, qo, qp, qq, dI2, qr, qt, dEq, dNe, qu, qv, qw, qx, qy, qz, q8, q9, qA, qB, Option.some.injEq, qC, qD, qE, qF, qG, dIs, qH, qI, shs, kiC, qJ, qK, obD, id_eq, List.getElem?_cons_zero, List.getElem?_cons_succ, List.set_cons_zero, List.set_cons_succ, List.length_cons, List.length_nil, D.bl.injEq, exists_eq_left', decide_eq_true_eq, decide_eq_false_iff_not, Bool.not_eq_true', Bool.not_eq_false', Nat.zero_add, Nat.reduceAdd, true_and, and_true, forall_const, reduceCtorEq, not_true_eq_false, not_false_eq_true, false_implies, true_implies, implies_true, qL, Nat.reduceLeDiff, Int.reduceLE, Int.reduceLT, Int.reduceNeg, Int.reducePow, Int.reduceAdd, Int.reduceSub, Int.reduceMul, wipeD, List.reverse_cons, List.reverse_nil, List.nil_append, noOwnB, List.all_cons, List.all_nil, Bool.and_true, Bool.true_and, Ctr.dd]
      exact ht
    have ens : cs.map (fun c : Ctr => D.str c.nm) = ns.map D.str := by rw [← hns, List.map_map]; rfl
    simp only [↓za, ↓zb, ↓zc, ↓zd, ↓ze, ↓zf, ↓zg, ↓zh, ↓zi, ↓zj, ↓zk, ↓zl, ↓zm, ↓zn, ↓zo, ↓zp, ↓zq, ↓zr, ↓zt, ↓zu, ↓zv, ↓zw, ↓zx, ↓zy, ↓zz, ↓z3, ↓z7, ↓z8, ↓z9, ↓zA, ↓zB, ↓zC, ↓zD, ↓zE, ↓zF, ↓zG, ↓zH, ↓zI, ↓zJ, ↓zK, ↓zL, ↓zM, ↓zN, ↓zO, ↓zP, ↓zQ, ↓zR, ↓zS, ↓zT, ↓zU, ↓zV, ↓zW, ↓zX, ↓zY, ↓zZ, ↓xa, ↓xb, ↓xf, ↓xg, ↓xh, ↓xi, ↓xj, ↓xk, ↓xl, ↓xm, ↓xo, ↓xq, ↓xt, ↓xu, ↓xw, ↓xy, ↓xz, ↓x5, ↓x6, ↓x7, ↓x8, ↓x9, ↓xB, ↓xD, ↓xE, ↓xF, ↓xG, ↓xH, ↓xI, ↓xJ, ↓xK, ↓xL, ↓xM, ↓xN, ↓xO, xP, xQ, ↓xR, ↓xS, ↓xT, ↓xU, ↓xV, ↓xW, ↓xX, ↓xY, ↓xZ, ↓qb, ↓qc, ↓qd, ↓qf, ↓qg, ↓qh, ↓qi, ↓qj, ↓qk, dLt, dLe, dGt, dGe, ql, qm, qo, qp, qq, dI2, qr, qt, dEq, dNe, qu, qv, qw, qx, qy, qz, q8, q9, qA, qB, Option.some.injEq, qC, qD, qE, qF, qG, dIs, qH, qI, shs, kiC, qJ, qK, obD, id_eq, List.getElem?_cons_zero, List.getElem?_cons_succ, List.set_cons_zero, List.set_cons_succ, List.length_cons, List.length_nil, D.bl.injEq, exists_eq_left', decide_eq_true_eq, decide_eq_false_iff_not, Bool.not_eq_true', Bool.not_eq_false', Nat.zero_add, Nat.reduceAdd, true_and, and_true, forall_const, reduceCtorEq, not_true_eq_false, not_false_eq_true, false_implies, true_implies, implies_true, qL, Nat.reduceLeDiff, Int.reduceLE, Int.reduceLT, Int.reduceNeg, Int.reducePow, Int.reduceAdd, Int.reduceSub, Int.reduceMul, wipeD, List.reverse_cons, List.reverse_nil, List.nil_append, noOwnB, List.all_cons, List.all_nil, Bool.and_true, Bool.true_and, wf__law_draw, ens]
    intro n n0 n4
    refine ⟨⟨by omega, by omega⟩, ?_⟩
    refine for_nat (fun k ρ => ∃ (gs : List Gn) (s5 : Sl), ρ = [.bx, .sh (.lst (fs.map D.str)), .sh (.lst (cs.map Ctr.dd)), .sh (.lst (ns.map D.str)), .ol (gs.map Gn.dd), s5, .no, .no] ∧ gs.length ≤ k ∧ ∀ g ∈ gs, g.cond.length ≤ 20 ∧ ∀ t ∈ g.cond, t.c ∈ ns) ?_ ?_ _ ⟨[], _, rfl, Nat.le_refl _, fun g hg => nomatch hg⟩
    · rintro k hk ρ ⟨gs, s5, rfl, hl, hgs⟩ C hC
      simp only [↓za, ↓zb, ↓zc, ↓zd, ↓ze, ↓zf, ↓zg, ↓zh, ↓zi, ↓zj, ↓zk, ↓zl, ↓zm, ↓zn, ↓zo, ↓zp, ↓zq, ↓zr, ↓zt, ↓zu, ↓zv, ↓zw, ↓zx, ↓zy, ↓zz, ↓z3, ↓z7, ↓z8, ↓z9, ↓zA, ↓zB, ↓zC, ↓zD, ↓zE, ↓zF, ↓zG, ↓zH, ↓zI, ↓zJ, ↓zK, ↓zL, ↓zM, ↓zN, ↓zO, ↓zP, ↓zQ, ↓zR, ↓zS, ↓zT, ↓zU, ↓zV, ↓zW, ↓zX, ↓zY, ↓zZ, ↓xa, ↓xb, ↓xf, ↓xg, ↓xh, ↓xi, ↓xj, ↓xk, ↓xl, ↓xm, ↓xo, ↓xq, ↓xt, ↓xu, ↓xw, ↓xy, ↓xz, ↓x5, ↓x6, ↓x7, ↓x8, ↓x9, ↓xB, ↓xD, ↓xE, ↓xF, ↓xG, ↓xH, ↓xI, ↓xJ, ↓xK, ↓xL, ↓xM, ↓xN, ↓xO, xP, xQ, ↓xR, ↓xS, ↓xT, ↓xU, ↓xV, ↓xW, ↓xX, ↓xY, ↓xZ, ↓qb, ↓qc, ↓qd, ↓qf, ↓qg, ↓qh, ↓qi, ↓qj, ↓qk, dLt, dLe, dGt, dGe, ql, qm, qo, qp, qq, dI2, qr, qt, dEq, dNe, qu, qv, qw, qx, qy, qz, q8, q9, qA, qB, Option.some.injEq, qC, qD, qE, qF, qG, dIs, qH, qI, shs, kiC, qJ, qK, obD, id_eq, List.getElem?_cons_zero, List.getElem?_cons_succ, List.set_cons_zero, List.set_cons_succ, List.length_cons, List.length_nil, D.bl.injEq, exists_eq_left', decide_eq_true_eq, decide_eq_false_iff_not, Bool.not_eq_true', Bool.not_eq_false', Nat.zero_add, Nat.reduceAdd, true_and, and_true, forall_const, reduceCtorEq, not_true_eq_false, not_false_eq_true, false_implies, true_implies, implies_true, qL, Nat.reduceLeDiff, Int.reduceLE, Int.reduceLT, Int.reduceNeg, Int.reducePow, Int.reduceAdd, Int.reduceSub, Int.reduceMul, wf__law_amount, wf__law_draw, wf__law_condition, List.length_map]
      intro a
      refine ⟨by have := hg.2.1; omega, fun r r0 r1 => ?_⟩
      obtain ⟨x, hx, e⟩ := strs_at r0 r1
      refine ⟨_, e, ns, rfl, hn.2, fun l hl2 hl3 => ⟨by omega, hC _ ⟨gs ++ [⟨a, x, l⟩], _, by rw [List.map_append]; rfl, by simp; omega, all_snoc hgs ⟨(show l.length ≤ 20 by omega), hl3⟩⟩⟩⟩
    · rintro ρ ⟨gs, s5, rfl, hl, hgs⟩
      simp only [↓za, ↓zb, ↓zc, ↓zd, ↓ze, ↓zf, ↓zg, ↓zh, ↓zi, ↓zj, ↓zk, ↓zl, ↓zm, ↓zn, ↓zo, ↓zp, ↓zq, ↓zr, ↓zt, ↓zu, ↓zv, ↓zw, ↓zx, ↓zy, ↓zz, ↓z3, ↓z7, ↓z8, ↓z9, ↓zA, ↓zB, ↓zC, ↓zD, ↓zE, ↓zF, ↓zG, ↓zH, ↓zI, ↓zJ, ↓zK, ↓zL, ↓zM, ↓zN, ↓zO, ↓zP, ↓zQ, ↓zR, ↓zS, ↓zT, ↓zU, ↓zV, ↓zW, ↓zX, ↓zY, ↓zZ, ↓xa, ↓xb, ↓xf, ↓xg, ↓xh, ↓xi, ↓xj, ↓xk, ↓xl, ↓xm, ↓xo, ↓xq, ↓xt, ↓xu, ↓xw, ↓xy, ↓xz, ↓x5, ↓x6, ↓x7, ↓x8, ↓x9, ↓xB, ↓xD, ↓xE, ↓xF, ↓xG, ↓xH, ↓xI, ↓xJ, ↓xK, ↓xL, ↓xM, ↓xN, ↓xO, xP, xQ, ↓xR, ↓xS, ↓xT, ↓xU, ↓xV, ↓xW, ↓xX, ↓xY, ↓xZ, ↓qb, ↓qc, ↓qd, ↓qf, ↓qg, ↓qh, ↓qi, ↓qj, ↓qk, dLt, dLe, dGt, dGe, ql, qm, qo, qp, qq, dI2, qr, qt, dEq, dNe, qu, qv, qw, qx, qy, qz, q8, q9, qA, qB, Option.some.injEq, qC, qD, qE, qF, qG, dIs, qH, qI, shs, kiC, qJ, qK, obD, id_eq, List.getElem?_cons_zero, List.getElem?_cons_succ, List.set_cons_zero, List.set_cons_succ, List.length_cons, List.length_nil, D.bl.injEq, exists_eq_left', decide_eq_true_eq, decide_eq_false_iff_not, Bool.not_eq_true', Bool.not_eq_false', Nat.zero_add, Nat.reduceAdd, true_and, and_true, forall_const, reduceCtorEq, not_true_eq_false, not_false_eq_true, false_implies, true_implies, implies_true, qL, Nat.reduceLeDiff, Int.reduceLE, Int.reduceLT, Int.reduceNeg, Int.reducePow, Int.reduceAdd, Int.reduceSub, Int.reduceMul, wf__law_draw]
      intro m m0 m3
      refine ⟨⟨by omega, by omega⟩, ?_⟩
      refine for_nat (fun k ρ => ∃ (ls : List Lv) (s5 : Sl), ρ = [.bx, .sh (.lst (fs.map D.str)), .sh (.lst (cs.map Ctr.dd)), .sh (.lst (ns.map D.str)), .ol (gs.map Gn.dd), s5, .ol (ls.map Lv.dd), .no] ∧ ls.length ≤ k ∧ ∀ g ∈ ls, g.cond.length ≤ 20 ∧ ∀ t ∈ g.cond, t.c ∈ ns) ?_ ?_ _ ⟨[], _, rfl, Nat.le_refl _, fun g hg => nomatch hg⟩
      · rintro k hk ρ ⟨ls, s5, rfl, hl4, hls⟩ C hC
        simp only [↓za, ↓zb, ↓zc, ↓zd, ↓ze, ↓zf, ↓zg, ↓zh, ↓zi, ↓zj, ↓zk, ↓zl, ↓zm, ↓zn, ↓zo, ↓zp, ↓zq, ↓zr, ↓zt, ↓zu, ↓zv, ↓zw, ↓zx, ↓zy, ↓zz, ↓z3, ↓z7, ↓z8, ↓z9, ↓zA, ↓zB, ↓zC, ↓zD, ↓zE, ↓zF, ↓zG, ↓zH, ↓zI, ↓zJ, ↓zK, ↓zL, ↓zM, ↓zN, ↓zO, ↓zP, ↓zQ, ↓zR, ↓zS, ↓zT, ↓zU, ↓zV, ↓zW, ↓zX, ↓zY, ↓zZ, ↓xa, ↓xb, ↓xf, ↓xg, ↓xh, ↓xi, ↓xj, ↓xk, ↓xl, ↓xm, ↓xo, ↓xq, ↓xt, ↓xu, ↓xw, ↓xy, ↓xz, ↓x5, ↓x6, ↓x7, ↓x8, ↓x9, ↓xB, ↓xD, ↓xE, ↓xF, ↓xG, ↓xH, ↓xI, ↓xJ, ↓xK, ↓xL, ↓xM, ↓xN, ↓xO, xP, xQ, ↓xR, ↓xS, ↓xT, ↓xU, ↓xV, ↓xW, ↓xX, ↓xY, ↓xZ, ↓qb, ↓qc, ↓qd, ↓qf, ↓qg, ↓qh, ↓qi, ↓qj, ↓qk, dLt, dLe, dGt, dGe, ql, qm, qo, qp, qq, dI2, qr, qt, dEq, dNe, qu, qv, qw, qx, qy, qz, q8, q9, qA, qB, Option.some.injEq, qC, qD, qE, qF, qG, dIs, qH, qI, shs, kiC, qJ, qK, obD, id_eq, List.getElem?_cons_zero, List.getElem?_cons_succ, List.set_cons_zero, List.set_cons_succ, List.length_cons, List.length_nil, D.bl.injEq, exists_eq_left', decide_eq_true_eq, decide_eq_false_iff_not, Bool.not_eq_true', Bool.not_eq_false', Nat.zero_add, Nat.reduceAdd, true_and, and_true, forall_const, reduceCtorEq, not_true_eq_false, not_false_eq_true, false_implies, true_implies, implies_true, qL, Nat.reduceLeDiff, Int.reduceLE, Int.reduceLT, Int.reduceNeg, Int.reducePow, Int.reduceAdd, Int.reduceSub, Int.reduceMul, wf__law_amount, wf__law_draw, wf__law_condition, List.length_map]
        intro a
        exact ⟨ns, rfl, hn.2, fun l hl2 hl3 => ⟨by omega, hC _ ⟨ls ++ [⟨a, l⟩], _, by rw [List.map_append]; rfl, by simp; omega, all_snoc hls ⟨(show l.length ≤ 20 by omega), hl3⟩⟩⟩⟩
      · rintro ρ ⟨ls, s5, rfl, hl4, hls⟩
        simp only [↓za, ↓zb, ↓zc, ↓zd, ↓ze, ↓zf, ↓zg, ↓zh, ↓zi, ↓zj, ↓zk, ↓zl, ↓zm, ↓zn, ↓zo, ↓zp, ↓zq, ↓zr, ↓zt, ↓zu, ↓zv, ↓zw, ↓zx, ↓zy, ↓zz, ↓z3, ↓z7, ↓z8, ↓z9, ↓zA, ↓zB, ↓zC, ↓zD, ↓zE, ↓zF, ↓zG, ↓zH, ↓zI, ↓zJ, ↓zK, ↓zL, ↓zM, ↓zN, ↓zO, ↓zP, ↓zQ, ↓zR, ↓zS, ↓zT, ↓zU, ↓zV, ↓zW, ↓zX, ↓zY, ↓zZ, ↓xa, ↓xb, ↓xf, ↓xg, ↓xh, ↓xi, ↓xj, ↓xk, ↓xl, ↓xm, ↓xo, ↓xq, ↓xt, ↓xu, ↓xw, ↓xy, ↓xz, ↓x5, ↓x6, ↓x7, ↓x8, ↓x9, ↓xB, ↓xD, ↓xE, ↓xF, ↓xG, ↓xH, ↓xI, ↓xJ, ↓xK, ↓xL, ↓xM, ↓xN, ↓xO, xP, xQ, ↓xR, ↓xS, ↓xT, ↓xU, ↓xV, ↓xW, ↓xX, ↓xY, ↓xZ, ↓qb, ↓qc, ↓qd, ↓qf, ↓qg, ↓qh, ↓qi, ↓qj, ↓qk, dLt, dLe, dGt, dGe, ql, qm, qo, qp, qq, dI2, qr, qt, dEq, dNe, qu, qv, qw, qx, qy, qz, q8, q9, qA, qB, Option.some.injEq, qC, qD, qE, qF, qG, dIs, qH, qI, shs, kiC, qJ, qK, obD, id_eq, List.getElem?_cons_zero, List.getElem?_cons_succ, List.set_cons_zero, List.set_cons_succ, List.length_cons, List.length_nil, D.bl.injEq, exists_eq_left', decide_eq_true_eq, decide_eq_false_iff_not, Bool.not_eq_true', Bool.not_eq_false', Nat.zero_add, Nat.reduceAdd, true_and, and_true, forall_const, reduceCtorEq, not_true_eq_false, not_false_eq_true, false_implies, true_implies, implies_true, qL, Nat.reduceLeDiff, Int.reduceLE, Int.reduceLT, Int.reduceNeg, Int.reducePow, Int.reduceAdd, Int.reduceSub, Int.reduceMul]
        have f3 := hg.2.2.1
        exact q ⟨fs, cs, gs, ls⟩ ⟨⟨by rw [Rl.names]; exact (show (cs.map (·.nm)) = ns from hns) ▸ hn.1, hc3, by show gs.length ≤ 20; omega, by show ls.length ≤ 20; omega, ⟨hg.2.1, by show fs.length ≤ 6; omega⟩, fun c hc => ⟨(hcs.st c hc).1, (hcs.st c hc).2.1⟩, fun g hg => ⟨(hgs g hg).1, fun t ht => by rw [Rl.names, hns]; exact (hgs g hg).2 t ht⟩, fun g hg => ⟨(hls g hg).1, fun t ht => by rw [Rl.names, hns]; exact (hls g hg).2 t ht⟩, by rw [Rl.names, hns]; exact hn.2⟩, hg, hcs⟩ rfl
  · exact h.elim
theorem Tst.ok_eq (t : Tst) (k : Cts) : t.ok k = decide (decide (t.n ≤ k.at t.c) = decide (t.s = ">=")) := by
  unfold Tst.ok
  by_cases h : t.s = ">="
  · rw [if_pos h, decide_eq_true h]
    by_cases h2 : t.n ≤ k.at t.c
    · rw [decide_eq_true h2]; rfl
    · rw [decide_eq_false h2]; rfl
  · rw [if_neg h, decide_eq_false h]
    by_cases h2 : t.n ≤ k.at t.c
    · rw [decide_eq_true h2, decide_eq_false (by omega)]; rfl
    · rw [decide_eq_false h2, decide_eq_true (by omega)]; rfl
/-! ### _law_holds -/
def wf__law_holds : WFn
  | [.sh d, .sh e], Q => ∃ (l : List Tst) (k : Cts), d = condD l ∧ e = k.dd ∧ k.vs.length = k.ns.length ∧ (∀ t ∈ l, t.c ∈ k.ns) ∧ Q (.bl (holdsB l k))
  | _, _ => False
theorem len__law_holds : ∀ as Qd, wf__law_holds as Qd → as.length = 2 := fun as Qd h => by
  unfold wf__law_holds at h
  split at h
  · rfl
  · exact h.elim

def w__law_holds : WS := (wSeq (wFor (wItL (wVar 0)) (wSt 2)
 (wIf (wTst (wOp dNe (wOp dGe (wOp dIx (wPk 1) (wOp dIx (wPk 2) (wC (.int 0)))) (wOp dIx (wPk 2) (wC (.int 2)))) (wOp dEq (wOp dIx (wPk 2) (wC (.int 1))) (wC (.str ">=")))))
 (wRet (wC (.bl false)))
 wNext))
 (wRet (wC (.bl true))))

theorem p__law_holds : ∀ as Qd, wf__law_holds as Qd → w__law_holds (startD ["_law_condition_here", "_law_counts", "_law_test"] as) { nx := fun _ => Qd .non, rt := fun d _ => Qd d } := fun as Qd h => by
  unfold wf__law_holds at h
  split at h
  · obtain ⟨l, k, rfl, rfl, hl, hc, q⟩ := h
    show w__law_holds [.sh (condD l), .sh k.dd, .no] _
    simp only [w__law_holds, ↓za, ↓zb, ↓zc, ↓zd, ↓ze, ↓zf, ↓zg, ↓zh, ↓zi, ↓zj, ↓zk, ↓zl, ↓zm, ↓zn, ↓zo, ↓zp, ↓zq, ↓zr, ↓zt, ↓zu, ↓zv, ↓zw, ↓zx, ↓zy, ↓zz, ↓z3, ↓z7, ↓z8, ↓z9, ↓zA, ↓zB, ↓zC, ↓zD, ↓zE, ↓zF, ↓zG, ↓zH, ↓zI, ↓zJ, ↓zK, ↓zL, ↓zM, ↓zN, ↓zO, ↓zP, ↓zQ, ↓zR, ↓zS, ↓zT, ↓zU, ↓zV, ↓zW, ↓zX, ↓zY, ↓zZ, ↓xa, ↓xb, ↓xf, ↓xg, ↓xh, ↓xi, ↓xj, ↓xk, ↓xl, ↓xm, ↓xo, ↓xq, ↓xt, ↓xu, ↓xw, ↓xy, ↓xz, ↓x5, ↓x6, ↓x7, ↓x8, ↓x9, ↓xB, ↓xD, ↓xE, ↓xF, ↓xG, ↓xH, ↓xI, ↓xJ, ↓xK, ↓xL, ↓xM, ↓xN, ↓xO, xP, xQ, ↓xR, ↓xS, ↓xT, ↓xU, ↓xV, ↓xW, ↓xX, ↓xY, ↓xZ, ↓qb, ↓qc, ↓qd, ↓qf, ↓qg, ↓qh, ↓qi, ↓qj, ↓qk, dLt, dLe, dGt, dGe, ql, qm, qo, qp, qq, dI2, qr, qt, dEq, dNe, qu, qv, qw, qx, qy, qz, q8, q9, qA, qB, Option.some.injEq, qC, qD, qE, qF, qG, dIs, qH, qI, shs, kiC, qJ, qK, obD, id_eq, List.getElem?_cons_zero, List.getElem?_cons_succ, List.set_cons_zero, List.set_cons_succ, List.length_cons, List.length_nil, D.bl.injEq, exists_eq_left', decide_eq_true_eq, decide_eq_false_iff_not, Bool.not_eq_true', Bool.not_eq_false', Nat.zero_add, Nat.reduceAdd, true_and, and_true, forall_const, reduceCtorEq, not_true_eq_false, not_false_eq_true, false_implies, true_implies, implies_true, qL, Nat.reduceLeDiff, Int.reduceLE, Int.reduceLT, Int.reduceNeg, Int.reducePow, Int.reduceAdd, Int.reduceSub, Int.reduceMul, condD]
    refine for_pre (fun dn ρ => ∃ s2, ρ = [.sh (.lst (l.map Tst.dd)), .sh k.dd, s2] ∧ holdsB dn k = true) ?_ ?_ _ ⟨_, rfl, rfl⟩
    · rintro dn t rest e ρ ⟨s2, rfl, hd⟩ C hC
      simp only [↓za, ↓zb, ↓zc, ↓zd, ↓ze, ↓zf, ↓zg, ↓zh, ↓zi, ↓zj, ↓zk, ↓zl, ↓zm, ↓zn, ↓zo, ↓zp, ↓zq, ↓zr, ↓zt, ↓zu, ↓zv, ↓zw, ↓zx, ↓zy, ↓zz, ↓z3, ↓z7, ↓z8, ↓z9, ↓zA, ↓zB, ↓zC, ↓zD, ↓zE, ↓zF, ↓zG, ↓zH, ↓zI, ↓zJ, ↓zK, ↓zL, ↓zM, ↓zN, ↓zO, ↓zP, ↓zQ, ↓zR, ↓zS, ↓zT, ↓zU, ↓zV, ↓zW, ↓zX, ↓zY, ↓zZ, ↓xa, ↓xb, ↓xf, ↓xg, ↓xh, ↓xi, ↓xj, ↓xk, ↓xl, ↓xm, ↓xo, ↓xq, ↓xt, ↓xu, ↓xw, ↓xy, ↓xz, ↓x5, ↓x6, ↓x7, ↓x8, ↓x9, ↓xB, ↓xD, ↓xE, ↓xF, ↓xG, ↓xH, ↓xI, ↓xJ, ↓xK, ↓xL, ↓xM, ↓xN, ↓xO, xP, xQ, ↓xR, ↓xS, ↓xT, ↓xU, ↓xV, ↓xW, ↓xX, ↓xY, ↓xZ, ↓qb, ↓qc, ↓qd, ↓qf, ↓qg, ↓qh, ↓qi, ↓qj, ↓qk, dLt, dLe, dGt, dGe, ql, qm, qo, qp, qq, dI2, qr, qt, dEq, dNe, qu, qv, qw, qx, qy, qz, q8, q9, qA, qB, Option.some.injEq, qC, qD, qE, qF, qG, dIs, qH, qI, shs, kiC, qJ, qK, obD, id_eq, List.getElem?_cons_zero, List.getElem?_cons_succ, List.set_cons_zero, List.set_cons_succ, List.length_cons, List.length_nil, D.bl.injEq, exists_eq_left', decide_eq_true_eq, decide_eq_false_iff_not, Bool.not_eq_true', Bool.not_eq_false', Nat.zero_add, Nat.reduceAdd, true_and, and_true, forall_const, reduceCtorEq, not_true_eq_false, not_false_eq_true, false_implies, true_implies, implies_true, qL, Nat.reduceLeDiff, Int.reduceLE, Int.reduceLT, Int.reduceNeg, Int.reducePow, Int.reduceAdd, Int.reduceSub, Int.reduceMul, Tst.dd]
      have ht : t ∈ l := by rw [e]; simp
      refine Cts.ix hl (hc t ht) ⟨_, rfl, ?_⟩
      show ∃ b, D.bl (!decide (decide (t.n ≤ k.at t.c) = decide (t.s = Str.ofString ">="))) = .bl b ∧ _
      refine ⟨_, rfl, fun z => ?_, fun z => hC _ ⟨_, rfl, ?_⟩⟩
      · have : t.ok k = false := by rw [Tst.ok_eq, Bool.not_eq_true'] at *; exact z
        have : holdsB l k = false := by rw [e, holdsB, List.all_append, List.all_cons, this]; simp
        rw [this] at q; exact q
      · have : t.ok k = true := by rw [Tst.ok_eq, Bool.not_eq_false'] at *; exact z
        rw [holdsB] at hd ⊢
        rw [List.all_append, hd, List.all_cons, this]; rfl
    · rintro ρ ⟨s2, rfl, hd⟩
      simp only [↓za, ↓zb, ↓zc, ↓zd, ↓ze, ↓zf, ↓zg, ↓zh, ↓zi, ↓zj, ↓zk, ↓zl, ↓zm, ↓zn, ↓zo, ↓zp, ↓zq, ↓zr, ↓zt, ↓zu, ↓zv, ↓zw, ↓zx, ↓zy, ↓zz, ↓z3, ↓z7, ↓z8, ↓z9, ↓zA, ↓zB, ↓zC, ↓zD, ↓zE, ↓zF, ↓zG, ↓zH, ↓zI, ↓zJ, ↓zK, ↓zL, ↓zM, ↓zN, ↓zO, ↓zP, ↓zQ, ↓zR, ↓zS, ↓zT, ↓zU, ↓zV, ↓zW, ↓zX, ↓zY, ↓zZ, ↓xa, ↓xb, ↓xf, ↓xg, ↓xh, ↓xi, ↓xj, ↓xk, ↓xl, ↓xm, ↓xo, ↓xq, ↓xt, ↓xu, ↓xw, ↓xy, ↓xz, ↓x5, ↓x6, ↓x7, ↓x8, ↓x9, ↓xB, ↓xD, ↓xE, ↓xF, ↓xG, ↓xH, ↓xI, ↓xJ, ↓xK, ↓xL, ↓xM, ↓xN, ↓xO, xP, xQ, ↓xR, ↓xS, ↓xT, ↓xU, ↓xV, ↓xW, ↓xX, ↓xY, ↓xZ, ↓qb, ↓qc, ↓qd, ↓qf, ↓qg, ↓qh, ↓qi, ↓qj, ↓qk, dLt, dLe, dGt, dGe, ql, qm, qo, qp, qq, dI2, qr, qt, dEq, dNe, qu, qv, qw, qx, qy, qz, q8, q9, qA, qB, Option.some.injEq, qC, qD, qE, qF, qG, dIs, qH, qI, shs, kiC, qJ, qK, obD, id_eq, List.getElem?_cons_zero, List.getElem?_cons_succ, List.set_cons_zero, List.set_cons_succ, List.length_cons, List.length_nil, D.bl.injEq, exists_eq_left', decide_eq_true_eq, decide_eq_false_iff_not, Bool.not_eq_true', Bool.not_eq_false', Nat.zero_add, Nat.reduceAdd, true_and, and_true, forall_const, reduceCtorEq, not_true_eq_false, not_false_eq_true, false_implies, true_implies, implies_true, qL, Nat.reduceLeDiff, Int.reduceLE, Int.reduceLT, Int.reduceNeg, Int.reducePow, Int.reduceAdd, Int.reduceSub, Int.reduceMul]
      rw [hd] at q; exact q
  · exact h.elim
theorem new_name {r : Rl} (nd : r.names.Nodup) {dn rest : List Ctr} {c : Ctr} (e : r.ctrs = dn ++ c :: rest) : c.nm ∉ dn.map fun c : Ctr => c.nm := fun z => by
  rw [Rl.names, e, List.map_append, List.map_cons, List.nodup_append] at nd
  exact nd.2.2 _ z _ List.mem_cons_self rfl
theorem setA_last {f : Str} {x y : D} : ∀ {xs : List Str} {ds : List D}, f ∉ xs → ds.length = xs.length → setA ((xs ++ [f]).map Sum.inr : List Key) (ds ++ [x]) (.inr f) y = ds ++ [y]
  | [], [], _, _ => by simp [setA]
  | [], _ :: _, _, h => by simp at h
  | _ :: _, [], _, h => by simp at h
  | a :: xs, d :: ds, hf, h => by
    have h1 : a ≠ f := fun z => hf (by rw [z]; exact List.mem_cons_self)
    have ih := setA_last (x := x) (y := y) (xs := xs) (ds := ds) (fun z => hf (List.mem_cons_of_mem _ z)) (by simpa using h)
    simp only [List.cons_append, List.map_cons, setA]
    rw [if_neg fun z => h1 (Sum.inr.inj z), ih]
theorem putA_last {xs : List Str} {ds : List D} {f : Str} {x y : D} (h : f ∉ xs) (hl : ds.length = xs.length) : putA ((xs ++ [f]).map Sum.inr : List Key) (ds ++ [x]) (.inr f) y = ((xs ++ [f]).map Sum.inr, ds ++ [y]) := by
  unfold putA
  rw [if_pos (List.mem_map.mpr ⟨f, by simp, rfl⟩), setA_last h hl]
/-! ### _law_zero -/
def wf__law_zero : WFn
  | [.sh (.lst ds)], Q => ∃ r : Rl, ds = r.ds ∧ r.ok ∧ Q r.zero.dd
  | _, _ => False
theorem len__law_zero : ∀ as Qd, wf__law_zero as Qd → as.length = 1 := fun as Qd h => by
  unfold wf__law_zero at h
  split at h
  · rfl
  · exact h.elim

def w__law_zero : WS := (wSeq (wAsgO wfDk 1)
 (wSeq (wFor (wItL (wOp dIx (wPk 0) (wC (.int 1)))) (wSt 2)
 (wPut 1 (wOp dIx (wPk 2) (wC (.int 0))) (wC (.int 0))))
 (wRet (wVar 1))))

theorem p__law_zero : ∀ as Qd, wf__law_zero as Qd → w__law_zero (startD ["_law_scheme_here", "_law_counts", "_law_counter"] as) { nx := fun _ => Qd .non, rt := fun d _ => Qd d } := fun as Qd h => by
  unfold wf__law_zero at h
  split at h
  · obtain ⟨r, rfl, ok, q⟩ := h
    have n3 := ok.n3
    show w__law_zero [.sh (.lst r.ds), .no, .no] _
    simp only [w__law_zero, ↓za, ↓zb, ↓zc, ↓zd, ↓ze, ↓zf, ↓zg, ↓zh, ↓zi, ↓zj, ↓zk, ↓zl, ↓zm, ↓zn, ↓zo, ↓zp, ↓zq, ↓zr, ↓zt, ↓zu, ↓zv, ↓zw, ↓zx, ↓zy, ↓zz, ↓z3, ↓z7, ↓z8, ↓z9, ↓zA, ↓zB, ↓zC, ↓zD, ↓zE, ↓zF, ↓zG, ↓zH, ↓zI, ↓zJ, ↓zK, ↓zL, ↓zM, ↓zN, ↓zO, ↓zP, ↓zQ, ↓zR, ↓zS, ↓zT, ↓zU, ↓zV, ↓zW, ↓zX, ↓zY, ↓zZ, ↓xa, ↓xb, ↓xf, ↓xg, ↓xh, ↓xi, ↓xj, ↓xk, ↓xl, ↓xm, ↓xo, ↓xq, ↓xt, ↓xu, ↓xw, ↓xy, ↓xz, ↓x5, ↓x6, ↓x7, ↓x8, ↓x9, ↓xB, ↓xD, ↓xE, ↓xF, ↓xG, ↓xH, ↓xI, ↓xJ, ↓xK, ↓xL, ↓xM, ↓xN, ↓xO, xP, xQ, ↓xR, ↓xS, ↓xT, ↓xU, ↓xV, ↓xW, ↓xX, ↓xY, ↓xZ, ↓qb, ↓qc, ↓qd, ↓qf, ↓qg, ↓qh, ↓qi, ↓qj, ↓qk, dLt, dLe, dGt, dGe, ql, qm, qo, qp, qq, dI2, qr, qt, dEq, dNe, qu, qv, qw, qx, qy, qz, q8, q9, qA, qB, Option.some.injEq, qC, qD, qE, qF, qG, dIs, qH, qI, shs, kiC, qJ, qK, obD, id_eq, List.getElem?_cons_zero, List.getElem?_cons_succ, List.set_cons_zero, List.set_cons_succ, List.length_cons, List.length_nil, D.bl.injEq, exists_eq_left', decide_eq_true_eq, decide_eq_false_iff_not, Bool.not_eq_true', Bool.not_eq_false', Nat.zero_add, Nat.reduceAdd, true_and, and_true, forall_const, reduceCtorEq, not_true_eq_false, not_false_eq_true, false_implies, true_implies, implies_true, qL, Nat.reduceLeDiff, Int.reduceLE, Int.reduceLT, Int.reduceNeg, Int.reducePow, Int.reduceAdd, Int.reduceSub, Int.reduceMul, Rl.ds]
    refine for_pre (fun dn ρ => ∃ s2, ρ = [.sh (.lst r.ds), .ok ((dn.map fun c : Ctr => c.nm).map Sum.inr) (dn.map fun _ => .int 0), s2]) ?_ ?_ _ ⟨_, rfl⟩
    · rintro dn c rest e ρ ⟨s2, rfl⟩ C hC
      simp only [↓za, ↓zb, ↓zc, ↓zd, ↓ze, ↓zf, ↓zg, ↓zh, ↓zi, ↓zj, ↓zk, ↓zl, ↓zm, ↓zn, ↓zo, ↓zp, ↓zq, ↓zr, ↓zt, ↓zu, ↓zv, ↓zw, ↓zx, ↓zy, ↓zz, ↓z3, ↓z7, ↓z8, ↓z9, ↓zA, ↓zB, ↓zC, ↓zD, ↓zE, ↓zF, ↓zG, ↓zH, ↓zI, ↓zJ, ↓zK, ↓zL, ↓zM, ↓zN, ↓zO, ↓zP, ↓zQ, ↓zR, ↓zS, ↓zT, ↓zU, ↓zV, ↓zW, ↓zX, ↓zY, ↓zZ, ↓xa, ↓xb, ↓xf, ↓xg, ↓xh, ↓xi, ↓xj, ↓xk, ↓xl, ↓xm, ↓xo, ↓xq, ↓xt, ↓xu, ↓xw, ↓xy, ↓xz, ↓x5, ↓x6, ↓x7, ↓x8, ↓x9, ↓xB, ↓xD, ↓xE, ↓xF, ↓xG, ↓xH, ↓xI, ↓xJ, ↓xK, ↓xL, ↓xM, ↓xN, ↓xO, xP, xQ, ↓xR, ↓xS, ↓xT, ↓xU, ↓xV, ↓xW, ↓xX, ↓xY, ↓xZ, ↓qb, ↓qc, ↓qd, ↓qf, ↓qg, ↓qh, ↓qi, ↓qj, ↓qk, dLt, dLe, dGt, dGe, ql, qm, qo, qp, qq, dI2, qr, qt, dEq, dNe, qu, qv, qw, qx, qy, qz, q8, q9, qA, qB, Option.some.injEq, qC, qD, qE, qF, qG, dIs, qH, qI, shs, kiC, qJ, qK, obD, id_eq, List.getElem?_cons_zero, List.getElem?_cons_succ, List.set_cons_zero, List.set_cons_succ, List.length_cons, List.length_nil, D.bl.injEq, exists_eq_left', decide_eq_true_eq, decide_eq_false_iff_not, Bool.not_eq_true', Bool.not_eq_false', Nat.zero_add, Nat.reduceAdd, true_and, and_true, forall_const, reduceCtorEq, not_true_eq_false, not_false_eq_true, false_implies, true_implies, implies_true, qL, Nat.reduceLeDiff, Int.reduceLE, Int.reduceLT, Int.reduceNeg, Int.reducePow, Int.reduceAdd, Int.reduceSub, Int.reduceMul, Ctr.dd]
      have hnew := new_name ok.nd e
      refine ⟨⟨_, rfl, True.intro⟩, _, rfl, by have := congrArg List.length e; rw [List.length_append, List.length_cons] at this; simp; omega, ?_⟩
      have e1 : (((dn ++ [c]).map fun c : Ctr => c.nm).map Sum.inr : List Key) = ((dn.map fun c : Ctr => c.nm) ++ [c.nm]).map Sum.inr := by rw [List.map_append]; rfl
      have e2 : ((dn ++ [c]).map fun _ : Ctr => D.int 0) = (dn.map fun _ : Ctr => D.int 0) ++ [.int 0] := by rw [List.map_append]; rfl
      rw [putA_str hnew]
      exact hC _ ⟨_, by rw [e1, e2]⟩
    · rintro ρ ⟨s2, rfl⟩
      simp only [↓za, ↓zb, ↓zc, ↓zd, ↓ze, ↓zf, ↓zg, ↓zh, ↓zi, ↓zj, ↓zk, ↓zl, ↓zm, ↓zn, ↓zo, ↓zp, ↓zq, ↓zr, ↓zt, ↓zu, ↓zv, ↓zw, ↓zx, ↓zy, ↓zz, ↓z3, ↓z7, ↓z8, ↓z9, ↓zA, ↓zB, ↓zC, ↓zD, ↓zE, ↓zF, ↓zG, ↓zH, ↓zI, ↓zJ, ↓zK, ↓zL, ↓zM, ↓zN, ↓zO, ↓zP, ↓zQ, ↓zR, ↓zS, ↓zT, ↓zU, ↓zV, ↓zW, ↓zX, ↓zY, ↓zZ, ↓xa, ↓xb, ↓xf, ↓xg, ↓xh, ↓xi, ↓xj, ↓xk, ↓xl, ↓xm, ↓xo, ↓xq, ↓xt, ↓xu, ↓xw, ↓xy, ↓xz, ↓x5, ↓x6, ↓x7, ↓x8, ↓x9, ↓xB, ↓xD, ↓xE, ↓xF, ↓xG, ↓xH, ↓xI, ↓xJ, ↓xK, ↓xL, ↓xM, ↓xN, ↓xO, xP, xQ, ↓xR, ↓xS, ↓xT, ↓xU, ↓xV, ↓xW, ↓xX, ↓xY, ↓xZ, ↓qb, ↓qc, ↓qd, ↓qf, ↓qg, ↓qh, ↓qi, ↓qj, ↓qk, dLt, dLe, dGt, dGe, ql, qm, qo, qp, qq, dI2, qr, qt, dEq, dNe, qu, qv, qw, qx, qy, qz, q8, q9, qA, qB, Option.some.injEq, qC, qD, qE, qF, qG, dIs, qH, qI, shs, kiC, qJ, qK, obD, id_eq, List.getElem?_cons_zero, List.getElem?_cons_succ, List.set_cons_zero, List.set_cons_succ, List.length_cons, List.length_nil, D.bl.injEq, exists_eq_left', decide_eq_true_eq, decide_eq_false_iff_not, Bool.not_eq_true', Bool.not_eq_false', Nat.zero_add, Nat.reduceAdd, true_and, and_true, forall_const, reduceCtorEq, not_true_eq_false, not_false_eq_true, false_implies, true_implies, implies_true, qL, Nat.reduceLeDiff, Int.reduceLE, Int.reduceLT, Int.reduceNeg, Int.reducePow, Int.reduceAdd, Int.reduceSub, Int.reduceMul]
      have e : r.zero.dd = .dk ((r.ctrs.map fun c : Ctr => c.nm).map Sum.inr) (r.ctrs.map fun _ => .int 0) := by
        unfold Rl.zero Cts.dd Rl.names
        rw [List.map_map, List.map_map]; rfl
      rw [e] at q; exact q
  · exact h.elim
/-! ### _law_year -/
def wf__law_year : WFn
  | [.sh (.lst ds), .sh e, .sh (.str f)], Q => ∃ (r : Rl) (k : Cts), ds = r.ds ∧ e = k.dd ∧ r.ok ∧ k.ns = r.names ∧ k.vs.length = k.ns.length ∧ Q (r.year k f).dd
  | _, _ => False
theorem len__law_year : ∀ as Qd, wf__law_year as Qd → as.length = 3 := fun as Qd h => by
  unfold wf__law_year at h
  split at h
  · rfl
  · exact h.elim

def w__law_year : WS := (wSeq (wAsgO wfDk 3)
 (wSeq (wFor (wItL (wOp dIx (wPk 0) (wC (.int 1)))) (wTp [4, 5, 6])
 (wSeq (wPut 3 (wVar 4) (wOp dIx (wPk 1) (wPk 4)))
 (wIf (wAnd (wTst (wOp dIn (wPk 2) (wPk 6))) (wTst (wOp dEq (wOp dIx (wPk 6) (wPk 2)) (wC (.str "reset")))))
 (wPut 3 (wVar 4) (wC (.int 0)))
 (wIf (wTst (wOp dIn (wPk 2) (wPk 6)))
 (wPut 3 (wVar 4) (wOp qE (wPk 5) (wOp qt (wOp dIx (wPk 1) (wPk 4)) (wOp dIx (wPk 6) (wPk 2)))))
 wNext))))
 (wRet (wVar 3))))

theorem p__law_year : ∀ as Qd, wf__law_year as Qd → w__law_year (startD ["_law_scheme_here", "_law_counts", "_law_fact", "_law_later", "_law_name", "_law_cap", "_law_steps"] as) { nx := fun _ => Qd .non, rt := fun d _ => Qd d } := fun as Qd h => by
  unfold wf__law_year at h
  split at h
  · rename_i ds e f
    obtain ⟨r, k, rfl, rfl, ok, hn, hl, q⟩ := h
    have n3 := ok.n3
    show w__law_year [.sh (.lst r.ds), .sh k.dd, .sh (.str f), .no, .no, .no, .no] _
    simp only [w__law_year, ↓za, ↓zb, ↓zc, ↓zd, ↓ze, ↓zf, ↓zg, ↓zh, ↓zi, ↓zj, ↓zk, ↓zl, ↓zm, ↓zn, ↓zo, ↓zp, ↓zq, ↓zr, ↓zt, ↓zu, ↓zv, ↓zw, ↓zx, ↓zy, ↓zz, ↓z3, ↓z7, ↓z8, ↓z9, ↓zA, ↓zB, ↓zC, ↓zD, ↓zE, ↓zF, ↓zG, ↓zH, ↓zI, ↓zJ, ↓zK, ↓zL, ↓zM, ↓zN, ↓zO, ↓zP, ↓zQ, ↓zR, ↓zS, ↓zT, ↓zU, ↓zV, ↓zW, ↓zX, ↓zY, ↓zZ, ↓xa, ↓xb, ↓xf, ↓xg, ↓xh, ↓xi, ↓xj, ↓xk, ↓xl, ↓xm, ↓xo, ↓xq, ↓xt, ↓xu, ↓xw, ↓xy, ↓xz, ↓x5, ↓x6, ↓x7, ↓x8, ↓x9, ↓xB, ↓xD, ↓xE, ↓xF, ↓xG, ↓xH, ↓xI, ↓xJ, ↓xK, ↓xL, ↓xM, ↓xN, ↓xO, xP, xQ, ↓xR, ↓xS, ↓xT, ↓xU, ↓xV, ↓xW, ↓xX, ↓xY, ↓xZ, ↓qb, ↓qc, ↓qd, ↓qf, ↓qg, ↓qh, ↓qi, ↓qj, ↓qk, dLt, dLe, dGt, dGe, ql, qm, qo, qp, qq, dI2, qr, qt, dEq, dNe, qu, qv, qw, qx, qy, qz, q8, q9, qA, qB, Option.some.injEq, qC, qD, qE, qF, qG, dIs, qH, qI, shs, kiC, qJ, qK, obD, id_eq, List.getElem?_cons_zero, List.getElem?_cons_succ, List.set_cons_zero, List.set_cons_succ, List.length_cons, List.length_nil, D.bl.injEq, exists_eq_left', decide_eq_true_eq, decide_eq_false_iff_not, Bool.not_eq_true', Bool.not_eq_false', Nat.zero_add, Nat.reduceAdd, true_and, and_true, forall_const, reduceCtorEq, not_true_eq_false, not_false_eq_true, false_implies, true_implies, implies_true, qL, Nat.reduceLeDiff, Int.reduceLE, Int.reduceLT, Int.reduceNeg, Int.reducePow, Int.reduceAdd, Int.reduceSub, Int.reduceMul, Rl.ds]
    refine for_pre (fun dn ρ => ∃ s4 s5 s6, ρ = [.sh (.lst r.ds), .sh k.dd, .sh (.str f), .ok ((dn.map fun c : Ctr => c.nm).map Sum.inr) (dn.map fun c : Ctr => .int (c.yr f (k.at c.nm))), s4, s5, s6]) ?_ ?_ _ ⟨_, _, _, rfl⟩
    · rintro dn c rest e ρ ⟨s4, s5, s6, rfl⟩ C hC
      have hc : c ∈ r.ctrs := by rw [e]; simp
      have hst := ok.st c hc
      have hin : c.nm ∈ k.ns := by rw [hn]; exact List.mem_map.mpr ⟨c, hc, rfl⟩
      have hnew := new_name ok.nd e
      have hdl : dn.length < 16777215 := by have := congrArg List.length e; rw [List.length_append, List.length_cons] at this; omega
      simp only [↓za, ↓zb, ↓zc, ↓zd, ↓ze, ↓zf, ↓zg, ↓zh, ↓zi, ↓zj, ↓zk, ↓zl, ↓zm, ↓zn, ↓zo, ↓zp, ↓zq, ↓zr, ↓zt, ↓zu, ↓zv, ↓zw, ↓zx, ↓zy, ↓zz, ↓z3, ↓z7, ↓z8, ↓z9, ↓zA, ↓zB, ↓zC, ↓zD, ↓zE, ↓zF, ↓zG, ↓zH, ↓zI, ↓zJ, ↓zK, ↓zL, ↓zM, ↓zN, ↓zO, ↓zP, ↓zQ, ↓zR, ↓zS, ↓zT, ↓zU, ↓zV, ↓zW, ↓zX, ↓zY, ↓zZ, ↓xa, ↓xb, ↓xf, ↓xg, ↓xh, ↓xi, ↓xj, ↓xk, ↓xl, ↓xm, ↓xo, ↓xq, ↓xt, ↓xu, ↓xw, ↓xy, ↓xz, ↓x5, ↓x6, ↓x7, ↓x8, ↓x9, ↓xB, ↓xD, ↓xE, ↓xF, ↓xG, ↓xH, ↓xI, ↓xJ, ↓xK, ↓xL, ↓xM, ↓xN, ↓xO, xP, xQ, ↓xR, ↓xS, ↓xT, ↓xU, ↓xV, ↓xW, ↓xX, ↓xY, ↓xZ, ↓qb, ↓qc, ↓qd, ↓qf, ↓qg, ↓qh, ↓qi, ↓qj, ↓qk, dLt, dLe, dGt, dGe, ql, qm, qo, qp, qq, dI2, qr, qt, dEq, dNe, qu, qv, qw, qx, qy, qz, q8, q9, qA, qB, Option.some.injEq, qC, qD, qE, qF, qG, dIs, qH, qI, shs, kiC, qJ, qK, obD, id_eq, List.getElem?_cons_zero, List.getElem?_cons_succ, List.set_cons_zero, List.set_cons_succ, List.length_cons, List.length_nil, D.bl.injEq, exists_eq_left', decide_eq_true_eq, decide_eq_false_iff_not, Bool.not_eq_true', Bool.not_eq_false', Nat.zero_add, Nat.reduceAdd, true_and, and_true, forall_const, reduceCtorEq, not_true_eq_false, not_false_eq_true, false_implies, true_implies, implies_true, qL, Nat.reduceLeDiff, Int.reduceLE, Int.reduceLT, Int.reduceNeg, Int.reducePow, Int.reduceAdd, Int.reduceSub, Int.reduceMul, Ctr.dd]
      have hp1 : ∀ y : D, putA ((dn.map fun c : Ctr => c.nm).map Sum.inr : List Key) (dn.map fun c : Ctr => D.int (c.yr f (k.at c.nm))) (.inr c.nm) y = (((dn.map fun c : Ctr => c.nm) ++ [c.nm]).map Sum.inr, (dn.map fun c : Ctr => D.int (c.yr f (k.at c.nm))) ++ [y]) := fun y => putA_str hnew
      have hp2 : ∀ x y : D, putA (((dn.map fun c : Ctr => c.nm) ++ [c.nm]).map Sum.inr : List Key) ((dn.map fun c : Ctr => D.int (c.yr f (k.at c.nm))) ++ [x]) (.inr c.nm) y = (((dn.map fun c : Ctr => c.nm) ++ [c.nm]).map Sum.inr, (dn.map fun c : Ctr => D.int (c.yr f (k.at c.nm))) ++ [y]) := fun x y => putA_last hnew (by rw [List.length_map, List.length_map])
      have hfin : ∀ y, c.yr f (k.at c.nm) = y → C [.sh (.lst r.ds), .sh k.dd, .sh (.str f), .ok (((dn.map fun c : Ctr => c.nm) ++ [c.nm]).map Sum.inr) ((dn.map fun c : Ctr => D.int (c.yr f (k.at c.nm))) ++ [.int y]), .sh (.str c.nm), .sh (.int c.cap), .sh c.steps] := fun y hy => by
        have e1 : (((dn ++ [c]).map fun c : Ctr => c.nm).map Sum.inr : List Key) = ((dn.map fun c : Ctr => c.nm) ++ [c.nm]).map Sum.inr := by rw [List.map_append]; rfl
        have e2 : ((dn ++ [c]).map fun c : Ctr => D.int (c.yr f (k.at c.nm))) = (dn.map fun c : Ctr => D.int (c.yr f (k.at c.nm))) ++ [.int y] := by rw [List.map_append, ← hy]; rfl
        exact hC _ ⟨_, _, _, by rw [e1, e2]⟩
      have hl1 : ((dn.map fun c : Ctr => c.nm).map Sum.inr : List Key).length < 16777216 := by rw [List.length_map, List.length_map]; omega
      have hl2 : (((dn.map fun c : Ctr => c.nm) ++ [c.nm]).map Sum.inr : List Key).length < 16777216 := by rw [List.length_map, List.length_append, List.length_map]; simp; omega
      refine Cts.ix hl hin ⟨⟨_, rfl, True.intro⟩, _, rfl, hl1, ?_⟩
      simp only [hp1, hp2]
      cases ho : lookG c.fs c.st f with
      | none =>
        refine Ctr.inS hst.1 ?_
        rw [ho]
        refine ⟨_, rfl, (fun z => nomatch z), fun _ => Ctr.inS hst.1 ?_⟩
        rw [ho]
        exact ⟨_, rfl, (fun z => nomatch z), fun _ => hfin _ (by rw [Ctr.yr, ho])⟩
      | some o =>
        refine Ctr.inS hst.1 ?_
        rw [ho]
        refine ⟨_, rfl, fun _ => Ctr.ixS hst.1 ho (dEq_reset ?_), fun z => nomatch z⟩
        cases o with
        | none => exact ⟨_, rfl, fun _ => ⟨⟨_, rfl, True.intro⟩, _, rfl, hl2, by rw [hp2]; exact hfin _ (by rw [Ctr.yr, ho])⟩, fun z => nomatch z⟩
        | some i =>
          refine ⟨_, rfl, (fun z => nomatch z), fun _ => Ctr.inS hst.1 ?_⟩
          rw [ho]
          exact ⟨_, rfl, fun _ => Cts.ix hl hin (Ctr.ixS hst.1 ho ⟨⟨_, rfl, True.intro⟩, _, rfl, hl2, by rw [hp2]; exact hfin _ (by rw [Ctr.yr, ho])⟩), fun z => nomatch z⟩
    · rintro ρ ⟨s4, s5, s6, rfl⟩
      simp only [↓za, ↓zb, ↓zc, ↓zd, ↓ze, ↓zf, ↓zg, ↓zh, ↓zi, ↓zj, ↓zk, ↓zl, ↓zm, ↓zn, ↓zo, ↓zp, ↓zq, ↓zr, ↓zt, ↓zu, ↓zv, ↓zw, ↓zx, ↓zy, ↓zz, ↓z3, ↓z7, ↓z8, ↓z9, ↓zA, ↓zB, ↓zC, ↓zD, ↓zE, ↓zF, ↓zG, ↓zH, ↓zI, ↓zJ, ↓zK, ↓zL, ↓zM, ↓zN, ↓zO, ↓zP, ↓zQ, ↓zR, ↓zS, ↓zT, ↓zU, ↓zV, ↓zW, ↓zX, ↓zY, ↓zZ, ↓xa, ↓xb, ↓xf, ↓xg, ↓xh, ↓xi, ↓xj, ↓xk, ↓xl, ↓xm, ↓xo, ↓xq, ↓xt, ↓xu, ↓xw, ↓xy, ↓xz, ↓x5, ↓x6, ↓x7, ↓x8, ↓x9, ↓xB, ↓xD, ↓xE, ↓xF, ↓xG, ↓xH, ↓xI, ↓xJ, ↓xK, ↓xL, ↓xM, ↓xN, ↓xO, xP, xQ, ↓xR, ↓xS, ↓xT, ↓xU, ↓xV, ↓xW, ↓xX, ↓xY, ↓xZ, ↓qb, ↓qc, ↓qd, ↓qf, ↓qg, ↓qh, ↓qi, ↓qj, ↓qk, dLt, dLe, dGt, dGe, ql, qm, qo, qp, qq, dI2, qr, qt, dEq, dNe, qu, qv, qw, qx, qy, qz, q8, q9, qA, qB, Option.some.injEq, qC, qD, qE, qF, qG, dIs, qH, qI, shs, kiC, qJ, qK, obD, id_eq, List.getElem?_cons_zero, List.getElem?_cons_succ, List.set_cons_zero, List.set_cons_succ, List.length_cons, List.length_nil, D.bl.injEq, exists_eq_left', decide_eq_true_eq, decide_eq_false_iff_not, Bool.not_eq_true', Bool.not_eq_false', Nat.zero_add, Nat.reduceAdd, true_and, and_true, forall_const, reduceCtorEq, not_true_eq_false, not_false_eq_true, false_implies, true_implies, implies_true, qL, Nat.reduceLeDiff, Int.reduceLE, Int.reduceLT, Int.reduceNeg, Int.reducePow, Int.reduceAdd, Int.reduceSub, Int.reduceMul]
      have e : (r.year k f).dd = .dk ((r.ctrs.map fun c : Ctr => c.nm).map Sum.inr) (r.ctrs.map fun c : Ctr => .int (c.yr f (k.at c.nm))) := by
        unfold Rl.year Cts.dd Rl.names
        rw [List.map_map, List.map_map]; rfl
      rw [e] at q; exact q
  · exact h.elim
/-! ### _law_gain -/
def wf__law_gain : WFn
  | [.sh (.lst ds), .sh e, .sh (.str f)], Q => ∃ (r : Rl) (k : Cts), ds = r.ds ∧ e = k.dd ∧ r.ok ∧ k.ns = r.names ∧ k.vs.length = k.ns.length ∧ Q (.int (r.gain k f))
  | _, _ => False
theorem len__law_gain : ∀ as Qd, wf__law_gain as Qd → as.length = 3 := fun as Qd h => by
  unfold wf__law_gain at h
  split at h
  · rfl
  · exact h.elim

def w__law_gain : WS := (wSeq (wAsg (wC (.int 0)) (wSt 3))
 (wSeq (wFor (wItL (wOp dIx (wPk 0) (wC (.int 2)))) (wTp [4, 5, 6])
 (wIf (wAnd (wTst (wOp dEq (wPk 5) (wPk 2))) (wTru (wCall wf__law_holds (asCons (wVar 6) (asCons (wVar 1) asNil)))))
 (wAsg (wOp qt (wPk 3) (wPk 4)) (wSt 3))
 wNext))
 (wRet (wVar 3))))

theorem p__law_gain : ∀ as Qd, wf__law_gain as Qd → w__law_gain (startD ["_law_scheme_here", "_law_counts", "_law_fact", "_law_found", "_law_amount_here", "_law_other", "_law_condition_here"] as) { nx := fun _ => Qd .non, rt := fun d _ => Qd d } := fun as Qd h => by
  unfold wf__law_gain at h
  split at h
  · rename_i ds e f
    obtain ⟨r, k, rfl, rfl, ok, hn, hl, q⟩ := h
    show w__law_gain [.sh (.lst r.ds), .sh k.dd, .sh (.str f), .no, .no, .no, .no] _
    simp only [w__law_gain, ↓za, ↓zb, ↓zc, ↓zd, ↓ze, ↓zf, ↓zg, ↓zh, ↓zi, ↓zj, ↓zk, ↓zl, ↓zm, ↓zn, ↓zo, ↓zp, ↓zq, ↓zr, ↓zt, ↓zu, ↓zv, ↓zw, ↓zx, ↓zy, ↓zz, ↓z3, ↓z7, ↓z8, ↓z9, ↓zA, ↓zB, ↓zC, ↓zD, ↓zE, ↓zF, ↓zG, ↓zH, ↓zI, ↓zJ, ↓zK, ↓zL, ↓zM, ↓zN, ↓zO, ↓zP, ↓zQ, ↓zR, ↓zS, ↓zT, ↓zU, ↓zV, ↓zW, ↓zX, ↓zY, ↓zZ, ↓xa, ↓xb, ↓xf, ↓xg, ↓xh, ↓xi, ↓xj, ↓xk, ↓xl, ↓xm, ↓xo, ↓xq, ↓xt, ↓xu, ↓xw, ↓xy, ↓xz, ↓x5, ↓x6, ↓x7, ↓x8, ↓x9, ↓xB, ↓xD, ↓xE, ↓xF, ↓xG, ↓xH, ↓xI, ↓xJ, ↓xK, ↓xL, ↓xM, ↓xN, ↓xO, xP, xQ, ↓xR, ↓xS, ↓xT, ↓xU, ↓xV, ↓xW, ↓xX, ↓xY, ↓xZ, ↓qb, ↓qc, ↓qd, ↓qf, ↓qg, ↓qh, ↓qi, ↓qj, ↓qk, dLt, dLe, dGt, dGe, ql, qm, qo, qp, qq, dI2, qr, qt, dEq, dNe, qu, qv, qw, qx, qy, qz, q8, q9, qA, qB, Option.some.injEq, qC, qD, qE, qF, qG, dIs, qH, qI, shs, kiC, qJ, qK, obD, id_eq, List.getElem?_cons_zero, List.getElem?_cons_succ, List.set_cons_zero, List.set_cons_succ, List.length_cons, List.length_nil, D.bl.injEq, exists_eq_left', decide_eq_true_eq, decide_eq_false_iff_not, Bool.not_eq_true', Bool.not_eq_false', Nat.zero_add, Nat.reduceAdd, true_and, and_true, forall_const, reduceCtorEq, not_true_eq_false, not_false_eq_true, false_implies, true_implies, implies_true, qL, Nat.reduceLeDiff, Int.reduceLE, Int.reduceLT, Int.reduceNeg, Int.reducePow, Int.reduceAdd, Int.reduceSub, Int.reduceMul, Rl.ds]
    refine ⟨_, rfl, ?_⟩
    show wForL _ _ (r.gains.map Gn.dd) _ _
    refine for_pre (fun dn ρ => ∃ s4 s5 s6, ρ = [.sh (.lst r.ds), .sh k.dd, .sh (.str f), .sh (.int ((dn.filter fun g : Gn => decide (g.fact = f) && holdsB g.cond k).map fun g : Gn => g.am).sum), s4, s5, s6]) ?_ ?_ _ ⟨_, _, _, rfl⟩
    · rintro dn g rest e ρ ⟨s4, s5, s6, rfl⟩ C hC
      have hg : g ∈ r.gains := by rw [e]; simp
      simp only [↓za, ↓zb, ↓zc, ↓zd, ↓ze, ↓zf, ↓zg, ↓zh, ↓zi, ↓zj, ↓zk, ↓zl, ↓zm, ↓zn, ↓zo, ↓zp, ↓zq, ↓zr, ↓zt, ↓zu, ↓zv, ↓zw, ↓zx, ↓zy, ↓zz, ↓z3, ↓z7, ↓z8, ↓z9, ↓zA, ↓zB, ↓zC, ↓zD, ↓zE, ↓zF, ↓zG, ↓zH, ↓zI, ↓zJ, ↓zK, ↓zL, ↓zM, ↓zN, ↓zO, ↓zP, ↓zQ, ↓zR, ↓zS, ↓zT, ↓zU, ↓zV, ↓zW, ↓zX, ↓zY, ↓zZ, ↓xa, ↓xb, ↓xf, ↓xg, ↓xh, ↓xi, ↓xj, ↓xk, ↓xl, ↓xm, ↓xo, ↓xq, ↓xt, ↓xu, ↓xw, ↓xy, ↓xz, ↓x5, ↓x6, ↓x7, ↓x8, ↓x9, ↓xB, ↓xD, ↓xE, ↓xF, ↓xG, ↓xH, ↓xI, ↓xJ, ↓xK, ↓xL, ↓xM, ↓xN, ↓xO, xP, xQ, ↓xR, ↓xS, ↓xT, ↓xU, ↓xV, ↓xW, ↓xX, ↓xY, ↓xZ, ↓qb, ↓qc, ↓qd, ↓qf, ↓qg, ↓qh, ↓qi, ↓qj, ↓qk, dLt, dLe, dGt, dGe, ql, qm, qo, qp, qq, dI2, qr, qt, dEq, dNe, qu, qv, qw, qx, qy, qz, q8, q9, qA, qB, Option.some.injEq, qC, qD, qE, qF, qG, dIs, qH, qI, shs, kiC, qJ, qK, obD, id_eq, List.getElem?_cons_zero, List.getElem?_cons_succ, List.set_cons_zero, List.set_cons_succ, List.length_cons, List.length_nil, D.bl.injEq, exists_eq_left', decide_eq_true_eq, decide_eq_false_iff_not, Bool.not_eq_true', Bool.not_eq_false', Nat.zero_add, Nat.reduceAdd, true_and, and_true, forall_const, reduceCtorEq, not_true_eq_false, not_false_eq_true, false_implies, true_implies, implies_true, qL, Nat.reduceLeDiff, Int.reduceLE, Int.reduceLT, Int.reduceNeg, Int.reducePow, Int.reduceAdd, Int.reduceSub, Int.reduceMul, Gn.dd, wf__law_holds]
      show ∃ b, D.bl (decide (g.fact = f)) = D.bl b ∧ _
      have skip : (decide (g.fact = f) && holdsB g.cond k) = false → (List.filter (fun g : Gn => decide (g.fact = f) && holdsB g.cond k) (dn ++ [g])) = List.filter (fun g : Gn => decide (g.fact = f) && holdsB g.cond k) dn := fun z => by
        rw [List.filter_append]
        simp only [List.filter_cons, List.filter_nil, z]
        simp
      have take : (decide (g.fact = f) && holdsB g.cond k) = true → (List.filter (fun g : Gn => decide (g.fact = f) && holdsB g.cond k) (dn ++ [g])) = List.filter (fun g : Gn => decide (g.fact = f) && holdsB g.cond k) dn ++ [g] := fun z => by
        rw [List.filter_append]
        simp only [List.filter_cons, List.filter_nil, z, if_true]
      refine ⟨_, rfl, fun e1 => ⟨g.cond, k, rfl, rfl, hl, (fun t ht => by rw [hn]; exact (ok.gc g hg).2 t ht), fun e2 => hC _ ⟨.sh (.int g.am), .sh (.str g.fact), .sh (condD g.cond), ?_⟩, fun e2 => hC _ ⟨.sh (.int g.am), .sh (.str g.fact), .sh (condD g.cond), ?_⟩⟩, fun e1 => hC _ ⟨.sh (.int g.am), .sh (.str g.fact), .sh (condD g.cond), ?_⟩⟩
      · rw [take (by rw [e1, e2]; rfl), sum_snoc]
      · rw [skip (by rw [e2, Bool.and_false])]
      · rw [skip (by rw [e1]; rfl)]
    · rintro ρ ⟨s4, s5, s6, rfl⟩
      simp only [↓za, ↓zb, ↓zc, ↓zd, ↓ze, ↓zf, ↓zg, ↓zh, ↓zi, ↓zj, ↓zk, ↓zl, ↓zm, ↓zn, ↓zo, ↓zp, ↓zq, ↓zr, ↓zt, ↓zu, ↓zv, ↓zw, ↓zx, ↓zy, ↓zz, ↓z3, ↓z7, ↓z8, ↓z9, ↓zA, ↓zB, ↓zC, ↓zD, ↓zE, ↓zF, ↓zG, ↓zH, ↓zI, ↓zJ, ↓zK, ↓zL, ↓zM, ↓zN, ↓zO, ↓zP, ↓zQ, ↓zR, ↓zS, ↓zT, ↓zU, ↓zV, ↓zW, ↓zX, ↓zY, ↓zZ, ↓xa, ↓xb, ↓xf, ↓xg, ↓xh, ↓xi, ↓xj, ↓xk, ↓xl, ↓xm, ↓xo, ↓xq, ↓xt, ↓xu, ↓xw, ↓xy, ↓xz, ↓x5, ↓x6, ↓x7, ↓x8, ↓x9, ↓xB, ↓xD, ↓xE, ↓xF, ↓xG, ↓xH, ↓xI, ↓xJ, ↓xK, ↓xL, ↓xM, ↓xN, ↓xO, xP, xQ, ↓xR, ↓xS, ↓xT, ↓xU, ↓xV, ↓xW, ↓xX, ↓xY, ↓xZ, ↓qb, ↓qc, ↓qd, ↓qf, ↓qg, ↓qh, ↓qi, ↓qj, ↓qk, dLt, dLe, dGt, dGe, ql, qm, qo, qp, qq, dI2, qr, qt, dEq, dNe, qu, qv, qw, qx, qy, qz, q8, q9, qA, qB, Option.some.injEq, qC, qD, qE, qF, qG, dIs, qH, qI, shs, kiC, qJ, qK, obD, id_eq, List.getElem?_cons_zero, List.getElem?_cons_succ, List.set_cons_zero, List.set_cons_succ, List.length_cons, List.length_nil, D.bl.injEq, exists_eq_left', decide_eq_true_eq, decide_eq_false_iff_not, Bool.not_eq_true', Bool.not_eq_false', Nat.zero_add, Nat.reduceAdd, true_and, and_true, forall_const, reduceCtorEq, not_true_eq_false, not_false_eq_true, false_implies, true_implies, implies_true, qL, Nat.reduceLeDiff, Int.reduceLE, Int.reduceLT, Int.reduceNeg, Int.reducePow, Int.reduceAdd, Int.reduceSub, Int.reduceMul]
      exact q
  · exact h.elim
/-! ### _law_leave -/
def wf__law_leave : WFn
  | [.sh (.lst ds), .sh e], Q => ∃ (r : Rl) (k : Cts), ds = r.ds ∧ e = k.dd ∧ r.ok ∧ k.ns = r.names ∧ k.vs.length = k.ns.length ∧ Q (.int (r.lv k))
  | _, _ => False
theorem len__law_leave : ∀ as Qd, wf__law_leave as Qd → as.length = 2 := fun as Qd h => by
  unfold wf__law_leave at h
  split at h
  · rfl
  · exact h.elim

def w__law_leave : WS := (wSeq (wAsg (wC (.int 0)) (wSt 2))
 (wSeq (wFor (wItL (wOp dIx (wPk 0) (wC (.int 3)))) (wTp [3, 4])
 (wIf (wTru (wCall wf__law_holds (asCons (wVar 4) (asCons (wVar 1) asNil))))
 (wAsg (wOp qt (wPk 2) (wPk 3)) (wSt 2))
 wNext))
 (wRet (wVar 2))))

theorem p__law_leave : ∀ as Qd, wf__law_leave as Qd → w__law_leave (startD ["_law_scheme_here", "_law_counts", "_law_found", "_law_amount_here", "_law_condition_here"] as) { nx := fun _ => Qd .non, rt := fun d _ => Qd d } := fun as Qd h => by
  unfold wf__law_leave at h
  split at h
  · obtain ⟨r, k, rfl, rfl, ok, hn, hl, q⟩ := h
    show w__law_leave [.sh (.lst r.ds), .sh k.dd, .no, .no, .no] _
    simp only [w__law_leave, ↓za, ↓zb, ↓zc, ↓zd, ↓ze, ↓zf, ↓zg, ↓zh, ↓zi, ↓zj, ↓zk, ↓zl, ↓zm, ↓zn, ↓zo, ↓zp, ↓zq, ↓zr, ↓zt, ↓zu, ↓zv, ↓zw, ↓zx, ↓zy, ↓zz, ↓z3, ↓z7, ↓z8, ↓z9, ↓zA, ↓zB, ↓zC, ↓zD, ↓zE, ↓zF, ↓zG, ↓zH, ↓zI, ↓zJ, ↓zK, ↓zL, ↓zM, ↓zN, ↓zO, ↓zP, ↓zQ, ↓zR, ↓zS, ↓zT, ↓zU, ↓zV, ↓zW, ↓zX, ↓zY, ↓zZ, ↓xa, ↓xb, ↓xf, ↓xg, ↓xh, ↓xi, ↓xj, ↓xk, ↓xl, ↓xm, ↓xo, ↓xq, ↓xt, ↓xu, ↓xw, ↓xy, ↓xz, ↓x5, ↓x6, ↓x7, ↓x8, ↓x9, ↓xB, ↓xD, ↓xE, ↓xF, ↓xG, ↓xH, ↓xI, ↓xJ, ↓xK, ↓xL, ↓xM, ↓xN, ↓xO, xP, xQ, ↓xR, ↓xS, ↓xT, ↓xU, ↓xV, ↓xW, ↓xX, ↓xY, ↓xZ, ↓qb, ↓qc, ↓qd, ↓qf, ↓qg, ↓qh, ↓qi, ↓qj, ↓qk, dLt, dLe, dGt, dGe, ql, qm, qo, qp, qq, dI2, qr, qt, dEq, dNe, qu, qv, qw, qx, qy, qz, q8, q9, qA, qB, Option.some.injEq, qC, qD, qE, qF, qG, dIs, qH, qI, shs, kiC, qJ, qK, obD, id_eq, List.getElem?_cons_zero, List.getElem?_cons_succ, List.set_cons_zero, List.set_cons_succ, List.length_cons, List.length_nil, D.bl.injEq, exists_eq_left', decide_eq_true_eq, decide_eq_false_iff_not, Bool.not_eq_true', Bool.not_eq_false', Nat.zero_add, Nat.reduceAdd, true_and, and_true, forall_const, reduceCtorEq, not_true_eq_false, not_false_eq_true, false_implies, true_implies, implies_true, qL, Nat.reduceLeDiff, Int.reduceLE, Int.reduceLT, Int.reduceNeg, Int.reducePow, Int.reduceAdd, Int.reduceSub, Int.reduceMul, Rl.ds]
    refine ⟨_, rfl, ?_⟩
    show wForL _ _ (r.leaves.map Lv.dd) _ _
    refine for_pre (fun dn ρ => ∃ s3 s4, ρ = [.sh (.lst r.ds), .sh k.dd, .sh (.int ((dn.filter fun g : Lv => holdsB g.cond k).map fun g : Lv => g.am).sum), s3, s4]) ?_ ?_ _ ⟨_, _, rfl⟩
    · rintro dn g rest e ρ ⟨s3, s4, rfl⟩ C hC
      have hg : g ∈ r.leaves := by rw [e]; simp
      simp only [↓za, ↓zb, ↓zc, ↓zd, ↓ze, ↓zf, ↓zg, ↓zh, ↓zi, ↓zj, ↓zk, ↓zl, ↓zm, ↓zn, ↓zo, ↓zp, ↓zq, ↓zr, ↓zt, ↓zu, ↓zv, ↓zw, ↓zx, ↓zy, ↓zz, ↓z3, ↓z7, ↓z8, ↓z9, ↓zA, ↓zB, ↓zC, ↓zD, ↓zE, ↓zF, ↓zG, ↓zH, ↓zI, ↓zJ, ↓zK, ↓zL, ↓zM, ↓zN, ↓zO, ↓zP, ↓zQ, ↓zR, ↓zS, ↓zT, ↓zU, ↓zV, ↓zW, ↓zX, ↓zY, ↓zZ, ↓xa, ↓xb, ↓xf, ↓xg, ↓xh, ↓xi, ↓xj, ↓xk, ↓xl, ↓xm, ↓xo, ↓xq, ↓xt, ↓xu, ↓xw, ↓xy, ↓xz, ↓x5, ↓x6, ↓x7, ↓x8, ↓x9, ↓xB, ↓xD, ↓xE, ↓xF, ↓xG, ↓xH, ↓xI, ↓xJ, ↓xK, ↓xL, ↓xM, ↓xN, ↓xO, xP, xQ, ↓xR, ↓xS, ↓xT, ↓xU, ↓xV, ↓xW, ↓xX, ↓xY, ↓xZ, ↓qb, ↓qc, ↓qd, ↓qf, ↓qg, ↓qh, ↓qi, ↓qj, ↓qk, dLt, dLe, dGt, dGe, ql, qm, qo, qp, qq, dI2, qr, qt, dEq, dNe, qu, qv, qw, qx, qy, qz, q8, q9, qA, qB, Option.some.injEq, qC, qD, qE, qF, qG, dIs, qH, qI, shs, kiC, qJ, qK, obD, id_eq, List.getElem?_cons_zero, List.getElem?_cons_succ, List.set_cons_zero, List.set_cons_succ, List.length_cons, List.length_nil, D.bl.injEq, exists_eq_left', decide_eq_true_eq, decide_eq_false_iff_not, Bool.not_eq_true', Bool.not_eq_false', Nat.zero_add, Nat.reduceAdd, true_and, and_true, forall_const, reduceCtorEq, not_true_eq_false, not_false_eq_true, false_implies, true_implies, implies_true, qL, Nat.reduceLeDiff, Int.reduceLE, Int.reduceLT, Int.reduceNeg, Int.reducePow, Int.reduceAdd, Int.reduceSub, Int.reduceMul, Lv.dd, wf__law_holds]
      refine ⟨g.cond, k, rfl, rfl, hl, (fun t ht => by rw [hn]; exact (ok.lc g hg).2 t ht), fun e2 => hC _ ⟨.sh (.int g.am), .sh (condD g.cond), ?_⟩, fun e2 => hC _ ⟨.sh (.int g.am), .sh (condD g.cond), ?_⟩⟩
      · have e3 : List.filter (fun g : Lv => holdsB g.cond k) (dn ++ [g]) = List.filter (fun g : Lv => holdsB g.cond k) dn ++ [g] := by
          rw [List.filter_append]
          simp only [List.filter_cons, List.filter_nil, e2, if_true]
        rw [e3, sum_snoc]
      · have e3 : List.filter (fun g : Lv => holdsB g.cond k) (dn ++ [g]) = List.filter (fun g : Lv => holdsB g.cond k) dn := by
          rw [List.filter_append]
          simp only [List.filter_cons, List.filter_nil, e2]
          simp
        rw [e3]
    · rintro ρ ⟨s3, s4, rfl⟩
      simp only [↓za, ↓zb, ↓zc, ↓zd, ↓ze, ↓zf, ↓zg, ↓zh, ↓zi, ↓zj, ↓zk, ↓zl, ↓zm, ↓zn, ↓zo, ↓zp, ↓zq, ↓zr, ↓zt, ↓zu, ↓zv, ↓zw, ↓zx, ↓zy, ↓zz, ↓z3, ↓z7, ↓z8, ↓z9, ↓zA, ↓zB, ↓zC, ↓zD, ↓zE, ↓zF, ↓zG, ↓zH, ↓zI, ↓zJ, ↓zK, ↓zL, ↓zM, ↓zN, ↓zO, ↓zP, ↓zQ, ↓zR, ↓zS, ↓zT, ↓zU, ↓zV, ↓zW, ↓zX, ↓zY, ↓zZ, ↓xa, ↓xb, ↓xf, ↓xg, ↓xh, ↓xi, ↓xj, ↓xk, ↓xl, ↓xm, ↓xo, ↓xq, ↓xt, ↓xu, ↓xw, ↓xy, ↓xz, ↓x5, ↓x6, ↓x7, ↓x8, ↓x9, ↓xB, ↓xD, ↓xE, ↓xF, ↓xG, ↓xH, ↓xI, ↓xJ, ↓xK, ↓xL, ↓xM, ↓xN, ↓xO, xP, xQ, ↓xR, ↓xS, ↓xT, ↓xU, ↓xV, ↓xW, ↓xX, ↓xY, ↓xZ, ↓qb, ↓qc, ↓qd, ↓qf, ↓qg, ↓qh, ↓qi, ↓qj, ↓qk, dLt, dLe, dGt, dGe, ql, qm, qo, qp, qq, dI2, qr, qt, dEq, dNe, qu, qv, qw, qx, qy, qz, q8, q9, qA, qB, Option.some.injEq, qC, qD, qE, qF, qG, dIs, qH, qI, shs, kiC, qJ, qK, obD, id_eq, List.getElem?_cons_zero, List.getElem?_cons_succ, List.set_cons_zero, List.set_cons_succ, List.length_cons, List.length_nil, D.bl.injEq, exists_eq_left', decide_eq_true_eq, decide_eq_false_iff_not, Bool.not_eq_true', Bool.not_eq_false', Nat.zero_add, Nat.reduceAdd, true_and, and_true, forall_const, reduceCtorEq, not_true_eq_false, not_false_eq_true, false_implies, true_implies, implies_true, qL, Nat.reduceLeDiff, Int.reduceLE, Int.reduceLT, Int.reduceNeg, Int.reducePow, Int.reduceAdd, Int.reduceSub, Int.reduceMul]
      exact q
  · exact h.elim
/-! ### _law_career -/
theorem strs_lc {fs : List Str} {ds : List D} {vs : List Nat} {wg : WG} {we : WE} {ρ : List Sl} {Q : List D → List Sl → Prop}
    (step : ∀ d ∈ ds, ∀ Kt : D → List Sl → Prop, (∀ v, v ∈ fs → Kt (.str v) ρ) → wg d ρ fun ρ1 => we ρ1 fun y ρ3 => noOwnB ρ3 vs = true ∧ Kt y (wipeD ρ3 vs))
    (q : ∀ w : List Str, w.length = ds.length → (∀ v ∈ w, v ∈ fs) → Q (w.map D.str) ρ) : wLcL vs wg wYes we ds ρ [] Q := by
  refine wLcL_rule (fun d => d ∈ ds) (fun _ o => ∃ y, o = some y ∧ ∃ v : Str, y = .str v ∧ v ∈ fs) ?_ _ _ _ (fun d h => h) ?_
  · rintro d hd Kt Kf ht hf
    simp only [↓za, ↓zb, ↓zc, ↓zd, ↓ze, ↓zf, ↓zg, ↓zh, ↓zi, ↓zj, ↓zk, ↓zl, ↓zm, ↓zn, ↓zo, ↓zp, ↓zq, ↓zr, ↓zt, ↓zu, ↓zv, ↓zw, ↓zx, ↓zy, ↓zz, ↓z3, ↓z7, ↓z8, ↓z9, ↓zA, ↓zB, ↓zC, ↓zD, ↓zE, ↓zF, ↓zG, ↓zH, ↓zI, ↓zJ, ↓zK, ↓zL, ↓zM, ↓zN, ↓zO, ↓zP, ↓zQ, ↓zR, ↓zS, ↓zT, ↓zU, ↓zV, ↓zW, ↓zX, ↓zY, ↓zZ, ↓xa, ↓xb, ↓xf, ↓xg, ↓xh, ↓xi, ↓xj, ↓xk, ↓xl, ↓xm, ↓xo, ↓xq, ↓xt, ↓xu, ↓xw, ↓xy, ↓xz, ↓x5, ↓x6, ↓x7, ↓x8, ↓x9, ↓xB, ↓xD, ↓xE, ↓xF, ↓xG, ↓xH, ↓xI, ↓xJ, ↓xK, ↓xL, ↓xM, ↓xN, ↓xO, xP, xQ, ↓xR, ↓xS, ↓xT, ↓xU, ↓xV, ↓xW, ↓xX, ↓xY, ↓xZ, ↓qb, ↓qc, ↓qd, ↓qf, ↓qg, ↓qh, ↓qi, ↓qj, ↓qk, dLt, dLe, dGt, dGe, ql, qm, qo, qp, qq, dI2, qr, qt, dEq, dNe, qu, qv, qw, qx, qy, qz, q8, q9, qA, qB, Option.some.injEq, qC, qD, qE, qF, qG, dIs, qH, qI, shs, kiC, qJ, qK, obD, id_eq, List.getElem?_cons_zero, List.getElem?_cons_succ, List.set_cons_zero, List.set_cons_succ, List.length_cons, List.length_nil, D.bl.injEq, exists_eq_left', decide_eq_true_eq, decide_eq_false_iff_not, Bool.not_eq_true', Bool.not_eq_false', Nat.zero_add, Nat.reduceAdd, true_and, and_true, forall_const, reduceCtorEq, not_true_eq_false, not_false_eq_true, false_implies, true_implies, implies_true, qL, Nat.reduceLeDiff, Int.reduceLE, Int.reduceLT, Int.reduceNeg, Int.reducePow, Int.reduceAdd, Int.reduceSub, Int.reduceMul]
    exact step d hd Kt fun v hv => ht _ ⟨_, rfl, v, rfl, hv⟩
  · intro ys hy
    obtain ⟨y1, y2⟩ := hy.all
    have so : ∀ {ys : List D}, (∀ y ∈ ys, ∃ v : Str, y = .str v ∧ v ∈ fs) → ∃ w : List Str, ys = w.map D.str ∧ (∀ v ∈ w, v ∈ fs) ∧ w.length = ys.length := fun {ys} => by
      induction ys with
      | nil => intro _; exact ⟨[], rfl, (fun v hv => nomatch hv), rfl⟩
      | cons y ys ih =>
        intro h
        obtain ⟨v, rfl, hv⟩ := h _ List.mem_cons_self
        obtain ⟨w, rfl, h1, h2⟩ := ih fun y hy => h y (List.mem_cons_of_mem _ hy)
        exact ⟨v :: w, rfl, fun z hz => (List.mem_cons.mp hz).elim (fun e => e ▸ hv) (h1 z), by simp⟩
    obtain ⟨w, rfl, c2, c3⟩ := so y2
    rw [List.nil_append]
    exact q w (by rw [c3, y1]) c2
def wf__law_career : WFn
  | [.bx, .sh (.lst ds), .sh (.int most)], Q => ∃ fs : List Str, ds = fs.map D.str ∧ 1 ≤ fs.length ∧ fs.length ≤ 6 ∧ 0 ≤ most ∧ most ≤ 20 ∧ ∀ w : List Str, (∀ f ∈ w, f ∈ fs) → (w.length : Int) ≤ most → Q (.lst (w.map D.str))
  | _, _ => False
theorem len__law_career : ∀ as Qd, wf__law_career as Qd → as.length = 3 := fun as Qd h => by
  unfold wf__law_career at h
  split at h
  · rfl
  · exact h.elim

def w__law_career : WS := (wRet (wFz (wLc [3] (wRg1 (waCons (wCall wf__law_draw (asBox 0 (asCons (wOp qt (wPk 2) (wC (.int 1))) asNil))) waNil)) (wSt 3) wYes (wOp dIx (wPk 1) (wCall wf__law_draw (asBox 0 (asCons (wUn qu (wPk 1)) asNil)))))))

theorem p__law_career : ∀ as Qd, wf__law_career as Qd → w__law_career (startD ["_law_box", "_law_facts_here", "_law_most", "_law_k"] as) { nx := fun _ => Qd .non, rt := fun d _ => Qd d } := fun as Qd h => by
  unfold wf__law_career at h
  split at h
  · rename_i ds most
    obtain ⟨fs, rfl, h1, h3, m0, m1, q⟩ := h
    show w__law_career [.bx, .sh (.lst (fs.map D.str)), .sh (.int most), .no] _
    simp only [w__law_career, ↓za, ↓zb, ↓zc, ↓zd, ↓ze, ↓zf, ↓zg, ↓zh, ↓zi, ↓zj, ↓zk, ↓zl, ↓zm, ↓zn, ↓zo, ↓zp, ↓zq, ↓zr, ↓zt, ↓zu, ↓zv, ↓zw, ↓zx, ↓zy, ↓zz, ↓z3, ↓z7, ↓z8, ↓z9, ↓zA, ↓zB, ↓zC, ↓zD, ↓zE, ↓zF, ↓zG, ↓zH, ↓zI, ↓zJ, ↓zK, ↓zL, ↓zM, ↓zN, ↓zO, ↓zP, ↓zQ, ↓zR, ↓zS, ↓zT, ↓zU, ↓zV, ↓zW, ↓zX, ↓zY, ↓zZ, ↓xa, ↓xb, ↓xf, ↓xg, ↓xh, ↓xi, ↓xj, ↓xk, ↓xl, ↓xm, ↓xo, ↓xq, ↓xt, ↓xu, ↓xw, ↓xy, ↓xz, ↓x5, ↓x6, ↓x7, ↓x8, ↓x9, ↓xB, ↓xD, ↓xE, ↓xF, ↓xG, ↓xH, ↓xI, ↓xJ, ↓xK, ↓xL, ↓xM, ↓xN, ↓xO, xP, xQ, ↓xR, ↓xS, ↓xT, ↓xU, ↓xV, ↓xW, ↓xX, ↓xY, ↓xZ, ↓qb, ↓qc, ↓qd, ↓qf, ↓qg, ↓qh, ↓qi, ↓qj, ↓qk, dLt, dLe, dGt, dGe, ql, qm, qo, qp, qq, dI2, qr, qt, dEq, dNe, qu, qv, qw, qx, qy, qz, q8, q9, qA, qB, Option.some.injEq, qC, qD, qE, qF, qG, dIs, qH, qI, shs, kiC, qJ, qK, obD, id_eq, List.getElem?_cons_zero, List.getElem?_cons_succ, List.set_cons_zero, List.set_cons_succ, List.length_cons, List.length_nil, D.bl.injEq, exists_eq_left', decide_eq_true_eq, decide_eq_false_iff_not, Bool.not_eq_true', Bool.not_eq_false', Nat.zero_add, Nat.reduceAdd, true_and, and_true, forall_const, reduceCtorEq, not_true_eq_false, not_false_eq_true, false_implies, true_implies, implies_true, qL, Nat.reduceLeDiff, Int.reduceLE, Int.reduceLT, Int.reduceNeg, Int.reducePow, Int.reduceAdd, Int.reduceSub, Int.reduceMul, wf__law_draw]
    refine ⟨by omega, fun n n0 n1 => ⟨⟨by omega, by omega⟩, by rw [rangeD_length]; omega, rfl, ?_⟩⟩
    refine strs_lc (fs := fs) (ρ := [_, _, _, .no]) (fun d hd Kt ht => ?_) (fun w hw hm => ⟨rfl, ?_⟩)
    · simp only [↓za, ↓zb, ↓zc, ↓zd, ↓ze, ↓zf, ↓zg, ↓zh, ↓zi, ↓zj, ↓zk, ↓zl, ↓zm, ↓zn, ↓zo, ↓zp, ↓zq, ↓zr, ↓zt, ↓zu, ↓zv, ↓zw, ↓zx, ↓zy, ↓zz, ↓z3, ↓z7, ↓z8, ↓z9, ↓zA, ↓zB, ↓zC, ↓zD, ↓zE, ↓zF, ↓zG, ↓zH, ↓zI, ↓zJ, ↓zK, ↓zL, ↓zM, ↓zN, ↓zO, ↓zP, ↓zQ, ↓zR, ↓zS, ↓zT, ↓zU, ↓zV, ↓zW, ↓zX, ↓zY, ↓zZ, ↓xa, ↓xb, ↓xf, ↓xg, ↓xh, ↓xi, ↓xj, ↓xk, ↓xl, ↓xm, ↓xo, ↓xq, ↓xt, ↓xu, ↓xw, ↓xy, ↓xz, ↓x5, ↓x6, ↓x7, ↓x8, ↓x9, ↓xB, ↓xD, ↓xE, ↓xF, ↓xG, ↓xH, ↓xI, ↓xJ, ↓xK, ↓xL, ↓xM, ↓xN, ↓xO, xP, xQ, ↓xR, ↓xS, ↓xT, ↓xU, ↓xV, ↓xW, ↓xX, ↓xY, ↓xZ, ↓qb, ↓qc, ↓qd, ↓qf, ↓qg, ↓qh, ↓qi, ↓qj, ↓qk, dLt, dLe, dGt, dGe, ql, qm, qo, qp, qq, dI2, qr, qt, dEq, dNe, qu, qv, qw, qx, qy, qz, q8, q9, qA, qB, Option.some.injEq, qC, qD, qE, qF, qG, dIs, qH, qI, shs, kiC, qJ, qK, obD, id_eq, List.getElem?_cons_zero, List.getElem?_cons_succ, List.set_cons_zero, List.set_cons_succ, List.length_cons, List.length_nil, D.bl.injEq, exists_eq_left', decide_eq_true_eq, decide_eq_false_iff_not, Bool.not_eq_true', Bool.not_eq_false', Nat.zero_add, Nat.reduceAdd, true_and, and_true, forall_const, reduceCtorEq, not_true_eq_false, not_false_eq_true, false_implies, true_implies, implies_true, qL, Nat.reduceLeDiff, Int.reduceLE, Int.reduceLT, Int.reduceNeg, Int.reducePow, Int.reduceAdd, Int.reduceSub, Int.reduceMul, wipeD, List.reverse_cons, List.reverse_nil, List.nil_append, noOwnB, List.all_cons, List.all_nil, Bool.and_true, Bool.true_and, wf__law_draw, List.length_map]
      refine ⟨by omega, fun r r0 r1 => ?_⟩
      obtain ⟨x, hx, e⟩ := strs_at r0 r1
      exact ⟨_, e, ht x hx⟩
    · exact q w hm (by rw [hw, rangeD_length]; omega)
  · exact h.elim

/-! ### law -/

def w_law0 : WE := (wFz (wfLst (waCons (wCall wf__law_digits (asCons (wVar 0) (asCons (wC (.int 0)) (asCons (wC (.int 63)) asNil)))) (waCons (wC (.int 0)) waNil))))
def w_law1 : WS := (wSeq (wAsg (wCall wf__law_scheme (asBox 1 (asCons (wCall wf__law_facts (asBox 1 asNil)) asNil))) (wSt 2))
 (wSeq (wAsg (wMake "Rules" wf_Rules_init (asCons (wOp dIx (wPk 2) (wC (.int 0))) (asCons (wOp dIx (wPk 2) (wC (.int 1))) (asCons (wOp dIx (wPk 2) (wC (.int 2))) (asCons (wOp dIx (wPk 2) (wC (.int 3))) asNil))))) (wSt 3))
 (wSeq (wAsg (wCall wf_first_counts (asCons (wVar 3) asNil)) (wSt 4))
 (wSeq (wIf (wTst (wOp dNeS (wPk 4) (wCall wf__law_zero (asCons (wVar 2) asNil))))
 (wRet (wC (.bl false)))
 wNext)
 (wSeq (wFor (wItL (wCall wf__law_career (asBox 1 (asCons (wOp dIx (wPk 2) (wC (.int 0))) (asCons (wC (.int 12)) asNil))))) (wSt 7)
 (wSeq (wAsg (wUn dDict (wPk 4)) (wSt 5))
 (wSeq (wIf (wOr (wTst (wOp dNe (wCall wf_year_gain (asCons (wVar 3) (asCons (wVar 4) (asCons (wVar 7) asNil)))) (wCall wf__law_gain (asCons (wVar 2) (asCons (wVar 4) (asCons (wVar 7) asNil)))))) (wTst (wOp dNe (wCall wf_leave_gain (asCons (wVar 3) (asCons (wVar 4) asNil))) (wCall wf__law_leave (asCons (wVar 2) (asCons (wVar 4) asNil))))))
 (wRet (wC (.bl false)))
 wNext)
 (wSeq (wAsg (wCall wf_year_counts (asCons (wVar 3) (asCons (wVar 4) (asCons (wVar 7) asNil)))) (wSt 6))
 (wSeq (wIf (wOr (wNot (wTst (wUn (dIsiK "dict") (wPk 6)))) (wOr (wTst (wOp dNeS (wPk 6) (wCall wf__law_year (asCons (wVar 2) (asCons (wVar 4) (asCons (wVar 7) asNil)))))) (wOr (wTst (wOp dNe (wUn dListK (wPk 6)) (wMeth "Rules" "names" wf_Rules_names (wVar 3) asNil))) (wTst (wOp dNeS (wPk 4) (wPk 5))))))
 (wRet (wC (.bl false)))
 wNext)
 (wAsg (wVar 6) (wSt 4)))))))
 (wRet (wOp dEq (wCall wf_leave_gain (asCons (wVar 3) (asCons (wVar 4) asNil))) (wCall wf__law_leave (asCons (wVar 2) (asCons (wVar 4) asNil))))))))))
theorem p_law0 : ∀ ns : List Int, w_law0 (scrD ns :: List.replicate 7 .no) fun d ρ => ρ = scrD ns :: List.replicate 7 .no ∧ ∃ ms : List Int, d = .lst [.lst (ms.map D.int), .int 0] := fun ns => by
  simp only [w_law0, ↓za, ↓zb, ↓zc, ↓zd, ↓ze, ↓zf, ↓zg, ↓zh, ↓zi, ↓zj, ↓zk, ↓zl, ↓zm, ↓zn, ↓zo, ↓zp, ↓zq, ↓zr, ↓zt, ↓zu, ↓zv, ↓zw, ↓zx, ↓zy, ↓zz, ↓z3, ↓z7, ↓z8, ↓z9, ↓zA, ↓zB, ↓zC, ↓zD, ↓zE, ↓zF, ↓zG, ↓zH, ↓zI, ↓zJ, ↓zK, ↓zL, ↓zM, ↓zN, ↓zO, ↓zP, ↓zQ, ↓zR, ↓zS, ↓zT, ↓zU, ↓zV, ↓zW, ↓zX, ↓zY, ↓zZ, ↓xa, ↓xb, ↓xf, ↓xg, ↓xh, ↓xi, ↓xj, ↓xk, ↓xl, ↓xm, ↓xo, ↓xq, ↓xt, ↓xu, ↓xw, ↓xy, ↓xz, ↓x5, ↓x6, ↓x7, ↓x8, ↓x9, ↓xB, ↓xD, ↓xE, ↓xF, ↓xG, ↓xH, ↓xI, ↓xJ, ↓xK, ↓xL, ↓xM, ↓xN, ↓xO, xP, xQ, ↓xR, ↓xS, ↓xT, ↓xU, ↓xV, ↓xW, ↓xX, ↓xY, ↓xZ, ↓qb, ↓qc, ↓qd, ↓qf, ↓qg, ↓qh, ↓qi, ↓qj, ↓qk, dLt, dLe, dGt, dGe, ql, qm, qo, qp, qq, dI2, qr, qt, dEq, dNe, qu, qv, qw, qx, qy, qz, q8, q9, qA, qB, Option.some.injEq, qC, qD, qE, qF, qG, dIs, qH, qI, shs, kiC, qJ, qK, obD, id_eq, List.getElem?_cons_zero, List.getElem?_cons_succ, List.set_cons_zero, List.set_cons_succ, List.length_cons, List.length_nil, D.bl.injEq, exists_eq_left', decide_eq_true_eq, decide_eq_false_iff_not, Bool.not_eq_true', Bool.not_eq_false', Nat.zero_add, Nat.reduceAdd, true_and, and_true, forall_const, reduceCtorEq, not_true_eq_false, not_false_eq_true, false_implies, true_implies, implies_true, qL, Nat.reduceLeDiff, Int.reduceLE, Int.reduceLT, Int.reduceNeg, Int.reducePow, Int.reduceAdd, Int.reduceSub, Int.reduceMul, wf__law_digits, scrD]
  exact ⟨⟨ns, rfl⟩, fun ms => ⟨ms, rfl⟩⟩
theorem p_law1 : ∀ ns : List Int, w_law1 ((scrD ns :: List.replicate 7 .no).set 1 .bx) { nx := fun _ => False, rt := fun d _ => d = .bl true } := fun ns => by
  show w_law1 [scrD ns, .bx, .no, .no, .no, .no, .no, .no] _
  simp only [w_law1, ↓za, ↓zb, ↓zc, ↓zd, ↓ze, ↓zf, ↓zg, ↓zh, ↓zi, ↓zj, ↓zk, ↓zl, ↓zm, ↓zn, ↓zo, ↓zp, ↓zq, ↓zr, ↓zt, ↓zu, ↓zv, ↓zw, ↓zx, ↓zy, ↓zz, ↓z3, ↓z7, ↓z8, ↓z9, ↓zA, ↓zB, ↓zC, ↓zD, ↓zE, ↓zF, ↓zG, ↓zH, ↓zI, ↓zJ, ↓zK, ↓zL, ↓zM, ↓zN, ↓zO, ↓zP, ↓zQ, ↓zR, ↓zS, ↓zT, ↓zU, ↓zV, ↓zW, ↓zX, ↓zY, ↓zZ, ↓xa, ↓xb, ↓xf, ↓xg, ↓xh, ↓xi, ↓xj, ↓xk, ↓xl, ↓xm, ↓xo, ↓xq, ↓xt, ↓xu, ↓xw, ↓xy, ↓xz, ↓x5, ↓x6, ↓x7, ↓x8, ↓x9, ↓xB, ↓xD, ↓xE, ↓xF, ↓xG, ↓xH, ↓xI, ↓xJ, ↓xK, ↓xL, ↓xM, ↓xN, ↓xO, xP, xQ, ↓xR, ↓xS, ↓xT, ↓xU, ↓xV, ↓xW, ↓xX, ↓xY, ↓xZ, ↓qb, ↓qc, ↓qd, ↓qf, ↓qg, ↓qh, ↓qi, ↓qj, ↓qk, dLt, dLe, dGt, dGe, ql, qm, qo, qp, qq, dI2, qr, qt, dEq, dNe, qu, qv, qw, qx, qy, qz, q8, q9, qA, qB, Option.some.injEq, qC, qD, qE, qF, qG, dIs, qH, qI, shs, kiC, qJ, qK, obD, id_eq, List.getElem?_cons_zero, List.getElem?_cons_succ, List.set_cons_zero, List.set_cons_succ, List.length_cons, List.length_nil, D.bl.injEq, exists_eq_left', decide_eq_true_eq, decide_eq_false_iff_not, Bool.not_eq_true', Bool.not_eq_false', Nat.zero_add, Nat.reduceAdd, true_and, and_true, forall_const, reduceCtorEq, not_true_eq_false, not_false_eq_true, false_implies, true_implies, implies_true, qL, Nat.reduceLeDiff, Int.reduceLE, Int.reduceLT, Int.reduceNeg, Int.reducePow, Int.reduceAdd, Int.reduceSub, Int.reduceMul, wf__law_facts]
  intro fs hg
  simp only [↓za, ↓zb, ↓zc, ↓zd, ↓ze, ↓zf, ↓zg, ↓zh, ↓zi, ↓zj, ↓zk, ↓zl, ↓zm, ↓zn, ↓zo, ↓zp, ↓zq, ↓zr, ↓zt, ↓zu, ↓zv, ↓zw, ↓zx, ↓zy, ↓zz, ↓z3, ↓z7, ↓z8, ↓z9, ↓zA, ↓zB, ↓zC, ↓zD, ↓zE, ↓zF, ↓zG, ↓zH, ↓zI, ↓zJ, ↓zK, ↓zL, ↓zM, ↓zN, ↓zO, ↓zP, ↓zQ, ↓zR, ↓zS, ↓zT, ↓zU, ↓zV, ↓zW, ↓zX, ↓zY, ↓zZ, ↓xa, ↓xb, ↓xf, ↓xg, ↓xh, ↓xi, ↓xj, ↓xk, ↓xl, ↓xm, ↓xo, ↓xq, ↓xt, ↓xu, ↓xw, ↓xy, ↓xz, ↓x5, ↓x6, ↓x7, ↓x8, ↓x9, ↓xB, ↓xD, ↓xE, ↓xF, ↓xG, ↓xH, ↓xI, ↓xJ, ↓xK, ↓xL, ↓xM, ↓xN, ↓xO, xP, xQ, ↓xR, ↓xS, ↓xT, ↓xU, ↓xV, ↓xW, ↓xX, ↓xY, ↓xZ, ↓qb, ↓qc, ↓qd, ↓qf, ↓qg, ↓qh, ↓qi, ↓qj, ↓qk, dLt, dLe, dGt, dGe, ql, qm, qo, qp, qq, dI2, qr, qt, dEq, dNe, qu, qv, qw, qx, qy, qz, q8, q9, qA, qB, Option.some.injEq, qC, qD, qE, qF, qG, dIs, qH, qI, shs, kiC, qJ, qK, obD, id_eq, List.getElem?_cons_zero, List.getElem?_cons_succ, List.set_cons_zero, List.set_cons_succ, List.length_cons, List.length_nil, D.bl.injEq, exists_eq_left', decide_eq_true_eq, decide_eq_false_iff_not, Bool.not_eq_true', Bool.not_eq_false', Nat.zero_add, Nat.reduceAdd, true_and, and_true, forall_const, reduceCtorEq, not_true_eq_false, not_false_eq_true, false_implies, true_implies, implies_true, qL, Nat.reduceLeDiff, Int.reduceLE, Int.reduceLT, Int.reduceNeg, Int.reducePow, Int.reduceAdd, Int.reduceSub, Int.reduceMul, wf__law_scheme]
  refine ⟨fs, rfl, hg, fun r hr hf => ?_⟩
  obtain ⟨ok, _, hcs⟩ := hr
  subst hf
  have eds : r.ds = [.lst (r.facts.map D.str), .lst (r.ctrs.map Ctr.dd), .lst (r.gains.map Gn.dd), .lst (r.leaves.map Lv.dd)] := rfl
  refine ⟨_, (show atI r.ds 0 = some _ from rfl), _, (show atI r.ds 1 = some _ from rfl), _, (show atI r.ds 2 = some _ from rfl), _, (show atI r.ds 3 = some _ from rfl), fun x => ?_⟩
  refine ⟨rfl, .ins "Rules" rulF [.sh (.lst (r.facts.map D.str)), .sh (.lst (r.ctrs.map Ctr.dd)), .sh (.lst (r.gains.map Gn.dd)), .sh (.lst (r.leaves.map Lv.dd))], rfl, rfl, ?_⟩
  have eo : otD (.ins "Rules" rulF [.sh (.lst (r.facts.map D.str)), .sh (.lst (r.ctrs.map Ctr.dd)), .sh (.lst (r.gains.map Gn.dd)), .sh (.lst (r.leaves.map Lv.dd))]) = r.dd := by simp only [otD, otDL]; rfl
  rw [eo]
  refine ⟨r, rfl, ok, r, rfl, ok, ?_⟩
  refine Cts.ne ok.nd ⟨_, rfl, (fun z => nomatch z), fun _ => ⟨_, rfl, ?_⟩⟩
  refine ⟨r.facts, rfl, ok.f3.1, ok.f3.2, by decide, by decide, fun w hw hwl => ?_⟩
  refine for_pre (fun _ ρ => ∃ (k : Cts) (s5 s6 s7 : Sl), ρ = [scrD ns, .bx, .sh (.lst r.ds), .sh r.dd, .sh k.dd, s5, s6, s7] ∧ k.ns = r.names ∧ k.vs.length = k.ns.length) ?_ ?_ _ ⟨r.zero, _, _, _, rfl, rfl, by rw [Rl.zero, Rl.names, List.length_map, List.length_map]⟩
  · rintro dn f rest e ρ ⟨k, s5, s6, s7, rfl, hn, hl⟩ C hC
    have hy : (r.year k f).vs.length = (r.year k f).ns.length := by rw [Rl.year, Rl.names, List.length_map, List.length_map]
    simp only [↓za, ↓zb, ↓zc, ↓zd, ↓ze, ↓zf, ↓zg, ↓zh, ↓zi, ↓zj, ↓zk, ↓zl, ↓zm, ↓zn, ↓zo, ↓zp, ↓zq, ↓zr, ↓zt, ↓zu, ↓zv, ↓zw, ↓zx, ↓zy, ↓zz, ↓z3, ↓z7, ↓z8, ↓z9, ↓zA, ↓zB, ↓zC, ↓zD, ↓zE, ↓zF, ↓zG, ↓zH, ↓zI, ↓zJ, ↓zK, ↓zL, ↓zM, ↓zN, ↓zO, ↓zP, ↓zQ, ↓zR, ↓zS, ↓zT, ↓zU, ↓zV, ↓zW, ↓zX, ↓zY, ↓zZ, ↓xa, ↓xb, ↓xf, ↓xg, ↓xh, ↓xi, ↓xj, ↓xk, ↓xl, ↓xm, ↓xo, ↓xq, ↓xt, ↓xu, ↓xw, ↓xy, ↓xz, ↓x5, ↓x6, ↓x7, ↓x8, ↓x9, ↓xB, ↓xD, ↓xE, ↓xF, ↓xG, ↓xH, ↓xI, ↓xJ, ↓xK, ↓xL, ↓xM, ↓xN, ↓xO, xP, xQ, ↓xR, ↓xS, ↓xT, ↓xU, ↓xV, ↓xW, ↓xX, ↓xY, ↓xZ, ↓qb, ↓qc, ↓qd, ↓qf, ↓qg, ↓qh, ↓qi, ↓qj, ↓qk, dLt, dLe, dGt, dGe, ql, qm, qo, qp, qq, dI2, qr, qt, dEq, dNe, qu, qv, qw, qx, qy, qz, q8, q9, qA, qB, Option.some.injEq, qC, qD, qE, qF, qG, dIs, qH, qI, shs, kiC, qJ, qK, obD, id_eq, List.getElem?_cons_zero, List.getElem?_cons_succ, List.set_cons_zero, List.set_cons_succ, List.length_cons, List.length_nil, D.bl.injEq, exists_eq_left', decide_eq_true_eq, decide_eq_false_iff_not, Bool.not_eq_true', Bool.not_eq_false', Nat.zero_add, Nat.reduceAdd, true_and, and_true, forall_const, reduceCtorEq, not_true_eq_false, not_false_eq_true, false_implies, true_implies, implies_true, qL, Nat.reduceLeDiff, Int.reduceLE, Int.reduceLT, Int.reduceNeg, Int.reducePow, Int.reduceAdd, Int.reduceSub, Int.reduceMul]
    have hdict : ∀ {Q : D → Prop}, Q k.dd → dDict k.dd Q := fun {Q} q => q
    refine hdict ?_
    refine ⟨r, k, rfl, rfl, ok, hn, hl, r, k, rfl, rfl, ok, hn, hl, ?_⟩
    show ∃ b, D.bl (!decide (r.gain k f = r.gain k f)) = D.bl b ∧ _
    refine ⟨_, rfl, fun z => by simp at z, fun _ => ?_⟩
    refine ⟨r, k, rfl, rfl, ok, hn, hl, r, k, rfl, rfl, ok, hn, hl, ?_⟩
    show ∃ b, D.bl (!decide (r.lv k = r.lv k)) = D.bl b ∧ _
    refine ⟨_, rfl, fun z => by simp at z, fun _ => ?_⟩
    refine ⟨r, k, rfl, rfl, ok, hn, hl, ?_⟩
    refine ⟨true, by decide +kernel, true, rfl, (fun z => nomatch z), fun _ => ?_⟩
    refine ⟨r, k, rfl, rfl, ok, hn, hl, ?_⟩
    refine Cts.ne ok.nd ⟨_, rfl, (fun z => nomatch z), fun _ => ?_⟩
    have hk : ∀ {Q : D → Prop}, Q (.lst (r.names.map D.str)) → dListK (r.year k f).dd Q := fun {Q} q => by
      show Q (.lst ((r.names.map Sum.inr).map kD))
      rw [List.map_map]; exact q
    refine hk ⟨⟨rfl, nin_names⟩, r, rfl, by have := ok.n3; omega, dNe_strs ok.so ⟨_, rfl, (fun z => nomatch z), fun _ => ?_⟩⟩
    exact Cts.ne (by rw [hn]; exact ok.nd) ⟨_, rfl, (fun z => nomatch z), fun _ => hC _ ⟨r.year k f, _, _, _, rfl, rfl, hy⟩⟩
  · rintro ρ ⟨k, s5, s6, s7, rfl, hn, hl⟩
    simp only [↓za, ↓zb, ↓zc, ↓zd, ↓ze, ↓zf, ↓zg, ↓zh, ↓zi, ↓zj, ↓zk, ↓zl, ↓zm, ↓zn, ↓zo, ↓zp, ↓zq, ↓zr, ↓zt, ↓zu, ↓zv, ↓zw, ↓zx, ↓zy, ↓zz, ↓z3, ↓z7, ↓z8, ↓z9, ↓zA, ↓zB, ↓zC, ↓zD, ↓zE, ↓zF, ↓zG, ↓zH, ↓zI, ↓zJ, ↓zK, ↓zL, ↓zM, ↓zN, ↓zO, ↓zP, ↓zQ, ↓zR, ↓zS, ↓zT, ↓zU, ↓zV, ↓zW, ↓zX, ↓zY, ↓zZ, ↓xa, ↓xb, ↓xf, ↓xg, ↓xh, ↓xi, ↓xj, ↓xk, ↓xl, ↓xm, ↓xo, ↓xq, ↓xt, ↓xu, ↓xw, ↓xy, ↓xz, ↓x5, ↓x6, ↓x7, ↓x8, ↓x9, ↓xB, ↓xD, ↓xE, ↓xF, ↓xG, ↓xH, ↓xI, ↓xJ, ↓xK, ↓xL, ↓xM, ↓xN, ↓xO, xP, xQ, ↓xR, ↓xS, ↓xT, ↓xU, ↓xV, ↓xW, ↓xX, ↓xY, ↓xZ, ↓qb, ↓qc, ↓qd, ↓qf, ↓qg, ↓qh, ↓qi, ↓qj, ↓qk, dLt, dLe, dGt, dGe, ql, qm, qo, qp, qq, dI2, qr, qt, dEq, dNe, qu, qv, qw, qx, qy, qz, q8, q9, qA, qB, Option.some.injEq, qC, qD, qE, qF, qG, dIs, qH, qI, shs, kiC, qJ, qK, obD, id_eq, List.getElem?_cons_zero, List.getElem?_cons_succ, List.set_cons_zero, List.set_cons_succ, List.length_cons, List.length_nil, D.bl.injEq, exists_eq_left', decide_eq_true_eq, decide_eq_false_iff_not, Bool.not_eq_true', Bool.not_eq_false', Nat.zero_add, Nat.reduceAdd, true_and, and_true, forall_const, reduceCtorEq, not_true_eq_false, not_false_eq_true, false_implies, true_implies, implies_true, qL, Nat.reduceLeDiff, Int.reduceLE, Int.reduceLT, Int.reduceNeg, Int.reducePow, Int.reduceAdd, Int.reduceSub, Int.reduceMul]
    refine ⟨r, k, rfl, rfl, ok, hn, hl, r, k, rfl, rfl, ok, hn, hl, ?_⟩
    show D.bl (decide (r.lv k = r.lv k)) = .bl true
    rw [decide_eq_true rfl]

end DL

namespace DL
open PySem PySem.Spec PyProof.Rows L2
def top (i : Nat) : Stmt := PySem.Challenge.pw_movedyears_k03_counters_go_on.main.body.getD i (.Pass ⟨0, 0, 0, 0⟩)
abbrev s_passes : Stmt := top 2
abbrev N_passes : List Str := ["test", "counts", "counter", "sign", "number"]
theorem sc_passes : FnScope N_passes ["test", "counts"] (defScope s_passes) := ⟨rfl, rfl, rfl, by decide +kernel, rfl, by decide +kernel, by decide +kernel⟩
abbrev s_holds : Stmt := top 3
abbrev N_holds : List Str := ["condition", "counts", "test"]
theorem sc_holds : FnScope N_holds ["condition", "counts"] (defScope s_holds) := ⟨rfl, rfl, rfl, by decide +kernel, rfl, by decide +kernel, by decide +kernel⟩
abbrev s_Rules_init : Stmt := inClass (top 6) 0
abbrev N_Rules_init : List Str := ["self", "facts", "counters", "gains", "leaves"]
theorem sc_Rules_init : FnScope N_Rules_init ["self", "facts", "counters", "gains", "leaves"] (defScope s_Rules_init) := ⟨rfl, rfl, rfl, by decide +kernel, rfl, by decide +kernel, by decide +kernel⟩
abbrev s_Rules_names : Stmt := inClass (top 6) 1
abbrev N_Rules_names : List Str := ["self", "counter"]
theorem sc_Rules_names : FnScope N_Rules_names ["self"] (defScope s_Rules_names) := ⟨rfl, rfl, rfl, by decide +kernel, rfl, by decide +kernel, by decide +kernel⟩
abbrev s_counted : Stmt := top 8
abbrev N_counted : List Str := ["counter", "value", "fact", "name", "cap", "steps"]
theorem sc_counted : FnScope N_counted ["counter", "value", "fact"] (defScope s_counted) := ⟨rfl, rfl, rfl, by decide +kernel, rfl, by decide +kernel, by decide +kernel⟩
abbrev s_year_counts : Stmt := top 9
abbrev N_year_counts : List Str := ["rules", "counts", "fact", "counter"]
theorem sc_year_counts : FnScope N_year_counts ["rules", "counts", "fact"] (defScope s_year_counts) := ⟨rfl, rfl, rfl, by decide +kernel, rfl, by decide +kernel, by decide +kernel⟩
abbrev s_year_gain : Stmt := top 10
abbrev N_year_gain : List Str := ["rules", "counts", "fact", "amount", "other", "condition"]
theorem sc_year_gain : FnScope N_year_gain ["rules", "counts", "fact"] (defScope s_year_gain) := ⟨rfl, rfl, rfl, by decide +kernel, rfl, by decide +kernel, by decide +kernel⟩
abbrev s_leave_gain : Stmt := top 11
abbrev N_leave_gain : List Str := ["rules", "counts", "amount", "condition"]
theorem sc_leave_gain : FnScope N_leave_gain ["rules", "counts"] (defScope s_leave_gain) := ⟨rfl, rfl, rfl, by decide +kernel, rfl, by decide +kernel, by decide +kernel⟩
abbrev s_first_counts : Stmt := top 12
abbrev N_first_counts : List Str := ["rules", "name"]
theorem sc_first_counts : FnScope N_first_counts ["rules"] (defScope s_first_counts) := ⟨rfl, rfl, rfl, by decide +kernel, rfl, by decide +kernel, by decide +kernel⟩
abbrev s__law_cell : Stmt := top 14
abbrev N__law_cell : List Str := ["_law_script", "_law_k"]
theorem sc__law_cell : FnScope N__law_cell ["_law_script", "_law_k"] (defScope s__law_cell) := ⟨rfl, rfl, rfl, by decide +kernel, rfl, by decide +kernel, by decide +kernel⟩
abbrev s__law_digits : Stmt := top 15
abbrev N__law_digits : List Str := ["_law_script", "_law_first", "_law_last", "_law_digits_here", "_law_cell_here", "_law_turn", "_law_seed", "_law_k"]
theorem sc__law_digits : FnScope N__law_digits ["_law_script", "_law_first", "_law_last"] (defScope s__law_digits) := ⟨rfl, rfl, rfl, by decide +kernel, rfl, by decide +kernel, by decide +kernel⟩
abbrev s__law_draw : Stmt := top 16
abbrev N__law_draw : List Str := ["_law_box", "_law_many", "_law_at"]
theorem sc__law_draw : FnScope N__law_draw ["_law_box", "_law_many"] (defScope s__law_draw) := ⟨rfl, rfl, rfl, by decide +kernel, rfl, by decide +kernel, by decide +kernel⟩
abbrev s__law_condition : Stmt := top 17
abbrev N__law_condition : List Str := ["_law_box", "_law_names", "_law_condition_here", "_law_k"]
theorem sc__law_condition : FnScope N__law_condition ["_law_box", "_law_names"] (defScope s__law_condition) := ⟨rfl, rfl, rfl, by decide +kernel, rfl, by decide +kernel, by decide +kernel⟩
abbrev s__law_amount : Stmt := top 18
abbrev N__law_amount : List Str := ["_law_box"]
theorem sc__law_amount : FnScope N__law_amount ["_law_box"] (defScope s__law_amount) := ⟨rfl, rfl, rfl, by decide +kernel, rfl, by decide +kernel, by decide +kernel⟩
abbrev s__law_facts : Stmt := top 19
abbrev N__law_facts : List Str := ["_law_box"]
theorem sc__law_facts : FnScope N__law_facts ["_law_box"] (defScope s__law_facts) := ⟨rfl, rfl, rfl, by decide +kernel, rfl, by decide +kernel, by decide +kernel⟩
abbrev s__law_counters : Stmt := top 20
abbrev N__law_counters : List Str := ["_law_box", "_law_facts_here", "_law_counters_here", "_law_cap", "_law_steps", "_law_way", "_law_fact", "_law_k"]
theorem sc__law_counters : FnScope N__law_counters ["_law_box", "_law_facts_here"] (defScope s__law_counters) := ⟨rfl, rfl, rfl, by decide +kernel, rfl, by decide +kernel, by decide +kernel⟩
abbrev s__law_scheme : Stmt := top 21
abbrev N__law_scheme : List Str := ["_law_box", "_law_facts_here", "_law_counters_here", "_law_names", "_law_gains", "_law_k", "_law_leaves", "_law_counter"]
theorem sc__law_scheme : FnScope N__law_scheme ["_law_box", "_law_facts_here"] (defScope s__law_scheme) := ⟨rfl, rfl, rfl, by decide +kernel, rfl, by decide +kernel, by decide +kernel⟩
abbrev s__law_holds : Stmt := top 22
abbrev N__law_holds : List Str := ["_law_condition_here", "_law_counts", "_law_test"]
theorem sc__law_holds : FnScope N__law_holds ["_law_condition_here", "_law_counts"] (defScope s__law_holds) := ⟨rfl, rfl, rfl, by decide +kernel, rfl, by decide +kernel, by decide +kernel⟩
abbrev s__law_zero : Stmt := top 23
abbrev N__law_zero : List Str := ["_law_scheme_here", "_law_counts", "_law_counter"]
theorem sc__law_zero : FnScope N__law_zero ["_law_scheme_here"] (defScope s__law_zero) := ⟨rfl, rfl, rfl, by decide +kernel, rfl, by decide +kernel, by decide +kernel⟩
abbrev s__law_year : Stmt := top 24
abbrev N__law_year : List Str := ["_law_scheme_here", "_law_counts", "_law_fact", "_law_later", "_law_name", "_law_cap", "_law_steps"]
theorem sc__law_year : FnScope N__law_year ["_law_scheme_here", "_law_counts", "_law_fact"] (defScope s__law_year) := ⟨rfl, rfl, rfl, by decide +kernel, rfl, by decide +kernel, by decide +kernel⟩
abbrev s__law_gain : Stmt := top 25
abbrev N__law_gain : List Str := ["_law_scheme_here", "_law_counts", "_law_fact", "_law_found", "_law_amount_here", "_law_other", "_law_condition_here"]
theorem sc__law_gain : FnScope N__law_gain ["_law_scheme_here", "_law_counts", "_law_fact"] (defScope s__law_gain) := ⟨rfl, rfl, rfl, by decide +kernel, rfl, by decide +kernel, by decide +kernel⟩
abbrev s__law_leave : Stmt := top 26
abbrev N__law_leave : List Str := ["_law_scheme_here", "_law_counts", "_law_found", "_law_amount_here", "_law_condition_here"]
theorem sc__law_leave : FnScope N__law_leave ["_law_scheme_here", "_law_counts"] (defScope s__law_leave) := ⟨rfl, rfl, rfl, by decide +kernel, rfl, by decide +kernel, by decide +kernel⟩
abbrev s__law_career : Stmt := top 27
abbrev N__law_career : List Str := ["_law_box", "_law_facts_here", "_law_most", "_law_k"]
theorem sc__law_career : FnScope N__law_career ["_law_box", "_law_facts_here", "_law_most"] (defScope s__law_career) := ⟨rfl, rfl, rfl, by decide +kernel, rfl, by decide +kernel, by decide +kernel⟩
abbrev s_law : Stmt := top 28
abbrev N_law : List Str := ["_law_script", "_law_box", "_law_scheme_here", "_law_rules", "_law_counts", "_law_kept", "_law_later", "_law_fact"]
theorem sc_law : FnScope N_law ["_law_script"] (defScope s_law) := ⟨rfl, rfl, rfl, by decide +kernel, rfl, by decide +kernel, by decide +kernel⟩
structure Txt (K : PySem.W.Frag) (mg : Str → Option Value) where
  f_passes : Addr
  d_passes : FuncData
  F_passes : Fun K "passes" "passes" s_passes f_passes d_passes
  b_passes : L2.Binds K d_passes ["test", "counts"] []
  m_passes : mg "passes" = some (.ref f_passes)
  k_passes : PySem.W.keepIn K (.ref f_passes) = true
  f_holds : Addr
  d_holds : FuncData
  F_holds : Fun K "holds" "holds" s_holds f_holds d_holds
  b_holds : L2.Binds K d_holds ["condition", "counts"] []
  ca_holds : Addr
  P_holds : Addr
  cd_holds : d_holds.code = .ref ca_holds
  m_holds : mg "holds" = some (.ref f_holds)
  k_holds : PySem.W.keepIn K (.ref f_holds) = true
  f_Rules_init : Addr
  d_Rules_init : FuncData
  F_Rules_init : Fun K "__init__" "Rules.__init__" s_Rules_init f_Rules_init d_Rules_init
  b_Rules_init : L2.Binds K d_Rules_init ["self", "facts", "counters", "gains", "leaves"] []
  f_Rules_names : Addr
  d_Rules_names : FuncData
  F_Rules_names : Fun K "names" "Rules.names" s_Rules_names f_Rules_names d_Rules_names
  b_Rules_names : L2.Binds K d_Rules_names ["self"] []
  f_counted : Addr
  d_counted : FuncData
  F_counted : Fun K "counted" "counted" s_counted f_counted d_counted
  b_counted : L2.Binds K d_counted ["counter", "value", "fact"] []
  m_counted : mg "counted" = some (.ref f_counted)
  k_counted : PySem.W.keepIn K (.ref f_counted) = true
  f_year_counts : Addr
  d_year_counts : FuncData
  F_year_counts : Fun K "year_counts" "year_counts" s_year_counts f_year_counts d_year_counts
  b_year_counts : L2.Binds K d_year_counts ["rules", "counts", "fact"] []
  m_year_counts : mg "year_counts" = some (.ref f_year_counts)
  k_year_counts : PySem.W.keepIn K (.ref f_year_counts) = true
  f_year_gain : Addr
  d_year_gain : FuncData
  F_year_gain : Fun K "year_gain" "year_gain" s_year_gain f_year_gain d_year_gain
  b_year_gain : L2.Binds K d_year_gain ["rules", "counts", "fact"] []
  m_year_gain : mg "year_gain" = some (.ref f_year_gain)
  k_year_gain : PySem.W.keepIn K (.ref f_year_gain) = true
  f_leave_gain : Addr
  d_leave_gain : FuncData
  F_leave_gain : Fun K "leave_gain" "leave_gain" s_leave_gain f_leave_gain d_leave_gain
  b_leave_gain : L2.Binds K d_leave_gain ["rules", "counts"] []
  m_leave_gain : mg "leave_gain" = some (.ref f_leave_gain)
  k_leave_gain : PySem.W.keepIn K (.ref f_leave_gain) = true
  f_first_counts : Addr
  d_first_counts : FuncData
  F_first_counts : Fun K "first_counts" "first_counts" s_first_counts f_first_counts d_first_counts
  b_first_counts : L2.Binds K d_first_counts ["rules"] []
  m_first_counts : mg "first_counts" = some (.ref f_first_counts)
  k_first_counts : PySem.W.keepIn K (.ref f_first_counts) = true
  f__law_cell : Addr
  d__law_cell : FuncData
  F__law_cell : Fun K "_law_cell" "_law_cell" s__law_cell f__law_cell d__law_cell
  b__law_cell : L2.Binds K d__law_cell ["_law_script", "_law_k"] []
  m__law_cell : mg "_law_cell" = some (.ref f__law_cell)
  k__law_cell : PySem.W.keepIn K (.ref f__law_cell) = true
  f__law_digits : Addr
  d__law_digits : FuncData
  F__law_digits : Fun K "_law_digits" "_law_digits" s__law_digits f__law_digits d__law_digits
  b__law_digits : L2.Binds K d__law_digits ["_law_script", "_law_first", "_law_last"] []
  m__law_digits : mg "_law_digits" = some (.ref f__law_digits)
  k__law_digits : PySem.W.keepIn K (.ref f__law_digits) = true
  f__law_draw : Addr
  d__law_draw : FuncData
  F__law_draw : Fun K "_law_draw" "_law_draw" s__law_draw f__law_draw d__law_draw
  b__law_draw : L2.Binds K d__law_draw ["_law_box", "_law_many"] []
  m__law_draw : mg "_law_draw" = some (.ref f__law_draw)
  k__law_draw : PySem.W.keepIn K (.ref f__law_draw) = true
  f__law_condition : Addr
  d__law_condition : FuncData
  F__law_condition : Fun K "_law_condition" "_law_condition" s__law_condition f__law_condition d__law_condition
  b__law_condition : L2.Binds K d__law_condition ["_law_box", "_law_names"] []
  m__law_condition : mg "_law_condition" = some (.ref f__law_condition)
  k__law_condition : PySem.W.keepIn K (.ref f__law_condition) = true
  f__law_amount : Addr
  d__law_amount : FuncData
  F__law_amount : Fun K "_law_amount" "_law_amount" s__law_amount f__law_amount d__law_amount
  b__law_amount : L2.Binds K d__law_amount ["_law_box"] []
  m__law_amount : mg "_law_amount" = some (.ref f__law_amount)
  k__law_amount : PySem.W.keepIn K (.ref f__law_amount) = true
  f__law_facts : Addr
  d__law_facts : FuncData
  F__law_facts : Fun K "_law_facts" "_law_facts" s__law_facts f__law_facts d__law_facts
  b__law_facts : L2.Binds K d__law_facts ["_law_box"] []
  m__law_facts : mg "_law_facts" = some (.ref f__law_facts)
  k__law_facts : PySem.W.keepIn K (.ref f__law_facts) = true
  f__law_counters : Addr
  d__law_counters : FuncData
  F__law_counters : Fun K "_law_counters" "_law_counters" s__law_counters f__law_counters d__law_counters
  b__law_counters : L2.Binds K d__law_counters ["_law_box", "_law_facts_here"] []
  m__law_counters : mg "_law_counters" = some (.ref f__law_counters)
  k__law_counters : PySem.W.keepIn K (.ref f__law_counters) = true
  f__law_scheme : Addr
  d__law_scheme : FuncData
  F__law_scheme : Fun K "_law_scheme" "_law_scheme" s__law_scheme f__law_scheme d__law_scheme
  b__law_scheme : L2.Binds K d__law_scheme ["_law_box", "_law_facts_here"] []
  m__law_scheme : mg "_law_scheme" = some (.ref f__law_scheme)
  k__law_scheme : PySem.W.keepIn K (.ref f__law_scheme) = true
  f__law_holds : Addr
  d__law_holds : FuncData
  F__law_holds : Fun K "_law_holds" "_law_holds" s__law_holds f__law_holds d__law_holds
  b__law_holds : L2.Binds K d__law_holds ["_law_condition_here", "_law_counts"] []
  m__law_holds : mg "_law_holds" = some (.ref f__law_holds)
  k__law_holds : PySem.W.keepIn K (.ref f__law_holds) = true
  f__law_zero : Addr
  d__law_zero : FuncData
  F__law_zero : Fun K "_law_zero" "_law_zero" s__law_zero f__law_zero d__law_zero
  b__law_zero : L2.Binds K d__law_zero ["_law_scheme_here"] []
  m__law_zero : mg "_law_zero" = some (.ref f__law_zero)
  k__law_zero : PySem.W.keepIn K (.ref f__law_zero) = true
  f__law_year : Addr
  d__law_year : FuncData
  F__law_year : Fun K "_law_year" "_law_year" s__law_year f__law_year d__law_year
  b__law_year : L2.Binds K d__law_year ["_law_scheme_here", "_law_counts", "_law_fact"] []
  m__law_year : mg "_law_year" = some (.ref f__law_year)
  k__law_year : PySem.W.keepIn K (.ref f__law_year) = true
  f__law_gain : Addr
  d__law_gain : FuncData
  F__law_gain : Fun K "_law_gain" "_law_gain" s__law_gain f__law_gain d__law_gain
  b__law_gain : L2.Binds K d__law_gain ["_law_scheme_here", "_law_counts", "_law_fact"] []
  m__law_gain : mg "_law_gain" = some (.ref f__law_gain)
  k__law_gain : PySem.W.keepIn K (.ref f__law_gain) = true
  f__law_leave : Addr
  d__law_leave : FuncData
  F__law_leave : Fun K "_law_leave" "_law_leave" s__law_leave f__law_leave d__law_leave
  b__law_leave : L2.Binds K d__law_leave ["_law_scheme_here", "_law_counts"] []
  m__law_leave : mg "_law_leave" = some (.ref f__law_leave)
  k__law_leave : PySem.W.keepIn K (.ref f__law_leave) = true
  f__law_career : Addr
  d__law_career : FuncData
  F__law_career : Fun K "_law_career" "_law_career" s__law_career f__law_career d__law_career
  b__law_career : L2.Binds K d__law_career ["_law_box", "_law_facts_here", "_law_most"] []
  m__law_career : mg "_law_career" = some (.ref f__law_career)
  k__law_career : PySem.W.keepIn K (.ref f__law_career) = true
  f_law : Addr
  d_law : FuncData
  F_law : Fun K "law" "law" s_law f_law d_law
  b_law : L2.Binds K d_law ["_law_script"] []
  m_law : mg "law" = some (.ref f_law)
  k_law : PySem.W.keepIn K (.ref f_law) = true
  C_Rules : Addr
  M_Rules : mg "Rules" = some (.ref C_Rules)
  L_Rules : Cls K C_Rules
  mk_Rules : Mk K C_Rules f_Rules_init
  na_Rules_counters : NoAttr K C_Rules "counters"
  na_Rules_facts : NoAttr K C_Rules "facts"
  na_Rules_gains : NoAttr K C_Rules "gains"
  na_Rules_leaves : NoAttr K C_Rules "leaves"
  me_Rules_names : Meth K C_Rules "names" f_Rules_names
  z_all : mg "all" = none
  z_dict : mg "dict" = none
  z_int : mg "int" = none
  z_isinstance : mg "isinstance" = none
  z_len : mg "len" = none
  z_list : mg "list" = none
  z_min : mg "min" = none
  z_range : mg "range" = none
  z_sum : mg "sum" = none
  t_AT_LEAST : Tok
  c_AT_LEAST : mg "AT_LEAST" = some (.str ">=" t_AT_LEAST)
  t_RESET : Tok
  c_RESET : mg "RESET" = some (.str "reset" t_RESET)
def Txt.tbs {K : PySem.W.Frag} {mg : Str → Option Value} (T : Txt K mg) : List Addr := [T.P_holds]
structure Bx {K : PySem.W.Frag} {mg : Str → Option Value} (T : Txt K mg) (base : Heap) : Prop where
  B_holds : GxR.TabB base mg T.ca_holds T.P_holds
section
variable {P : Program} {w : World} {K : PySem.W.Frag} {mg : Str → Option Value} {base : Heap}
theorem ok_passes (T : Txt K mg) : FnOk P w K mg base CX0 1 T.f_passes T.d_passes ["test", "counts"] (spF ⟨K, mg⟩ wf_passes) :=
  fun_okD T.F_passes sc_passes len_passes fun cdv A outer s H E hr => ⟨_, w_passes, (dss_cons (ds_asg (de_var 0) (dg_tup [2, 3, 4] rfl (gs_cons (i := 2) sc_passes.nd rfl (by first | exact Or.inl rfl | exact Or.inr rfl) (gs_cons (i := 3) sc_passes.nd rfl (by first | exact Or.inl rfl | exact Or.inr rfl) (gs_cons (i := 4) sc_passes.nd rfl (by first | exact Or.inl rfl | exact Or.inr rfl) gs_nil)))))
 (dss_cons (ds_if (dt_cmp (op_eqU hr.units) rop_eq (dp_var 3) (DE.dp (de_globS (by rfl) T.c_AT_LEAST ⟨_, rfl⟩)) (nomark _)) (dss_one (ds_ret (de_cmp op_ge rop_ge (DE.dp (de_ix (hu_of hr) (dp_var 1) (dp_var 2) (fun _ _ => rfl))) (dp_var 4) (nomark _)))) dss_nil)
 (dss_one (ds_ret (de_cmp op_lt rop_lt (DE.dp (de_ix (hu_of hr) (dp_var 1) (dp_var 2) (fun _ _ => rfl))) (dp_var 4) (nomark _)))))), p_passes⟩
theorem ok_holds (T : Txt K mg) (B : Bx T base) : FnOk P w K mg base CX0 3 T.f_holds T.d_holds ["condition", "counts"] (spT T.tbs ⟨K, mg⟩ wf_holds) :=
  fun_okT T.F_holds sc_holds len_holds fun cdv A outer s H E hcd hr => (letI := Lk.tab T.tbs; ⟨_, w_holds, (dss_one (ds_ret (de_gx_all (Tb := T.P_holds) (own := [("test", 2)]) (fun h => h _ (by simp [Txt.tbs])) hr sc_holds.nd rfl (by rfl) T.z_all B.B_holds (hcd.symm.trans T.cd_holds) (gxOk_by (own := [("test", 2)]) (N := N_holds) (sc := defScope s_holds) (by decide +kernel)) (di_list (de_var 0)) (dg_name (i := 2) sc_holds.nd rfl (by first | exact Or.inl rfl | exact Or.inr rfl)) (fun (hr : Room 1 _) => (de_call (ok_passes T) (hr.mono (by decide)) (by rfl) T.m_passes T.k_passes T.b_passes (das_cons (de_var 2) (das_cons (de_var 1) das_nil)))) (fun _ _ _ _ _ _ _ _ => (dg_name (i := 2) sc_holds.nd rfl (by first | exact Or.inl rfl | exact Or.inr rfl))) (fun _ _ _ _ _ _ _ _ (hr : Room 1 _) => (de_call (ok_passes T) (hr.mono (by decide)) (by rfl) T.m_passes T.k_passes T.b_passes (das_cons (de_var 2) (das_cons (de_var 1) das_nil))))))), p_holds⟩)
theorem ok_Rules_init (T : Txt K mg) : FnOk P w K mg base CX0 1 T.f_Rules_init T.d_Rules_init ["self", "facts", "counters", "gains", "leaves"] (spO ⟨K, mg⟩ wf_Rules_init) :=
  fun_okO T.F_Rules_init sc_Rules_init len_Rules_init fun cdv A outer s H E hr => ⟨_, w_Rules_init, (dss_cons (ds_fldN 0 T.M_Rules T.L_Rules T.na_Rules_facts (de_t1 call_list_of ro1_list (by rfl) T.z_list (by decide +kernel) (dp_var 1)))
 (dss_cons (ds_fldN 0 T.M_Rules T.L_Rules T.na_Rules_counters (de_t1 call_list_of ro1_list (by rfl) T.z_list (by decide +kernel) (dp_var 2)))
 (dss_cons (ds_fldN 0 T.M_Rules T.L_Rules T.na_Rules_gains (de_t1 call_list_of ro1_list (by rfl) T.z_list (by decide +kernel) (dp_var 3)))
 (dss_one (ds_fldN 0 T.M_Rules T.L_Rules T.na_Rules_leaves (de_t1 call_list_of ro1_list (by rfl) T.z_list (by decide +kernel) (dp_var 4))))))), p_Rules_init⟩
theorem ok_Rules_names (T : Txt K mg) : FnOk P w K mg base CX0 1 T.f_Rules_names T.d_Rules_names ["self"] (spF ⟨K, mg⟩ wf_Rules_names) :=
  fun_okD T.F_Rules_names sc_Rules_names len_Rules_names fun cdv A outer s H E hr => ⟨_, w_Rules_names, (dss_one (ds_ret (DF.de (df_lc (own := [("counter", 1)]) rfl sc_Rules_names.nd (di_list (de_fld T.M_Rules T.L_Rules T.na_Rules_counters (dp_var 0))) (blkOk_by (own := [("counter", 1)]) (N := N_Rules_names) (sc := defScope s_Rules_names) (by decide +kernel)) (dg_name (i := 1) sc_Rules_names.nd rfl (by first | exact Or.inl rfl | exact Or.inr rfl)) dts_nil (de_ix (hu_of hr) (dp_var 1) (DE.dp de_int) (fun _ _ => rfl)) (fun _ _ _ _ _ => (dg_name (i := 1) sc_Rules_names.nd rfl (by first | exact Or.inl rfl | exact Or.inr rfl))) (fun _ _ _ _ _ => dts_nil) (fun _ _ _ _ _ => (de_ix (hu_of hr) (dp_var 1) (DE.dp de_int) (fun _ _ => rfl))))))), p_Rules_names⟩
theorem ok_counted (T : Txt K mg) : FnOk P w K mg base CX0 1 T.f_counted T.d_counted ["counter", "value", "fact"] (spF ⟨K, mg⟩ wf_counted) :=
  fun_okD T.F_counted sc_counted len_counted fun cdv A outer s H E hr => ⟨_, w_counted, (dss_cons (ds_asg (de_var 0) (dg_tup [3, 4, 5] rfl (gs_cons (i := 3) sc_counted.nd rfl (by first | exact Or.inl rfl | exact Or.inr rfl) (gs_cons (i := 4) sc_counted.nd rfl (by first | exact Or.inl rfl | exact Or.inr rfl) (gs_cons (i := 5) sc_counted.nd rfl (by first | exact Or.inl rfl | exact Or.inr rfl) gs_nil)))))
 (dss_cons (ds_if (dt_cmp (op_notInU (hu65 hr)) rop_notIn (dp_var 2) (dp_var 5) (by rfl)) (dss_one (ds_ret (de_var 1))) dss_nil)
 (dss_cons (ds_if (dt_cmp (op_eqU hr.units) rop_eq (DE.dp (de_ix (hu_of hr) (dp_var 5) (dp_var 2) (fun _ _ => rfl))) (DE.dp (de_globS (by rfl) T.c_RESET ⟨_, rfl⟩)) (nomark _)) (dss_one (ds_ret de_int)) dss_nil)
 (dss_one (ds_ret (de_b2 (call_min2 rfl) rop_min2 (by rfl) T.z_min (by decide +kernel) (dp_var 4) (DE.dp (de_op op_addU rop_add (dp_var 1) (DE.dp (de_ix (hu_of hr) (dp_var 5) (dp_var 2) (fun _ _ => rfl))))))))))), p_counted⟩
theorem ok_year_counts (T : Txt K mg) : FnOk P w K mg base CX0 2 T.f_year_counts T.d_year_counts ["rules", "counts", "fact"] (spF ⟨K, mg⟩ wf_year_counts) :=
  fun_okD T.F_year_counts sc_year_counts len_year_counts fun cdv A outer s H E hr => ⟨_, w_year_counts, (dss_one (ds_ret (DF.de (df_dc (own := [("counter", 3)]) rfl sc_year_counts.nd (di_list (de_fld T.M_Rules T.L_Rules T.na_Rules_counters (dp_var 0))) (blkOk_by (own := [("counter", 3)]) (N := N_year_counts) (sc := defScope s_year_counts) (by decide +kernel)) (dg_name (i := 3) sc_year_counts.nd rfl (by first | exact Or.inl rfl | exact Or.inr rfl)) dts_nil (de_ix (hu_of hr) (dp_var 3) (DE.dp de_int) (fun _ _ => rfl)) (de_call (ok_counted T) (hr.mono (by decide)) (by rfl) T.m_counted T.k_counted T.b_counted (das_cons (de_var 3) (das_cons (de_ix (hu_of hr) (dp_var 1) (DE.dp (de_ix (hu_of hr) (dp_var 3) (DE.dp de_int) (fun _ _ => rfl))) (fun _ _ => rfl)) (das_cons (de_var 2) das_nil)))) (fun _ _ _ _ _ => (dg_name (i := 3) sc_year_counts.nd rfl (by first | exact Or.inl rfl | exact Or.inr rfl))) (fun _ _ _ _ _ => dts_nil) (fun _ _ _ _ _ => (de_ix (hu_of hr) (dp_var 3) (DE.dp de_int) (fun _ _ => rfl))) (fun _ _ _ _ _ => (de_call (ok_counted T) (hr.mono (by decide)) (by rfl) T.m_counted T.k_counted T.b_counted (das_cons (de_var 3) (das_cons (de_ix (hu_of hr) (dp_var 1) (DE.dp (de_ix (hu_of hr) (dp_var 3) (DE.dp de_int) (fun _ _ => rfl))) (fun _ _ => rfl)) (das_cons (de_var 2) das_nil))))))))), p_year_counts⟩
theorem ok_year_gain (T : Txt K mg) (B : Bx T base) : FnOk P w K mg base CX0 4 T.f_year_gain T.d_year_gain ["rules", "counts", "fact"] (spT T.tbs ⟨K, mg⟩ wf_year_gain) :=
  fun_okT T.F_year_gain sc_year_gain len_year_gain fun cdv A outer s H E hcd hr => (letI := Lk.tab T.tbs; ⟨_, w_year_gain, (dss_one (ds_ret (de_b1 (cr_sum rfl) ro1_sum (by rfl) T.z_sum (by decide +kernel) (DE.dp (DF.de (df_lc (own := [("amount", 3), ("other", 4), ("condition", 5)]) rfl sc_year_gain.nd (di_list (de_fld T.M_Rules T.L_Rules T.na_Rules_gains (dp_var 0))) (blkOk_by (own := [("amount", 3), ("other", 4), ("condition", 5)]) (N := N_year_gain) (sc := defScope s_year_gain) (by decide +kernel)) (dg_tup [3, 4, 5] rfl (gs_cons (i := 3) sc_year_gain.nd rfl (by first | exact Or.inl rfl | exact Or.inr rfl) (gs_cons (i := 4) sc_year_gain.nd rfl (by first | exact Or.inl rfl | exact Or.inr rfl) (gs_cons (i := 5) sc_year_gain.nd rfl (by first | exact Or.inl rfl | exact Or.inr rfl) gs_nil)))) (dts_one (DWt.dt (dw_and (dt_cmp (op_eqU hr.units) rop_eq (dp_var 4) (dp_var 2) (nomark _)) (dw_and1 (dt_truth (DE.dp (de_callT (fun h => h) (ok_holds T B) (hr.mono (by decide)) (by rfl) T.m_holds T.k_holds T.b_holds (das_cons (de_var 5) (das_cons (de_var 1) das_nil)))) (fun _ => rfl)))))) (de_var 3) (fun _ _ _ _ _ => (dg_tup [3, 4, 5] rfl (gs_cons (i := 3) sc_year_gain.nd rfl (by first | exact Or.inl rfl | exact Or.inr rfl) (gs_cons (i := 4) sc_year_gain.nd rfl (by first | exact Or.inl rfl | exact Or.inr rfl) (gs_cons (i := 5) sc_year_gain.nd rfl (by first | exact Or.inl rfl | exact Or.inr rfl) gs_nil))))) (fun _ _ _ _ _ => (dts_one (DWt.dt (dw_and (dt_cmp (op_eqU hr.units) rop_eq (dp_var 4) (dp_var 2) (nomark _)) (dw_and1 (dt_truth (DE.dp (de_callT (fun h => h) (ok_holds T B) (hr.mono (by decide)) (by rfl) T.m_holds T.k_holds T.b_holds (das_cons (de_var 5) (das_cons (de_var 1) das_nil)))) (fun _ => rfl))))))) (fun _ _ _ _ _ => (de_var 3)))))))), p_year_gain⟩)
theorem ok_leave_gain (T : Txt K mg) (B : Bx T base) : FnOk P w K mg base CX0 4 T.f_leave_gain T.d_leave_gain ["rules", "counts"] (spT T.tbs ⟨K, mg⟩ wf_leave_gain) :=
  fun_okT T.F_leave_gain sc_leave_gain len_leave_gain fun cdv A outer s H E hcd hr => (letI := Lk.tab T.tbs; ⟨_, w_leave_gain, (dss_one (ds_ret (de_b1 (cr_sum rfl) ro1_sum (by rfl) T.z_sum (by decide +kernel) (DE.dp (DF.de (df_lc (own := [("amount", 2), ("condition", 3)]) rfl sc_leave_gain.nd (di_list (de_fld T.M_Rules T.L_Rules T.na_Rules_leaves (dp_var 0))) (blkOk_by (own := [("amount", 2), ("condition", 3)]) (N := N_leave_gain) (sc := defScope s_leave_gain) (by decide +kernel)) (dg_tup [2, 3] rfl (gs_cons (i := 2) sc_leave_gain.nd rfl (by first | exact Or.inl rfl | exact Or.inr rfl) (gs_cons (i := 3) sc_leave_gain.nd rfl (by first | exact Or.inl rfl | exact Or.inr rfl) gs_nil))) (dts_one (dt_truth (DE.dp (de_callT (fun h => h) (ok_holds T B) (hr.mono (by decide)) (by rfl) T.m_holds T.k_holds T.b_holds (das_cons (de_var 3) (das_cons (de_var 1) das_nil)))) (fun _ => rfl))) (de_var 2) (fun _ _ _ _ _ => (dg_tup [2, 3] rfl (gs_cons (i := 2) sc_leave_gain.nd rfl (by first | exact Or.inl rfl | exact Or.inr rfl) (gs_cons (i := 3) sc_leave_gain.nd rfl (by first | exact Or.inl rfl | exact Or.inr rfl) gs_nil)))) (fun _ _ _ _ _ => (dts_one (dt_truth (DE.dp (de_callT (fun h => h) (ok_holds T B) (hr.mono (by decide)) (by rfl) T.m_holds T.k_holds T.b_holds (das_cons (de_var 3) (das_cons (de_var 1) das_nil)))) (fun _ => rfl)))) (fun _ _ _ _ _ => (de_var 2)))))))), p_leave_gain⟩)
theorem ok_first_counts (T : Txt K mg) : FnOk P w K mg base CX0 2 T.f_first_counts T.d_first_counts ["rules"] (spF ⟨K, mg⟩ wf_first_counts) :=
  fun_okD T.F_first_counts sc_first_counts len_first_counts fun cdv A outer s H E hr => ⟨_, w_first_counts, (dss_one (ds_ret (DF.de (df_dc (own := [("name", 1)]) rfl sc_first_counts.nd (di_list (de_meth0 (ok_Rules_names T) (hr.mono (by decide)) T.M_Rules T.L_Rules T.me_Rules_names T.b_Rules_names (de_var 0))) (blkOk_by (own := [("name", 1)]) (N := N_first_counts) (sc := defScope s_first_counts) (by decide +kernel)) (dg_name (i := 1) sc_first_counts.nd rfl (by first | exact Or.inl rfl | exact Or.inr rfl)) dts_nil (de_var 1) de_int (fun _ _ _ _ _ => (dg_name (i := 1) sc_first_counts.nd rfl (by first | exact Or.inl rfl | exact Or.inr rfl))) (fun _ _ _ _ _ => dts_nil) (fun _ _ _ _ _ => (de_var 1)) (fun _ _ _ _ _ => de_int))))), p_first_counts⟩
theorem ok__law_cell (T : Txt K mg) : FnOk P w K mg base CX0 1 T.f__law_cell T.d__law_cell ["_law_script", "_law_k"] (spF ⟨K, mg⟩ wf__law_cell) :=
  fun_okD T.F__law_cell sc__law_cell len__law_cell fun cdv A outer s H E hr => ⟨_, w__law_cell, (dss_cons (ds_if (dt_cmp op_lt rop_lt (dp_var 1) (DE.dp (de_b1 call_lenU ro1_len (by rfl) T.z_len (by decide +kernel) (dp_var 0))) (nomark _)) (dss_one (ds_ret (de_ix (hu_of hr) (dp_var 0) (dp_var 1) (fun _ _ => rfl)))) dss_nil)
 (dss_one (ds_ret de_int))), p__law_cell⟩
theorem ok__law_digits (T : Txt K mg) : FnOk P w K mg base CX0 2 T.f__law_digits T.d__law_digits ["_law_script", "_law_first", "_law_last"] (spF ⟨K, mg⟩ wf__law_digits) :=
  fun_okD T.F__law_digits sc__law_digits len__law_digits fun cdv A outer s H E hr => ⟨_, w__law_digits, (dss_cons (ds_setO (i := 3) sc__law_digits.nd rfl (by first | exact Or.inl rfl | exact Or.inr rfl) (df_lst da_nil))
 (dss_cons (ds_for PassesOwn.never rfl (di_range2 (by rfl) T.z_range (da_cons (de_var 1) (da_cons (de_var 2) da_nil))) (dg_name (i := 7) sc__law_digits.nd rfl (by first | exact Or.inl rfl | exact Or.inr rfl)) (dss_cons (ds_set (i := 4) sc__law_digits.nd rfl (by first | exact Or.inl rfl | exact Or.inr rfl) (de_call (ok__law_cell T) (hr.mono (by decide)) (by rfl) T.m__law_cell T.k__law_cell T.b__law_cell (das_cons (de_var 0) (das_cons (de_var 7) das_nil))))
 (dss_cons (ds_if (dt_cmp op_lt rop_lt (dp_var 4) (DE.dp de_int) (nomark _)) (dss_one (ds_set (i := 4) sc__law_digits.nd rfl (by first | exact Or.inl rfl | exact Or.inr rfl) (de_op op_sub rop_sub (DE.dp de_int) (DE.dp (de_op op_mul rop_mul (DE.dp de_int) (dp_var 4)))))) dss_nil)
 (dss_one (ds_if (dt_cmp op_ge rop_ge (dp_var 4) (DE.dp (de_op op_pow rop_pow (DE.dp de_int) (DE.dp de_int))) (nomark _)) (dss_one (ds_for PassesOwn.never rfl (di_range1 (by rfl) T.z_range (da_cons de_int da_nil)) (dg_name (i := 5) sc__law_digits.nd rfl (by first | exact Or.inl rfl | exact Or.inr rfl)) (dss_one (ds_if (dt_cmp op_gt rop_gt (dp_var 4) (DE.dp de_int) (nomark _)) (dss_cons (ds_append (i := 3) (de_op op_mod rop_mod (DE.dp (de_t1 call_int1 ro1_int (by rfl) T.z_int (by decide +kernel) (dp_var 4))) (DE.dp de_int)))
 (dss_one (ds_set (i := 4) sc__law_digits.nd rfl (by first | exact Or.inl rfl | exact Or.inr rfl) (de_op op_fdiv rop_fdiv (dp_var 4) (DE.dp de_int))))) dss_nil)))) (dss_cons (ds_set (i := 6) sc__law_digits.nd rfl (by first | exact Or.inl rfl | exact Or.inr rfl) (de_op op_mod rop_mod (DE.dp (de_t1 call_int1 ro1_int (by rfl) T.z_int (by decide +kernel) (DE.dp (de_op op_addU rop_add (DE.dp (de_op op_addU rop_add (DE.dp (de_op op_mul rop_mul (dp_var 4) (DE.dp de_int))) (DE.dp (de_op op_mul rop_mul (dp_var 7) (DE.dp de_int))))) (DE.dp de_int))))) (DE.dp de_int)))
 (dss_one (ds_for PassesOwn.never rfl (di_range1 (by rfl) T.z_range (da_cons de_int da_nil)) (dg_name (i := 5) sc__law_digits.nd rfl (by first | exact Or.inl rfl | exact Or.inr rfl)) (dss_cons (ds_set (i := 6) sc__law_digits.nd rfl (by first | exact Or.inl rfl | exact Or.inr rfl) (de_op op_mod rop_mod (DE.dp (de_t1 call_int1 ro1_int (by rfl) T.z_int (by decide +kernel) (DE.dp (de_op op_addU rop_add (DE.dp (de_op op_addU rop_add (DE.dp (de_op op_mul rop_mul (dp_var 6) (DE.dp de_int))) (DE.dp (de_op op_mul rop_mul (DE.dp de_int) (dp_var 5))))) (DE.dp de_int))))) (DE.dp de_int)))
 (dss_one (ds_append (i := 3) (de_op op_mod rop_mod (DE.dp (de_t1 call_int1 ro1_int (by rfl) T.z_int (by decide +kernel) (DE.dp (de_op op_fdiv rop_fdiv (dp_var 6) (DE.dp de_int))))) (DE.dp de_int)))))))))))))
 (dss_one (ds_ret (de_var 3))))), p__law_digits⟩
theorem ok__law_draw (T : Txt K mg) : FnOk P w K mg base CX0 1 T.f__law_draw T.d__law_draw ["_law_box", "_law_many"] (spF ⟨K, mg⟩ wf__law_draw) :=
  fun_okD T.F__law_draw sc__law_draw len__law_draw fun cdv A outer s H E hr => ⟨_, w__law_draw, (dss_cons (ds_set (i := 2) sc__law_draw.nd rfl (by first | exact Or.inl rfl | exact Or.inr rfl) (de_bx1 0 (hu_of hr)))
 (dss_cons (ds_bxPut 0 (de_op op_addU rop_add (dp_var 2) (DE.dp de_int)))
 (dss_cons (ds_drawIf 0 2 1 (ds_if (dt_cmp op_lt rop_lt (dp_var 2) (DE.dp (de_b1 call_lenU ro1_len (by rfl) T.z_len (by decide +kernel) (DE.dp (de_bx0 0 (hu_of hr))))) (nomark _)) (dss_one (ds_ret (de_op op_mod rop_mod (DE.dp (de_t1 call_int1 ro1_int (by rfl) T.z_int (by decide +kernel) (DE.dp (de_ix (hu_of hr) (DE.dp (de_bx0 0 (hu_of hr))) (dp_var 2) (fun _ _ => rfl))))) (dp_var 1)))) dss_nil))
 (dss_one (ds_ret de_int))))), p__law_draw⟩
theorem ok__law_condition (T : Txt K mg) : FnOk P w K mg base CX0 2 T.f__law_condition T.d__law_condition ["_law_box", "_law_names"] (spF ⟨K, mg⟩ wf__law_condition) :=
  fun_okD T.F__law_condition sc__law_condition len__law_condition fun cdv A outer s H E hr => ⟨_, w__law_condition, (dss_cons (ds_setO (i := 2) sc__law_condition.nd rfl (by first | exact Or.inl rfl | exact Or.inr rfl) (df_lst da_nil))
 (dss_cons (ds_if (dt_cmp (op_neU hr.units) rop_ne (dp_var 1) (DE.dp (DF.de (df_lst da_nil))) (nomark _)) (dss_one (ds_for PassesOwn.never rfl (di_range1 (by rfl) T.z_range (da_cons (de_call (ok__law_draw T) (hr.mono (by decide)) (by rfl) T.m__law_draw T.k__law_draw T.b__law_draw (das_box 0 (das_cons de_int das_nil))) da_nil)) (dg_name (i := 3) sc__law_condition.nd rfl (by first | exact Or.inl rfl | exact Or.inr rfl)) (dss_one (ds_append (i := 2) (de_tup (da_cons (de_ix (hu_of hr) (dp_var 1) (DE.dp (de_call (ok__law_draw T) (hr.mono (by decide)) (by rfl) T.m__law_draw T.k__law_draw T.b__law_draw (das_box 0 (das_cons (de_b1 call_lenU ro1_len (by rfl) T.z_len (by decide +kernel) (dp_var 1)) das_nil)))) (fun _ _ => rfl)) (da_cons (de_ix (hu_of hr) (DE.dp (DF.de (df_lst (da_cons de_str (da_cons de_str da_nil))))) (DE.dp (de_call (ok__law_draw T) (hr.mono (by decide)) (by rfl) T.m__law_draw T.k__law_draw T.b__law_draw (das_box 0 (das_cons de_int das_nil)))) (fun _ _ => rfl)) (da_cons (de_call (ok__law_draw T) (hr.mono (by decide)) (by rfl) T.m__law_draw T.k__law_draw T.b__law_draw (das_box 0 (das_cons de_int das_nil))) da_nil)))))))) dss_nil)
 (dss_one (ds_ret (de_var 2))))), p__law_condition⟩
theorem ok__law_amount (T : Txt K mg) : FnOk P w K mg base CX0 2 T.f__law_amount T.d__law_amount ["_law_box"] (spF ⟨K, mg⟩ wf__law_amount) :=
  fun_okD T.F__law_amount sc__law_amount len__law_amount fun cdv A outer s H E hr => ⟨_, w__law_amount, (dss_one (ds_ret (de_ix (hu_of hr) (DE.dp (DF.de (df_lst (da_cons (de_op op_sub rop_sub (DE.dp (de_call (ok__law_draw T) (hr.mono (by decide)) (by rfl) T.m__law_draw T.k__law_draw T.b__law_draw (das_box 0 (das_cons de_int das_nil)))) (DE.dp de_int)) (da_cons (de_ix (hu_of hr) (DE.dp (DF.de (df_lst (da_cons de_int (da_cons de_int (da_cons (de_un un_neg ro1_dNeg (DE.dp de_int)) (da_cons de_int da_nil))))))) (DE.dp (de_call (ok__law_draw T) (hr.mono (by decide)) (by rfl) T.m__law_draw T.k__law_draw T.b__law_draw (das_box 0 (das_cons de_int das_nil)))) (fun _ _ => rfl)) da_nil))))) (DE.dp (de_t1 call_int1 ro1_int (by rfl) T.z_int (by decide +kernel) (DE.dp (de_cmp (op_eqU hr.units) rop_eq (DE.dp (de_call (ok__law_draw T) (hr.mono (by decide)) (by rfl) T.m__law_draw T.k__law_draw T.b__law_draw (das_box 0 (das_cons de_int das_nil)))) (DE.dp de_int) (nomark _))))) (fun _ _ => rfl)))), p__law_amount⟩
theorem ok__law_facts (T : Txt K mg) : FnOk P w K mg base CX0 2 T.f__law_facts T.d__law_facts ["_law_box"] (spF ⟨K, mg⟩ wf__law_facts) :=
  fun_okD T.F__law_facts sc__law_facts len__law_facts fun cdv A outer s H E hr => ⟨_, w__law_facts, (dss_one (ds_ret (de_ix (hu_of hr) (DE.dp (DF.de (df_lst (da_cons (DF.de (df_lst (da_cons de_str da_nil))) (da_cons (DF.de (df_lst (da_cons de_str (da_cons de_str da_nil)))) (da_cons (DF.de (df_lst (da_cons de_str (da_cons de_str (da_cons de_str da_nil))))) (da_cons (DF.de (df_lst (da_cons de_str (da_cons de_str da_nil)))) da_nil))))))) (DE.dp (de_call (ok__law_draw T) (hr.mono (by decide)) (by rfl) T.m__law_draw T.k__law_draw T.b__law_draw (das_box 0 (das_cons de_int das_nil)))) (fun _ _ => rfl)))), p__law_facts⟩
theorem ok__law_counters (T : Txt K mg) : FnOk P w K mg base CX0 2 T.f__law_counters T.d__law_counters ["_law_box", "_law_facts_here"] (spF ⟨K, mg⟩ wf__law_counters) :=
  fun_okD T.F__law_counters sc__law_counters len__law_counters fun cdv A outer s H E hr => ⟨_, w__law_counters, (dss_cons (ds_setO (i := 2) sc__law_counters.nd rfl (by first | exact Or.inl rfl | exact Or.inr rfl) (df_lst da_nil))
 (dss_cons (ds_for PassesOwn.never rfl (di_range1 (by rfl) T.z_range (da_cons (de_call (ok__law_draw T) (hr.mono (by decide)) (by rfl) T.m__law_draw T.k__law_draw T.b__law_draw (das_box 0 (das_cons de_int das_nil))) da_nil)) (dg_name (i := 7) sc__law_counters.nd rfl (by first | exact Or.inl rfl | exact Or.inr rfl)) (dss_cons (ds_set (i := 3) sc__law_counters.nd rfl (by first | exact Or.inl rfl | exact Or.inr rfl) (de_ix (hu_of hr) (DE.dp (DF.de (df_lst (da_cons de_int (da_cons de_int (da_cons de_int (da_cons de_int (da_cons de_int da_nil)))))))) (DE.dp (de_call (ok__law_draw T) (hr.mono (by decide)) (by rfl) T.m__law_draw T.k__law_draw T.b__law_draw (das_box 0 (das_cons de_int das_nil)))) (fun _ _ => rfl)))
 (dss_cons (ds_setO (i := 4) sc__law_counters.nd rfl (by first | exact Or.inl rfl | exact Or.inr rfl) df_dk)
 (dss_cons (ds_for PassesOwn.never rfl (di_list (de_var 1)) (dg_name (i := 6) sc__law_counters.nd rfl (by first | exact Or.inl rfl | exact Or.inr rfl)) (dss_cons (ds_set (i := 5) sc__law_counters.nd rfl (by first | exact Or.inl rfl | exact Or.inr rfl) (de_call (ok__law_draw T) (hr.mono (by decide)) (by rfl) T.m__law_draw T.k__law_draw T.b__law_draw (das_box 0 (das_cons de_int das_nil))))
 (dss_cons (ds_if (dt_cmp op_lt rop_lt (dp_var 5) (DE.dp de_int) (nomark _)) (dss_one (ds_put 4 (hu_of hr) (de_var 6) (de_op op_addU rop_add (DE.dp de_int) (DE.dp (de_call (ok__law_draw T) (hr.mono (by decide)) (by rfl) T.m__law_draw T.k__law_draw T.b__law_draw (das_box 0 (das_cons (de_b2 (call_min2 rfl) rop_min2 (by rfl) T.z_min (by decide +kernel) (dp_var 3) (DE.dp de_int)) das_nil))))))) dss_nil)
 (dss_one (ds_if (dt_cmp (op_eqU hr.units) rop_eq (dp_var 5) (DE.dp de_int) (nomark _)) (dss_one (ds_put 4 (hu_of hr) (de_var 6) de_str)) dss_nil)))))
 (dss_one (ds_append (i := 2) (de_tup (da_cons (de_ix (hu_of hr) (DE.dp (DF.de (df_lst (da_cons de_str (da_cons de_str (da_cons de_str da_nil)))))) (dp_var 7) (fun _ _ => rfl)) (da_cons (de_var 3) (da_cons (de_var 4) da_nil))))))))))
 (dss_one (ds_ret (de_var 2))))), p__law_counters⟩
theorem ok__law_scheme (T : Txt K mg) : FnOk P w K mg base CX0 3 T.f__law_scheme T.d__law_scheme ["_law_box", "_law_facts_here"] (spF ⟨K, mg⟩ wf__law_scheme) :=
  fun_okD T.F__law_scheme sc__law_scheme len__law_scheme fun cdv A outer s H E hr => ⟨_, w__law_scheme, (dss_cons (ds_set (i := 2) sc__law_scheme.nd rfl (by first | exact Or.inl rfl | exact Or.inr rfl) (de_call (ok__law_counters T) (hr.mono (by decide)) (by rfl) T.m__law_counters T.k__law_counters T.b__law_counters (das_box 0 (das_cons (de_var 1) das_nil))))
 (dss_cons (ds_setLc (i := 3) (own := [("_law_counter", 7)]) rfl sc__law_scheme.nd rfl rfl (sw_true rfl rfl rfl (by decide +kernel)) (di_list (de_var 2)) (blkOk_by (own := [("_law_counter", 7)]) (N := N__law_scheme) (sc := defScope s__law_scheme) (by decide +kernel)) (dg_name (i := 7) sc__law_scheme.nd rfl (by first | exact Or.inl rfl | exact Or.inr rfl)) dts_nil (de_ix (hu_of hr) (dp_var 7) (DE.dp de_int) (fun _ _ => rfl)) (fun _ _ _ _ _ => (dg_name (i := 7) sc__law_scheme.nd rfl (by first | exact Or.inl rfl | exact Or.inr rfl))) (fun _ _ _ _ _ => dts_nil) (fun _ _ _ _ _ => (de_ix (hu_of hr) (dp_var 7) (DE.dp de_int) (fun _ _ => rfl))))
 (dss_cons (ds_setO (i := 4) sc__law_scheme.nd rfl (by first | exact Or.inl rfl | exact Or.inr rfl) (df_lst da_nil))
 (dss_cons (ds_for PassesOwn.never rfl (di_range1 (by rfl) T.z_range (da_cons (de_call (ok__law_draw T) (hr.mono (by decide)) (by rfl) T.m__law_draw T.k__law_draw T.b__law_draw (das_box 0 (das_cons de_int das_nil))) da_nil)) (dg_name (i := 5) sc__law_scheme.nd rfl (by first | exact Or.inl rfl | exact Or.inr rfl)) (dss_one (ds_append (i := 4) (de_tup (da_cons (de_call (ok__law_amount T) (hr.mono (by decide)) (by rfl) T.m__law_amount T.k__law_amount T.b__law_amount (das_box 0 das_nil)) (da_cons (de_ix (hu_of hr) (dp_var 1) (DE.dp (de_call (ok__law_draw T) (hr.mono (by decide)) (by rfl) T.m__law_draw T.k__law_draw T.b__law_draw (das_box 0 (das_cons (de_b1 call_lenU ro1_len (by rfl) T.z_len (by decide +kernel) (dp_var 1)) das_nil)))) (fun _ _ => rfl)) (da_cons (de_call (ok__law_condition T) (hr.mono (by decide)) (by rfl) T.m__law_condition T.k__law_condition T.b__law_condition (das_box 0 (das_cons (de_var 3) das_nil))) da_nil)))))))
 (dss_cons (ds_setO (i := 6) sc__law_scheme.nd rfl (by first | exact Or.inl rfl | exact Or.inr rfl) (df_lst da_nil))
 (dss_cons (ds_for PassesOwn.never rfl (di_range1 (by rfl) T.z_range (da_cons (de_call (ok__law_draw T) (hr.mono (by decide)) (by rfl) T.m__law_draw T.k__law_draw T.b__law_draw (das_box 0 (das_cons de_int das_nil))) da_nil)) (dg_name (i := 5) sc__law_scheme.nd rfl (by first | exact Or.inl rfl | exact Or.inr rfl)) (dss_one (ds_append (i := 6) (de_tup (da_cons (de_call (ok__law_amount T) (hr.mono (by decide)) (by rfl) T.m__law_amount T.k__law_amount T.b__law_amount (das_box 0 das_nil)) (da_cons (de_call (ok__law_condition T) (hr.mono (by decide)) (by rfl) T.m__law_condition T.k__law_condition T.b__law_condition (das_box 0 (das_cons (de_var 3) das_nil))) da_nil))))))
 (dss_one (ds_ret (DF.de (df_lst (da_cons (de_var 1) (da_cons (de_var 2) (da_cons (de_var 4) (da_cons (de_var 6) da_nil)))))))))))))), p__law_scheme⟩
theorem ok__law_holds (T : Txt K mg) : FnOk P w K mg base CX0 1 T.f__law_holds T.d__law_holds ["_law_condition_here", "_law_counts"] (spF ⟨K, mg⟩ wf__law_holds) :=
  fun_okD T.F__law_holds sc__law_holds len__law_holds fun cdv A outer s H E hr => ⟨_, w__law_holds, (dss_cons (ds_for PassesOwn.never rfl (di_list (de_var 0)) (dg_name (i := 2) sc__law_holds.nd rfl (by first | exact Or.inl rfl | exact Or.inr rfl)) (dss_one (ds_if (dt_cmp (op_neU hr.units) rop_ne (DE.dp (de_cmp op_ge rop_ge (DE.dp (de_ix (hu_of hr) (dp_var 1) (DE.dp (de_ix (hu_of hr) (dp_var 2) (DE.dp de_int) (fun _ _ => rfl))) (fun _ _ => rfl))) (DE.dp (de_ix (hu_of hr) (dp_var 2) (DE.dp de_int) (fun _ _ => rfl))) (nomark _))) (DE.dp (de_cmp (op_eqU hr.units) rop_eq (DE.dp (de_ix (hu_of hr) (dp_var 2) (DE.dp de_int) (fun _ _ => rfl))) (DE.dp de_str) (nomark _))) (nomark _)) (dss_one (ds_ret de_bl)) dss_nil)))
 (dss_one (ds_ret de_bl))), p__law_holds⟩
theorem ok__law_zero (T : Txt K mg) : FnOk P w K mg base CX0 1 T.f__law_zero T.d__law_zero ["_law_scheme_here"] (spF ⟨K, mg⟩ wf__law_zero) :=
  fun_okD T.F__law_zero sc__law_zero len__law_zero fun cdv A outer s H E hr => ⟨_, w__law_zero, (dss_cons (ds_setO (i := 1) sc__law_zero.nd rfl (by first | exact Or.inl rfl | exact Or.inr rfl) df_dk)
 (dss_cons (ds_for PassesOwn.never rfl (di_list (de_ix (hu_of hr) (dp_var 0) (DE.dp de_int) (fun _ _ => rfl))) (dg_name (i := 2) sc__law_zero.nd rfl (by first | exact Or.inl rfl | exact Or.inr rfl)) (dss_one (ds_put 1 (hu_of hr) (de_ix (hu_of hr) (dp_var 2) (DE.dp de_int) (fun _ _ => rfl)) de_int)))
 (dss_one (ds_ret (de_var 1))))), p__law_zero⟩
theorem ok__law_year (T : Txt K mg) : FnOk P w K mg base CX0 1 T.f__law_year T.d__law_year ["_law_scheme_here", "_law_counts", "_law_fact"] (spF ⟨K, mg⟩ wf__law_year) :=
  fun_okD T.F__law_year sc__law_year len__law_year fun cdv A outer s H E hr => ⟨_, w__law_year, (dss_cons (ds_setO (i := 3) sc__law_year.nd rfl (by first | exact Or.inl rfl | exact Or.inr rfl) df_dk)
 (dss_cons (ds_for PassesOwn.never rfl (di_list (de_ix (hu_of hr) (dp_var 0) (DE.dp de_int) (fun _ _ => rfl))) (dg_tup [4, 5, 6] rfl (gs_cons (i := 4) sc__law_year.nd rfl (by first | exact Or.inl rfl | exact Or.inr rfl) (gs_cons (i := 5) sc__law_year.nd rfl (by first | exact Or.inl rfl | exact Or.inr rfl) (gs_cons (i := 6) sc__law_year.nd rfl (by first | exact Or.inl rfl | exact Or.inr rfl) gs_nil)))) (dss_cons (ds_put 3 (hu_of hr) (de_var 4) (de_ix (hu_of hr) (dp_var 1) (dp_var 4) (fun _ _ => rfl)))
 (dss_one (ds_if (DWt.dt (dw_and (dt_cmp (op_inU (hu65 hr)) rop_in (dp_var 2) (dp_var 6) (by rfl)) (dw_and1 (dt_cmp (op_eqU hr.units) rop_eq (DE.dp (de_ix (hu_of hr) (dp_var 6) (dp_var 2) (fun _ _ => rfl))) (DE.dp de_str) (nomark _))))) (dss_one (ds_put 3 (hu_of hr) (de_var 4) de_int)) (dss_one (ds_if (dt_cmp (op_inU (hu65 hr)) rop_in (dp_var 2) (dp_var 6) (by rfl)) (dss_one (ds_put 3 (hu_of hr) (de_var 4) (de_b2 (call_min2 rfl) rop_min2 (by rfl) T.z_min (by decide +kernel) (dp_var 5) (DE.dp (de_op op_addU rop_add (DE.dp (de_ix (hu_of hr) (dp_var 1) (dp_var 4) (fun _ _ => rfl))) (DE.dp (de_ix (hu_of hr) (dp_var 6) (dp_var 2) (fun _ _ => rfl)))))))) dss_nil))))))
 (dss_one (ds_ret (de_var 3))))), p__law_year⟩
theorem ok__law_gain (T : Txt K mg) : FnOk P w K mg base CX0 2 T.f__law_gain T.d__law_gain ["_law_scheme_here", "_law_counts", "_law_fact"] (spF ⟨K, mg⟩ wf__law_gain) :=
  fun_okD T.F__law_gain sc__law_gain len__law_gain fun cdv A outer s H E hr => ⟨_, w__law_gain, (dss_cons (ds_set (i := 3) sc__law_gain.nd rfl (by first | exact Or.inl rfl | exact Or.inr rfl) de_int)
 (dss_cons (ds_for PassesOwn.never rfl (di_list (de_ix (hu_of hr) (dp_var 0) (DE.dp de_int) (fun _ _ => rfl))) (dg_tup [4, 5, 6] rfl (gs_cons (i := 4) sc__law_gain.nd rfl (by first | exact Or.inl rfl | exact Or.inr rfl) (gs_cons (i := 5) sc__law_gain.nd rfl (by first | exact Or.inl rfl | exact Or.inr rfl) (gs_cons (i := 6) sc__law_gain.nd rfl (by first | exact Or.inl rfl | exact Or.inr rfl) gs_nil)))) (dss_one (ds_if (DWt.dt (dw_and (dt_cmp (op_eqU hr.units) rop_eq (dp_var 5) (dp_var 2) (nomark _)) (dw_and1 (dt_truth (DE.dp (de_call (ok__law_holds T) (hr.mono (by decide)) (by rfl) T.m__law_holds T.k__law_holds T.b__law_holds (das_cons (de_var 6) (das_cons (de_var 1) das_nil)))) (fun _ => rfl))))) (dss_one (ds_set (i := 3) sc__law_gain.nd rfl (by first | exact Or.inl rfl | exact Or.inr rfl) (de_op op_addU rop_add (dp_var 3) (dp_var 4)))) dss_nil)))
 (dss_one (ds_ret (de_var 3))))), p__law_gain⟩
theorem ok__law_leave (T : Txt K mg) : FnOk P w K mg base CX0 2 T.f__law_leave T.d__law_leave ["_law_scheme_here", "_law_counts"] (spF ⟨K, mg⟩ wf__law_leave) :=
  fun_okD T.F__law_leave sc__law_leave len__law_leave fun cdv A outer s H E hr => ⟨_, w__law_leave, (dss_cons (ds_set (i := 2) sc__law_leave.nd rfl (by first | exact Or.inl rfl | exact Or.inr rfl) de_int)
 (dss_cons (ds_for PassesOwn.never rfl (di_list (de_ix (hu_of hr) (dp_var 0) (DE.dp de_int) (fun _ _ => rfl))) (dg_tup [3, 4] rfl (gs_cons (i := 3) sc__law_leave.nd rfl (by first | exact Or.inl rfl | exact Or.inr rfl) (gs_cons (i := 4) sc__law_leave.nd rfl (by first | exact Or.inl rfl | exact Or.inr rfl) gs_nil))) (dss_one (ds_if (dt_truth (DE.dp (de_call (ok__law_holds T) (hr.mono (by decide)) (by rfl) T.m__law_holds T.k__law_holds T.b__law_holds (das_cons (de_var 4) (das_cons (de_var 1) das_nil)))) (fun _ => rfl)) (dss_one (ds_set (i := 2) sc__law_leave.nd rfl (by first | exact Or.inl rfl | exact Or.inr rfl) (de_op op_addU rop_add (dp_var 2) (dp_var 3)))) dss_nil)))
 (dss_one (ds_ret (de_var 2))))), p__law_leave⟩
theorem ok__law_career (T : Txt K mg) : FnOk P w K mg base CX0 2 T.f__law_career T.d__law_career ["_law_box", "_law_facts_here", "_law_most"] (spF ⟨K, mg⟩ wf__law_career) :=
  fun_okD T.F__law_career sc__law_career len__law_career fun cdv A outer s H E hr => ⟨_, w__law_career, (dss_one (ds_ret (DF.de (df_lc (own := [("_law_k", 3)]) rfl sc__law_career.nd (di_range1 (by rfl) T.z_range (da_cons (de_call (ok__law_draw T) (hr.mono (by decide)) (by rfl) T.m__law_draw T.k__law_draw T.b__law_draw (das_box 0 (das_cons (de_op op_addU rop_add (dp_var 2) (DE.dp de_int)) das_nil))) da_nil)) (blkOk_by (own := [("_law_k", 3)]) (N := N__law_career) (sc := defScope s__law_career) (by decide +kernel)) (dg_name (i := 3) sc__law_career.nd rfl (by first | exact Or.inl rfl | exact Or.inr rfl)) dts_nil (de_ix (hu_of hr) (dp_var 1) (DE.dp (de_call (ok__law_draw T) (hr.mono (by decide)) (by rfl) T.m__law_draw T.k__law_draw T.b__law_draw (das_box 0 (das_cons (de_b1 call_lenU ro1_len (by rfl) T.z_len (by decide +kernel) (dp_var 1)) das_nil)))) (fun _ _ => rfl)) (fun _ _ _ _ _ => (dg_name (i := 3) sc__law_career.nd rfl (by first | exact Or.inl rfl | exact Or.inr rfl))) (fun _ _ _ _ _ => dts_nil) (fun _ _ _ _ _ => (de_ix (hu_of hr) (dp_var 1) (DE.dp (de_call (ok__law_draw T) (hr.mono (by decide)) (by rfl) T.m__law_draw T.k__law_draw T.b__law_draw (das_box 0 (das_cons (de_b1 call_lenU ro1_len (by rfl) T.z_len (by decide +kernel) (dp_var 1)) das_nil)))) (fun _ _ => rfl))))))), p__law_career⟩
theorem ok_law (T : Txt K mg) (B : Bx T base) : FnG P w K mg base 5 T.f_law T.d_law ["_law_script"] (spLawT T.tbs K) :=
  law_boxET T.F_law sc_law (i := 1) (n := 7) rfl (by decide) rfl fun cdv A outer s H hr hgd => (letI := Lk.tab T.tbs; ⟨_, w_law0, _, w_law1, (DF.de (df_lst (da_cons (de_call (ok__law_digits T) (hr.mono (by decide)) (by rfl) T.m__law_digits T.k__law_digits T.b__law_digits (das_cons (de_var 0) (das_cons de_int (das_cons de_int das_nil)))) (da_cons de_int da_nil)))), (dss_cons (ds_set (i := 2) sc_law.nd rfl (by first | exact Or.inl rfl | exact Or.inr rfl) (de_call (ok__law_scheme T) (hr.mono (by decide)) (by rfl) T.m__law_scheme T.k__law_scheme T.b__law_scheme (das_box 1 (das_cons (de_call (ok__law_facts T) (hr.mono (by decide)) (by rfl) T.m__law_facts T.k__law_facts T.b__law_facts (das_box 1 das_nil)) das_nil))))
 (dss_cons (ds_set (i := 3) sc_law.nd rfl (by first | exact Or.inl rfl | exact Or.inr rfl) (de_make T.mk_Rules (ok_Rules_init T) (hr.mono (by decide)) (by rfl) T.M_Rules T.b_Rules_init (das_cons (de_ix (hu_of hr) (dp_var 2) (DE.dp de_int) (fun _ _ => rfl)) (das_cons (de_ix (hu_of hr) (dp_var 2) (DE.dp de_int) (fun _ _ => rfl)) (das_cons (de_ix (hu_of hr) (dp_var 2) (DE.dp de_int) (fun _ _ => rfl)) (das_cons (de_ix (hu_of hr) (dp_var 2) (DE.dp de_int) (fun _ _ => rfl)) das_nil))))))
 (dss_cons (ds_set (i := 4) sc_law.nd rfl (by first | exact Or.inl rfl | exact Or.inr rfl) (de_call (ok_first_counts T) (hr.mono (by decide)) (by rfl) T.m_first_counts T.k_first_counts T.b_first_counts (das_cons (de_var 3) das_nil)))
 (dss_cons (ds_if (dt_cmp (op_nkS hr.units) rop_neS (dp_var 4) (DE.dp (de_call (ok__law_zero T) (hr.mono (by decide)) (by rfl) T.m__law_zero T.k__law_zero T.b__law_zero (das_cons (de_var 2) das_nil))) (nomark _)) (dss_one (ds_ret de_bl)) dss_nil)
 (dss_cons (ds_for PassesOwn.never rfl (di_list (de_call (ok__law_career T) (hr.mono (by decide)) (by rfl) T.m__law_career T.k__law_career T.b__law_career (das_box 1 (das_cons (de_ix (hu_of hr) (dp_var 2) (DE.dp de_int) (fun _ _ => rfl)) (das_cons de_int das_nil))))) (dg_name (i := 7) sc_law.nd rfl (by first | exact Or.inl rfl | exact Or.inr rfl)) (dss_cons (ds_set (i := 5) sc_law.nd rfl (by first | exact Or.inl rfl | exact Or.inr rfl) (de_t1 (call_dictU rfl) ro1_dict (by rfl) T.z_dict (by decide +kernel) (dp_var 4)))
 (dss_cons (ds_if (DWt.dt (dw_or (dt_cmp (op_neU hr.units) rop_ne (DE.dp (de_callT (fun h => h) (ok_year_gain T B) (hr.mono (by decide)) (by rfl) T.m_year_gain T.k_year_gain T.b_year_gain (das_cons (de_var 3) (das_cons (de_var 4) (das_cons (de_var 7) das_nil))))) (DE.dp (de_call (ok__law_gain T) (hr.mono (by decide)) (by rfl) T.m__law_gain T.k__law_gain T.b__law_gain (das_cons (de_var 2) (das_cons (de_var 4) (das_cons (de_var 7) das_nil))))) (nomark _)) (dw_or1 (dt_cmp (op_neU hr.units) rop_ne (DE.dp (de_callT (fun h => h) (ok_leave_gain T B) (hr.mono (by decide)) (by rfl) T.m_leave_gain T.k_leave_gain T.b_leave_gain (das_cons (de_var 3) (das_cons (de_var 4) das_nil)))) (DE.dp (de_call (ok__law_leave T) (hr.mono (by decide)) (by rfl) T.m__law_leave T.k__law_leave T.b__law_leave (das_cons (de_var 2) (das_cons (de_var 4) das_nil)))) (nomark _))))) (dss_one (ds_ret de_bl)) dss_nil)
 (dss_cons (ds_set (i := 6) sc_law.nd rfl (by first | exact Or.inl rfl | exact Or.inr rfl) (de_call (ok_year_counts T) (hr.mono (by decide)) (by rfl) T.m_year_counts T.k_year_counts T.b_year_counts (das_cons (de_var 3) (das_cons (de_var 4) (das_cons (de_var 7) das_nil)))))
 (dss_cons (ds_if (DWt.dt (dw_or (dt_not (dt_val (de_isiK (by rfl) T.z_isinstance (by rfl) T.z_dict (by decide +kernel) (dp_var 6)) (fun _ => rfl))) (dw_or (dt_cmp (op_nkS hr.units) rop_neS (dp_var 6) (DE.dp (de_call (ok__law_year T) (hr.mono (by decide)) (by rfl) T.m__law_year T.k__law_year T.b__law_year (das_cons (de_var 2) (das_cons (de_var 4) (das_cons (de_var 7) das_nil))))) (nomark _)) (dw_or (dt_cmp (op_neU hr.units) rop_ne (DE.dp (de_t1 (call_listD rfl) ro1_listK (by rfl) T.z_list (by decide +kernel) (dp_var 6))) (DE.dp (de_meth0 (ok_Rules_names T) (hr.mono (by decide)) T.M_Rules T.L_Rules T.me_Rules_names T.b_Rules_names (de_var 3))) (nomark _)) (dw_or1 (dt_cmp (op_nkS hr.units) rop_neS (dp_var 4) (dp_var 5) (nomark _))))))) (dss_one (ds_ret de_bl)) dss_nil)
 (dss_one (ds_set (i := 4) sc_law.nd rfl (by first | exact Or.inl rfl | exact Or.inr rfl) (de_var 6))))))))
 (dss_one (ds_ret (de_cmp (op_eqU hr.units) rop_eq (DE.dp (de_callT (fun h => h) (ok_leave_gain T B) (hr.mono (by decide)) (by rfl) T.m_leave_gain T.k_leave_gain T.b_leave_gain (das_cons (de_var 3) (das_cons (de_var 4) das_nil)))) (DE.dp (de_call (ok__law_leave T) (hr.mono (by decide)) (by rfl) T.m__law_leave T.k__law_leave T.b__law_leave (das_cons (de_var 2) (das_cons (de_var 4) das_nil)))) (nomark _))))))))), fun p q => pss_cons (ps_set (i := 1) sc_law.nd rfl (by first | exact Or.inl rfl | exact Or.inr rfl) p) q, p_law0, p_law1⟩)
end
theorem all_mk {l : PySem.W.OpenLaw} {q : Program} {w : World} {K : PySem.W.Frag} {h : Heap} {mg : Str → Option Value} {fa : Addr} (X : K.In h) (G : h.Ns mainGlobals mg) (hfa : mg "law" = some (.ref fa)) (hto : ∀ y : Str, ((recsOf q).any fun e => e.name == y) = true → TabOf mg h y)
    {C_Rules : Addr}
    {od0 an0 : Option Addr} {sl0 : Array (Option Value)} {oc0 kV0 dc0 pm0 cd0 ct0 : Value} {f0 : Addr}
    {od1 an1 tdd1 : Option Addr} {sl1 tsl1 : Array (Option Value)} {oc1 kV1 dc1 pm1 ct1 te1 : Value} {f1 ca1 tP1 : Addr} {tvs1 : Array Value}
    {od2 an2 : Option Addr} {sl2 : Array (Option Value)} {oc2 kV2 dc2 pm2 cd2 ct2 : Value} {f2 : Addr}
    {od3 an3 : Option Addr} {sl3 : Array (Option Value)} {oc3 kV3 dc3 pm3 cd3 ct3 : Value} {f3 : Addr}
    {od4 an4 : Option Addr} {sl4 : Array (Option Value)} {oc4 kV4 dc4 pm4 cd4 ct4 : Value} {f4 : Addr}
    {od5 an5 : Option Addr} {sl5 : Array (Option Value)} {oc5 kV5 dc5 pm5 cd5 ct5 : Value} {f5 : Addr}
    {od6 an6 : Option Addr} {sl6 : Array (Option Value)} {oc6 kV6 dc6 pm6 cd6 ct6 : Value} {f6 : Addr}
    {od7 an7 : Option Addr} {sl7 : Array (Option Value)} {oc7 kV7 dc7 pm7 cd7 ct7 : Value} {f7 : Addr}
    {od8 an8 : Option Addr} {sl8 : Array (Option Value)} {oc8 kV8 dc8 pm8 cd8 ct8 : Value} {f8 : Addr}
    {od9 an9 : Option Addr} {sl9 : Array (Option Value)} {oc9 kV9 dc9 pm9 cd9 ct9 : Value} {f9 : Addr}
    {od10 an10 : Option Addr} {sl10 : Array (Option Value)} {oc10 kV10 dc10 pm10 cd10 ct10 : Value} {f10 : Addr}
    {od11 an11 : Option Addr} {sl11 : Array (Option Value)} {oc11 kV11 dc11 pm11 cd11 ct11 : Value} {f11 : Addr}
    {od12 an12 : Option Addr} {sl12 : Array (Option Value)} {oc12 kV12 dc12 pm12 cd12 ct12 : Value} {f12 : Addr}
    {od13 an13 : Option Addr} {sl13 : Array (Option Value)} {oc13 kV13 dc13 pm13 cd13 ct13 : Value} {f13 : Addr}
    {od14 an14 : Option Addr} {sl14 : Array (Option Value)} {oc14 kV14 dc14 pm14 cd14 ct14 : Value} {f14 : Addr}
    {od15 an15 : Option Addr} {sl15 : Array (Option Value)} {oc15 kV15 dc15 pm15 cd15 ct15 : Value} {f15 : Addr}
    {od16 an16 : Option Addr} {sl16 : Array (Option Value)} {oc16 kV16 dc16 pm16 cd16 ct16 : Value} {f16 : Addr}
    {od17 an17 : Option Addr} {sl17 : Array (Option Value)} {oc17 kV17 dc17 pm17 cd17 ct17 : Value} {f17 : Addr}
    {od18 an18 : Option Addr} {sl18 : Array (Option Value)} {oc18 kV18 dc18 pm18 cd18 ct18 : Value} {f18 : Addr}
    {od19 an19 : Option Addr} {sl19 : Array (Option Value)} {oc19 kV19 dc19 pm19 cd19 ct19 : Value} {f19 : Addr}
    {od20 an20 : Option Addr} {sl20 : Array (Option Value)} {oc20 kV20 dc20 pm20 cd20 ct20 : Value} {f20 : Addr}
    {od21 an21 : Option Addr} {sl21 : Array (Option Value)} {oc21 kV21 dc21 pm21 cd21 ct21 : Value} {f21 : Addr}
    {od22 an22 : Option Addr} {sl22 : Array (Option Value)} {oc22 kV22 dc22 pm22 cd22 ct22 : Value} {f22 : Addr}
    {od23 an23 : Option Addr} {sl23 : Array (Option Value)} {oc23 kV23 dc23 pm23 cd23 ct23 : Value} {f23 : Addr}
    {t_AT_LEAST : Tok}
    {t_RESET : Tok}
    (aC_Rules : PySem.W.nsIn K mainGlobals "Rules" = some (some (.ref C_Rules))) (pg_Rules : PySem.W.plainGet K C_Rules Str.empty = true) (hd_Rules : PySem.W.hasDictIn K C_Rules = true) (po_Rules : PySem.W.plainOver K C_Rules = true) (sa_Rules : PySem.W.findIn K (.ref C_Rules) "__setattr__" = some (some (.builtin "object.__setattr__"))) (mk_Rules : PySem.W.makesIn K C_Rules = true) (kc_Rules : PySem.W.keepIn K (.ref C_Rules) = true)
    (na_Rules_counters : PySem.W.findIn K (.ref C_Rules) "counters" = some none)
    (na_Rules_facts : PySem.W.findIn K (.ref C_Rules) "facts" = some none)
    (na_Rules_gains : PySem.W.findIn K (.ref C_Rules) "gains" = some none)
    (na_Rules_leaves : PySem.W.findIn K (.ref C_Rules) "leaves" = some none)
    (a0 : PySem.W.nsIn K mainGlobals "passes" = some (some (.ref f0)))
    (l0 : K.lookup f0 = some ⟨oc0, od0, .func (PySem.W.fnOf "passes" "passes" (defArgs s_passes) (defBody s_passes) (defScope s_passes) .none kV0 dc0 pm0 an0 cd0 ct0), sl0⟩) (c0 : PySem.W.codeIn K cd0 "passes" = true) (k0 : PySem.W.keepIn K (.ref f0) = true)
    (a1 : PySem.W.nsIn K mainGlobals "holds" = some (some (.ref f1)))
    (l1 : K.lookup f1 = some ⟨oc1, od1, .func (PySem.W.fnOf "holds" "holds" (defArgs s_holds) (defBody s_holds) (defScope s_holds) .none kV1 dc1 pm1 an1 (.ref ca1) ct1), sl1⟩) (c1 : PySem.W.codeIn K (.ref ca1) "holds" = true) (k1 : PySem.W.keepIn K (.ref f1) = true)
    (tl1 : K.lookup ca1 = some ⟨te1, tdd1, .fields tvs1, tsl1⟩) (tv1 : tvs1[11]? = some (.ref tP1)) (tn1 : K.lookup tP1 = none) (tr1 : ((recsOf q).any fun e => e.name == ("holds" : Str)) = true)
    (a2 : PySem.W.findIn K (.ref C_Rules) "__init__" = some (some (.ref f2))) (i2 : PySem.W.isFn K (.ref f2) = true)
    (l2 : K.lookup f2 = some ⟨oc2, od2, .func (PySem.W.fnOf "__init__" "Rules.__init__" (defArgs s_Rules_init) (defBody s_Rules_init) (defScope s_Rules_init) .none kV2 dc2 pm2 an2 cd2 ct2), sl2⟩) (c2 : PySem.W.codeIn K cd2 "Rules.__init__" = true) (k2 : PySem.W.keepIn K (.ref f2) = true)
    (a3 : PySem.W.findIn K (.ref C_Rules) "names" = some (some (.ref f3))) (i3 : PySem.W.isFn K (.ref f3) = true)
    (l3 : K.lookup f3 = some ⟨oc3, od3, .func (PySem.W.fnOf "names" "Rules.names" (defArgs s_Rules_names) (defBody s_Rules_names) (defScope s_Rules_names) .none kV3 dc3 pm3 an3 cd3 ct3), sl3⟩) (c3 : PySem.W.codeIn K cd3 "Rules.names" = true) (k3 : PySem.W.keepIn K (.ref f3) = true)
    (a4 : PySem.W.nsIn K mainGlobals "counted" = some (some (.ref f4)))
    (l4 : K.lookup f4 = some ⟨oc4, od4, .func (PySem.W.fnOf "counted" "counted" (defArgs s_counted) (defBody s_counted) (defScope s_counted) .none kV4 dc4 pm4 an4 cd4 ct4), sl4⟩) (c4 : PySem.W.codeIn K cd4 "counted" = true) (k4 : PySem.W.keepIn K (.ref f4) = true)
    (a5 : PySem.W.nsIn K mainGlobals "year_counts" = some (some (.ref f5)))
    (l5 : K.lookup f5 = some ⟨oc5, od5, .func (PySem.W.fnOf "year_counts" "year_counts" (defArgs s_year_counts) (defBody s_year_counts) (defScope s_year_counts) .none kV5 dc5 pm5 an5 cd5 ct5), sl5⟩) (c5 : PySem.W.codeIn K cd5 "year_counts" = true) (k5 : PySem.W.keepIn K (.ref f5) = true)
    (a6 : PySem.W.nsIn K mainGlobals "year_gain" = some (some (.ref f6)))
    (l6 : K.lookup f6 = some ⟨oc6, od6, .func (PySem.W.fnOf "year_gain" "year_gain" (defArgs s_year_gain) (defBody s_year_gain) (defScope s_year_gain) .none kV6 dc6 pm6 an6 cd6 ct6), sl6⟩) (c6 : PySem.W.codeIn K cd6 "year_gain" = true) (k6 : PySem.W.keepIn K (.ref f6) = true)
    (a7 : PySem.W.nsIn K mainGlobals "leave_gain" = some (some (.ref f7)))
    (l7 : K.lookup f7 = some ⟨oc7, od7, .func (PySem.W.fnOf "leave_gain" "leave_gain" (defArgs s_leave_gain) (defBody s_leave_gain) (defScope s_leave_gain) .none kV7 dc7 pm7 an7 cd7 ct7), sl7⟩) (c7 : PySem.W.codeIn K cd7 "leave_gain" = true) (k7 : PySem.W.keepIn K (.ref f7) = true)
    (a8 : PySem.W.nsIn K mainGlobals "first_counts" = some (some (.ref f8)))
    (l8 : K.lookup f8 = some ⟨oc8, od8, .func (PySem.W.fnOf "first_counts" "first_counts" (defArgs s_first_counts) (defBody s_first_counts) (defScope s_first_counts) .none kV8 dc8 pm8 an8 cd8 ct8), sl8⟩) (c8 : PySem.W.codeIn K cd8 "first_counts" = true) (k8 : PySem.W.keepIn K (.ref f8) = true)
    (a9 : PySem.W.nsIn K mainGlobals "_law_cell" = some (some (.ref f9)))
    (l9 : K.lookup f9 = some ⟨oc9, od9, .func (PySem.W.fnOf "_law_cell" "_law_cell" (defArgs s__law_cell) (defBody s__law_cell) (defScope s__law_cell) .none kV9 dc9 pm9 an9 cd9 ct9), sl9⟩) (c9 : PySem.W.codeIn K cd9 "_law_cell" = true) (k9 : PySem.W.keepIn K (.ref f9) = true)
    (a10 : PySem.W.nsIn K mainGlobals "_law_digits" = some (some (.ref f10)))
    (l10 : K.lookup f10 = some ⟨oc10, od10, .func (PySem.W.fnOf "_law_digits" "_law_digits" (defArgs s__law_digits) (defBody s__law_digits) (defScope s__law_digits) .none kV10 dc10 pm10 an10 cd10 ct10), sl10⟩) (c10 : PySem.W.codeIn K cd10 "_law_digits" = true) (k10 : PySem.W.keepIn K (.ref f10) = true)
    (a11 : PySem.W.nsIn K mainGlobals "_law_draw" = some (some (.ref f11)))
    (l11 : K.lookup f11 = some ⟨oc11, od11, .func (PySem.W.fnOf "_law_draw" "_law_draw" (defArgs s__law_draw) (defBody s__law_draw) (defScope s__law_draw) .none kV11 dc11 pm11 an11 cd11 ct11), sl11⟩) (c11 : PySem.W.codeIn K cd11 "_law_draw" = true) (k11 : PySem.W.keepIn K (.ref f11) = true)
    (a12 : PySem.W.nsIn K mainGlobals "_law_condition" = some (some (.ref f12)))
    (l12 : K.lookup f12 = some ⟨oc12, od12, .func (PySem.W.fnOf "_law_condition" "_law_condition" (defArgs s__law_condition) (defBody s__law_condition) (defScope s__law_condition) .none kV12 dc12 pm12 an12 cd12 ct12), sl12⟩) (c12 : PySem.W.codeIn K cd12 "_law_condition" = true) (k12 : PySem.W.keepIn K (.ref f12) = true)
    (a13 : PySem.W.nsIn K mainGlobals "_law_amount" = some (some (.ref f13)))
    (l13 : K.lookup f13 = some ⟨oc13, od13, .func (PySem.W.fnOf "_law_amount" "_law_amount" (defArgs s__law_amount) (defBody s__law_amount) (defScope s__law_amount) .none kV13 dc13 pm13 an13 cd13 ct13), sl13⟩) (c13 : PySem.W.codeIn K cd13 "_law_amount" = true) (k13 : PySem.W.keepIn K (.ref f13) = true)
    (a14 : PySem.W.nsIn K mainGlobals "_law_facts" = some (some (.ref f14)))
    (l14 : K.lookup f14 = some ⟨oc14, od14, .func (PySem.W.fnOf "_law_facts" "_law_facts" (defArgs s__law_facts) (defBody s__law_facts) (defScope s__law_facts) .none kV14 dc14 pm14 an14 cd14 ct14), sl14⟩) (c14 : PySem.W.codeIn K cd14 "_law_facts" = true) (k14 : PySem.W.keepIn K (.ref f14) = true)
    (a15 : PySem.W.nsIn K mainGlobals "_law_counters" = some (some (.ref f15)))
    (l15 : K.lookup f15 = some ⟨oc15, od15, .func (PySem.W.fnOf "_law_counters" "_law_counters" (defArgs s__law_counters) (defBody s__law_counters) (defScope s__law_counters) .none kV15 dc15 pm15 an15 cd15 ct15), sl15⟩) (c15 : PySem.W.codeIn K cd15 "_law_counters" = true) (k15 : PySem.W.keepIn K (.ref f15) = true)
    (a16 : PySem.W.nsIn K mainGlobals "_law_scheme" = some (some (.ref f16)))
    (l16 : K.lookup f16 = some ⟨oc16, od16, .func (PySem.W.fnOf "_law_scheme" "_law_scheme" (defArgs s__law_scheme) (defBody s__law_scheme) (defScope s__law_scheme) .none kV16 dc16 pm16 an16 cd16 ct16), sl16⟩) (c16 : PySem.W.codeIn K cd16 "_law_scheme" = true) (k16 : PySem.W.keepIn K (.ref f16) = true)
    (a17 : PySem.W.nsIn K mainGlobals "_law_holds" = some (some (.ref f17)))
    (l17 : K.lookup f17 = some ⟨oc17, od17, .func (PySem.W.fnOf "_law_holds" "_law_holds" (defArgs s__law_holds) (defBody s__law_holds) (defScope s__law_holds) .none kV17 dc17 pm17 an17 cd17 ct17), sl17⟩) (c17 : PySem.W.codeIn K cd17 "_law_holds" = true) (k17 : PySem.W.keepIn K (.ref f17) = true)
    (a18 : PySem.W.nsIn K mainGlobals "_law_zero" = some (some (.ref f18)))
    (l18 : K.lookup f18 = some ⟨oc18, od18, .func (PySem.W.fnOf "_law_zero" "_law_zero" (defArgs s__law_zero) (defBody s__law_zero) (defScope s__law_zero) .none kV18 dc18 pm18 an18 cd18 ct18), sl18⟩) (c18 : PySem.W.codeIn K cd18 "_law_zero" = true) (k18 : PySem.W.keepIn K (.ref f18) = true)
    (a19 : PySem.W.nsIn K mainGlobals "_law_year" = some (some (.ref f19)))
    (l19 : K.lookup f19 = some ⟨oc19, od19, .func (PySem.W.fnOf "_law_year" "_law_year" (defArgs s__law_year) (defBody s__law_year) (defScope s__law_year) .none kV19 dc19 pm19 an19 cd19 ct19), sl19⟩) (c19 : PySem.W.codeIn K cd19 "_law_year" = true) (k19 : PySem.W.keepIn K (.ref f19) = true)
    (a20 : PySem.W.nsIn K mainGlobals "_law_gain" = some (some (.ref f20)))
    (l20 : K.lookup f20 = some ⟨oc20, od20, .func (PySem.W.fnOf "_law_gain" "_law_gain" (defArgs s__law_gain) (defBody s__law_gain) (defScope s__law_gain) .none kV20 dc20 pm20 an20 cd20 ct20), sl20⟩) (c20 : PySem.W.codeIn K cd20 "_law_gain" = true) (k20 : PySem.W.keepIn K (.ref f20) = true)
    (a21 : PySem.W.nsIn K mainGlobals "_law_leave" = some (some (.ref f21)))
    (l21 : K.lookup f21 = some ⟨oc21, od21, .func (PySem.W.fnOf "_law_leave" "_law_leave" (defArgs s__law_leave) (defBody s__law_leave) (defScope s__law_leave) .none kV21 dc21 pm21 an21 cd21 ct21), sl21⟩) (c21 : PySem.W.codeIn K cd21 "_law_leave" = true) (k21 : PySem.W.keepIn K (.ref f21) = true)
    (a22 : PySem.W.nsIn K mainGlobals "_law_career" = some (some (.ref f22)))
    (l22 : K.lookup f22 = some ⟨oc22, od22, .func (PySem.W.fnOf "_law_career" "_law_career" (defArgs s__law_career) (defBody s__law_career) (defScope s__law_career) .none kV22 dc22 pm22 an22 cd22 ct22), sl22⟩) (c22 : PySem.W.codeIn K cd22 "_law_career" = true) (k22 : PySem.W.keepIn K (.ref f22) = true)
    (a23 : PySem.W.nsIn K mainGlobals "law" = some (some (.ref f23)))
    (l23 : K.lookup f23 = some ⟨oc23, od23, .func (PySem.W.fnOf "law" "law" (defArgs s_law) (defBody s_law) (defScope s_law) .none kV23 dc23 pm23 an23 cd23 ct23), sl23⟩) (c23 : PySem.W.codeIn K cd23 "law" = true) (k23 : PySem.W.keepIn K (.ref f23) = true)
    (z_all : PySem.W.nsIn K mainGlobals "all" = some none)
    (z_dict : PySem.W.nsIn K mainGlobals "dict" = some none)
    (z_int : PySem.W.nsIn K mainGlobals "int" = some none)
    (z_isinstance : PySem.W.nsIn K mainGlobals "isinstance" = some none)
    (z_len : PySem.W.nsIn K mainGlobals "len" = some none)
    (z_list : PySem.W.nsIn K mainGlobals "list" = some none)
    (z_min : PySem.W.nsIn K mainGlobals "min" = some none)
    (z_range : PySem.W.nsIn K mainGlobals "range" = some none)
    (z_sum : PySem.W.nsIn K mainGlobals "sum" = some none)
    (c_AT_LEAST : PySem.W.nsIn K mainGlobals "AT_LEAST" = some (some (.str ">=" t_AT_LEAST)))
    (c_RESET : PySem.W.nsIn K mainGlobals "RESET" = some (some (.str "reset" t_RESET))) :
    ∃ (fd : FuncData) (cs : List (Addr × Addr)), (∀ p ∈ cs, PySem.W.CodeHd h p.1 p.2 ∧ h.get? p.2 = some { cls := .none, data := .fields #[] }) ∧ (∀ p ∈ cs, K.lookup p.2 = none) ∧ (∀ (s : Shared) (v : Value), BindsTo s fd ⟨[v], []⟩ [("_law_script", v)]) ∧ ∀ base : Heap, K.In base → base.Ns mainGlobals mg → (∀ p ∈ cs, GxR.TabB base mg p.1 p.2) → FnG l.prog w K mg base 5 fa fd ["_law_script"] (spLawT (cs.map (·.2)) K) := by
  have e := hfa.symm.trans (PySem.W.mg_of X G a23)
  cases e
  let T : Txt K mg := {
    C_Rules := C_Rules,
    M_Rules := PySem.W.mg_of X G aC_Rules,
    L_Rules := ⟨pg_Rules, hd_Rules, po_Rules, sa_Rules⟩,
    na_Rules_counters := na_Rules_counters,
    na_Rules_facts := na_Rules_facts,
    na_Rules_gains := na_Rules_gains,
    na_Rules_leaves := na_Rules_leaves,
    f_passes := f0,
    d_passes := PySem.W.fnOf "passes" "passes" (defArgs s_passes) (defBody s_passes) (defScope s_passes) .none kV0 dc0 pm0 an0 cd0 ct0,
    F_passes := fun_mk (st := s_passes) l0 c0 k0,
    b_passes := (fun_mk (st := s_passes) l0 c0 k0).binds (ps := ["test", "counts"]) (fun _ _ _ _ _ _ us hl => match us, hl with | [_, _], _ => rfl),
    m_passes := PySem.W.mg_of X G a0,
    k_passes := k0,
    ca_holds := ca1, P_holds := tP1, cd_holds := rfl,
    f_holds := f1,
    d_holds := PySem.W.fnOf "holds" "holds" (defArgs s_holds) (defBody s_holds) (defScope s_holds) .none kV1 dc1 pm1 an1 (.ref ca1) ct1,
    F_holds := fun_mk (st := s_holds) l1 c1 k1,
    b_holds := (fun_mk (st := s_holds) l1 c1 k1).binds (ps := ["condition", "counts"]) (fun _ _ _ _ _ _ us hl => match us, hl with | [_, _], _ => rfl),
    m_holds := PySem.W.mg_of X G a1,
    k_holds := k1,
    f_Rules_init := f2,
    d_Rules_init := PySem.W.fnOf "__init__" "Rules.__init__" (defArgs s_Rules_init) (defBody s_Rules_init) (defScope s_Rules_init) .none kV2 dc2 pm2 an2 cd2 ct2,
    F_Rules_init := fun_mk (st := s_Rules_init) l2 c2 k2,
    b_Rules_init := (fun_mk (st := s_Rules_init) l2 c2 k2).binds (ps := ["self", "facts", "counters", "gains", "leaves"]) (fun _ _ _ _ _ _ us hl => match us, hl with | [_, _, _, _, _], _ => rfl),
    mk_Rules := ⟨mk_Rules, a2, i2, kc_Rules⟩,
    f_Rules_names := f3,
    d_Rules_names := PySem.W.fnOf "names" "Rules.names" (defArgs s_Rules_names) (defBody s_Rules_names) (defScope s_Rules_names) .none kV3 dc3 pm3 an3 cd3 ct3,
    F_Rules_names := fun_mk (st := s_Rules_names) l3 c3 k3,
    b_Rules_names := (fun_mk (st := s_Rules_names) l3 c3 k3).binds (ps := ["self"]) (fun _ _ _ _ _ _ us hl => match us, hl with | [_], _ => rfl),
    me_Rules_names := ⟨a3, i3, k3⟩,
    f_counted := f4,
    d_counted := PySem.W.fnOf "counted" "counted" (defArgs s_counted) (defBody s_counted) (defScope s_counted) .none kV4 dc4 pm4 an4 cd4 ct4,
    F_counted := fun_mk (st := s_counted) l4 c4 k4,
    b_counted := (fun_mk (st := s_counted) l4 c4 k4).binds (ps := ["counter", "value", "fact"]) (fun _ _ _ _ _ _ us hl => match us, hl with | [_, _, _], _ => rfl),
    m_counted := PySem.W.mg_of X G a4,
    k_counted := k4,
    f_year_counts := f5,
    d_year_counts := PySem.W.fnOf "year_counts" "year_counts" (defArgs s_year_counts) (defBody s_year_counts) (defScope s_year_counts) .none kV5 dc5 pm5 an5 cd5 ct5,
    F_year_counts := fun_mk (st := s_year_counts) l5 c5 k5,
    b_year_counts := (fun_mk (st := s_year_counts) l5 c5 k5).binds (ps := ["rules", "counts", "fact"]) (fun _ _ _ _ _ _ us hl => match us, hl with | [_, _, _], _ => rfl),
    m_year_counts := PySem.W.mg_of X G a5,
    k_year_counts := k5,
    f_year_gain := f6,
    d_year_gain := PySem.W.fnOf "year_gain" "year_gain" (defArgs s_year_gain) (defBody s_year_gain) (defScope s_year_gain) .none kV6 dc6 pm6 an6 cd6 ct6,
    F_year_gain := fun_mk (st := s_year_gain) l6 c6 k6,
    b_year_gain := (fun_mk (st := s_year_gain) l6 c6 k6).binds (ps := ["rules", "counts", "fact"]) (fun _ _ _ _ _ _ us hl => match us, hl with | [_, _, _], _ => rfl),
    m_year_gain := PySem.W.mg_of X G a6,
    k_year_gain := k6,
    f_leave_gain := f7,
    d_leave_gain := PySem.W.fnOf "leave_gain" "leave_gain" (defArgs s_leave_gain) (defBody s_leave_gain) (defScope s_leave_gain) .none kV7 dc7 pm7 an7 cd7 ct7,
    F_leave_gain := fun_mk (st := s_leave_gain) l7 c7 k7,
    b_leave_gain := (fun_mk (st := s_leave_gain) l7 c7 k7).binds (ps := ["rules", "counts"]) (fun _ _ _ _ _ _ us hl => match us, hl with | [_, _], _ => rfl),
    m_leave_gain := PySem.W.mg_of X G a7,
    k_leave_gain := k7,
    f_first_counts := f8,
    d_first_counts := PySem.W.fnOf "first_counts" "first_counts" (defArgs s_first_counts) (defBody s_first_counts) (defScope s_first_counts) .none kV8 dc8 pm8 an8 cd8 ct8,
    F_first_counts := fun_mk (st := s_first_counts) l8 c8 k8,
    b_first_counts := (fun_mk (st := s_first_counts) l8 c8 k8).binds (ps := ["rules"]) (fun _ _ _ _ _ _ us hl => match us, hl with | [_], _ => rfl),
    m_first_counts := PySem.W.mg_of X G a8,
    k_first_counts := k8,
    f__law_cell := f9,
    d__law_cell := PySem.W.fnOf "_law_cell" "_law_cell" (defArgs s__law_cell) (defBody s__law_cell) (defScope s__law_cell) .none kV9 dc9 pm9 an9 cd9 ct9,
    F__law_cell := fun_mk (st := s__law_cell) l9 c9 k9,
    b__law_cell := (fun_mk (st := s__law_cell) l9 c9 k9).binds (ps := ["_law_script", "_law_k"]) (fun _ _ _ _ _ _ us hl => match us, hl with | [_, _], _ => rfl),
    m__law_cell := PySem.W.mg_of X G a9,
    k__law_cell := k9,
    f__law_digits := f10,
    d__law_digits := PySem.W.fnOf "_law_digits" "_law_digits" (defArgs s__law_digits) (defBody s__law_digits) (defScope s__law_digits) .none kV10 dc10 pm10 an10 cd10 ct10,
    F__law_digits := fun_mk (st := s__law_digits) l10 c10 k10,
    b__law_digits := (fun_mk (st := s__law_digits) l10 c10 k10).binds (ps := ["_law_script", "_law_first", "_law_last"]) (fun _ _ _ _ _ _ us hl => match us, hl with | [_, _, _], _ => rfl),
    m__law_digits := PySem.W.mg_of X G a10,
    k__law_digits := k10,
    f__law_draw := f11,
    d__law_draw := PySem.W.fnOf "_law_draw" "_law_draw" (defArgs s__law_draw) (defBody s__law_draw) (defScope s__law_draw) .none kV11 dc11 pm11 an11 cd11 ct11,
    F__law_draw := fun_mk (st := s__law_draw) l11 c11 k11,
    b__law_draw := (fun_mk (st := s__law_draw) l11 c11 k11).binds (ps := ["_law_box", "_law_many"]) (fun _ _ _ _ _ _ us hl => match us, hl with | [_, _], _ => rfl),
    m__law_draw := PySem.W.mg_of X G a11,
    k__law_draw := k11,
    f__law_condition := f12,
    d__law_condition := PySem.W.fnOf "_law_condition" "_law_condition" (defArgs s__law_condition) (defBody s__law_condition) (defScope s__law_condition) .none kV12 dc12 pm12 an12 cd12 ct12,
    F__law_condition := fun_mk (st := s__law_condition) l12 c12 k12,
    b__law_condition := (fun_mk (st := s__law_condition) l12 c12 k12).binds (ps := ["_law_box", "_law_names"]) (fun _ _ _ _ _ _ us hl => match us, hl with | [_, _], _ => rfl),
    m__law_condition := PySem.W.mg_of X G a12,
    k__law_condition := k12,
    f__law_amount := f13,
    d__law_amount := PySem.W.fnOf "_law_amount" "_law_amount" (defArgs s__law_amount) (defBody s__law_amount) (defScope s__law_amount) .none kV13 dc13 pm13 an13 cd13 ct13,
    F__law_amount := fun_mk (st := s__law_amount) l13 c13 k13,
    b__law_amount := (fun_mk (st := s__law_amount) l13 c13 k13).binds (ps := ["_law_box"]) (fun _ _ _ _ _ _ us hl => match us, hl with | [_], _ => rfl),
    m__law_amount := PySem.W.mg_of X G a13,
    k__law_amount := k13,
    f__law_facts := f14,
    d__law_facts := PySem.W.fnOf "_law_facts" "_law_facts" (defArgs s__law_facts) (defBody s__law_facts) (defScope s__law_facts) .none kV14 dc14 pm14 an14 cd14 ct14,
    F__law_facts := fun_mk (st := s__law_facts) l14 c14 k14,
    b__law_facts := (fun_mk (st := s__law_facts) l14 c14 k14).binds (ps := ["_law_box"]) (fun _ _ _ _ _ _ us hl => match us, hl with | [_], _ => rfl),
    m__law_facts := PySem.W.mg_of X G a14,
    k__law_facts := k14,
    f__law_counters := f15,
    d__law_counters := PySem.W.fnOf "_law_counters" "_law_counters" (defArgs s__law_counters) (defBody s__law_counters) (defScope s__law_counters) .none kV15 dc15 pm15 an15 cd15 ct15,
    F__law_counters := fun_mk (st := s__law_counters) l15 c15 k15,
    b__law_counters := (fun_mk (st := s__law_counters) l15 c15 k15).binds (ps := ["_law_box", "_law_facts_here"]) (fun _ _ _ _ _ _ us hl => match us, hl with | [_, _], _ => rfl),
    m__law_counters := PySem.W.mg_of X G a15,
    k__law_counters := k15,
    f__law_scheme := f16,
    d__law_scheme := PySem.W.fnOf "_law_scheme" "_law_scheme" (defArgs s__law_scheme) (defBody s__law_scheme) (defScope s__law_scheme) .none kV16 dc16 pm16 an16 cd16 ct16,
    F__law_scheme := fun_mk (st := s__law_scheme) l16 c16 k16,
    b__law_scheme := (fun_mk (st := s__law_scheme) l16 c16 k16).binds (ps := ["_law_box", "_law_facts_here"]) (fun _ _ _ _ _ _ us hl => match us, hl with | [_, _], _ => rfl),
    m__law_scheme := PySem.W.mg_of X G a16,
    k__law_scheme := k16,
    f__law_holds := f17,
    d__law_holds := PySem.W.fnOf "_law_holds" "_law_holds" (defArgs s__law_holds) (defBody s__law_holds) (defScope s__law_holds) .none kV17 dc17 pm17 an17 cd17 ct17,
    F__law_holds := fun_mk (st := s__law_holds) l17 c17 k17,
    b__law_holds := (fun_mk (st := s__law_holds) l17 c17 k17).binds (ps := ["_law_condition_here", "_law_counts"]) (fun _ _ _ _ _ _ us hl => match us, hl with | [_, _], _ => rfl),
    m__law_holds := PySem.W.mg_of X G a17,
    k__law_holds := k17,
    f__law_zero := f18,
    d__law_zero := PySem.W.fnOf "_law_zero" "_law_zero" (defArgs s__law_zero) (defBody s__law_zero) (defScope s__law_zero) .none kV18 dc18 pm18 an18 cd18 ct18,
    F__law_zero := fun_mk (st := s__law_zero) l18 c18 k18,
    b__law_zero := (fun_mk (st := s__law_zero) l18 c18 k18).binds (ps := ["_law_scheme_here"]) (fun _ _ _ _ _ _ us hl => match us, hl with | [_], _ => rfl),
    m__law_zero := PySem.W.mg_of X G a18,
    k__law_zero := k18,
    f__law_year := f19,
    d__law_year := PySem.W.fnOf "_law_year" "_law_year" (defArgs s__law_year) (defBody s__law_year) (defScope s__law_year) .none kV19 dc19 pm19 an19 cd19 ct19,
    F__law_year := fun_mk (st := s__law_year) l19 c19 k19,
    b__law_year := (fun_mk (st := s__law_year) l19 c19 k19).binds (ps := ["_law_scheme_here", "_law_counts", "_law_fact"]) (fun _ _ _ _ _ _ us hl => match us, hl with | [_, _, _], _ => rfl),
    m__law_year := PySem.W.mg_of X G a19,
    k__law_year := k19,
    f__law_gain := f20,
    d__law_gain := PySem.W.fnOf "_law_gain" "_law_gain" (defArgs s__law_gain) (defBody s__law_gain) (defScope s__law_gain) .none kV20 dc20 pm20 an20 cd20 ct20,
    F__law_gain := fun_mk (st := s__law_gain) l20 c20 k20,
    b__law_gain := (fun_mk (st := s__law_gain) l20 c20 k20).binds (ps := ["_law_scheme_here", "_law_counts", "_law_fact"]) (fun _ _ _ _ _ _ us hl => match us, hl with | [_, _, _], _ => rfl),
    m__law_gain := PySem.W.mg_of X G a20,
    k__law_gain := k20,
    f__law_leave := f21,
    d__law_leave := PySem.W.fnOf "_law_leave" "_law_leave" (defArgs s__law_leave) (defBody s__law_leave) (defScope s__law_leave) .none kV21 dc21 pm21 an21 cd21 ct21,
    F__law_leave := fun_mk (st := s__law_leave) l21 c21 k21,
    b__law_leave := (fun_mk (st := s__law_leave) l21 c21 k21).binds (ps := ["_law_scheme_here", "_law_counts"]) (fun _ _ _ _ _ _ us hl => match us, hl with | [_, _], _ => rfl),
    m__law_leave := PySem.W.mg_of X G a21,
    k__law_leave := k21,
    f__law_career := f22,
    d__law_career := PySem.W.fnOf "_law_career" "_law_career" (defArgs s__law_career) (defBody s__law_career) (defScope s__law_career) .none kV22 dc22 pm22 an22 cd22 ct22,
    F__law_career := fun_mk (st := s__law_career) l22 c22 k22,
    b__law_career := (fun_mk (st := s__law_career) l22 c22 k22).binds (ps := ["_law_box", "_law_facts_here", "_law_most"]) (fun _ _ _ _ _ _ us hl => match us, hl with | [_, _, _], _ => rfl),
    m__law_career := PySem.W.mg_of X G a22,
    k__law_career := k22,
    f_law := fa,
    d_law := PySem.W.fnOf "law" "law" (defArgs s_law) (defBody s_law) (defScope s_law) .none kV23 dc23 pm23 an23 cd23 ct23,
    F_law := fun_mk (st := s_law) l23 c23 k23,
    b_law := (fun_mk (st := s_law) l23 c23 k23).binds (ps := ["_law_script"]) (fun _ _ _ _ _ _ us hl => match us, hl with | [_], _ => rfl),
    m_law := PySem.W.mg_of X G a23,
    k_law := k23,
    z_all := PySem.W.mg_none_of X G z_all,
    z_dict := PySem.W.mg_none_of X G z_dict,
    z_int := PySem.W.mg_none_of X G z_int,
    z_isinstance := PySem.W.mg_none_of X G z_isinstance,
    z_len := PySem.W.mg_none_of X G z_len,
    z_list := PySem.W.mg_none_of X G z_list,
    z_min := PySem.W.mg_none_of X G z_min,
    z_range := PySem.W.mg_none_of X G z_range,
    z_sum := PySem.W.mg_none_of X G z_sum,
    t_AT_LEAST := t_AT_LEAST, c_AT_LEAST := PySem.W.mg_of X G c_AT_LEAST,
    t_RESET := t_RESET, c_RESET := PySem.W.mg_of X G c_RESET }
  exact ⟨T.d_law, [(ca1, tP1)], fun p hp => (List.mem_cons.mp hp).elim (fun e => e ▸ tab_at X (PySem.W.mg_of X G a1) l1 rfl tl1 tv1 (hto _ tr1)) (fun hp => nomatch hp), fun p hp => (List.mem_cons.mp hp).elim (fun e => e ▸ tn1) (fun hp => nomatch hp), fun s v => .of_eq rfl, fun base _ _ hB => ok_law T ⟨hB (ca1, tP1) (by simp)⟩⟩
end DL
open PySem PySem.W PyProof.Rows in
set_option maxRecDepth 100000 in
set_option maxHeartbeats 0 in
theorem PySem.Challenge.cw_movedyears_k03_counters_go_on_holds : PySem.Challenge.rw_movedyears_k03_counters_go_on.Holds := by
  w_on; o_law; k_head; (case hw => w_witness2)
  k_fill
  refine DL.walkT (l := PySem.Challenge.rw_movedyears_k03_counters_go_on) (k := 5) (x := "_law_script") rfl rfl ⟨rfl, by decide, by decide⟩ (fun w h Y => PySem.W.kIn_of Y) ?F
  case F =>
    intro w mg fa h KX G hmg hto
    refine' DL.all_mk KX G hmg hto ?aC_Rules ?pg_Rules ?hd_Rules ?po_Rules ?sa_Rules ?mk_Rules ?kc_Rules ?na_Rules_counters ?na_Rules_facts ?na_Rules_gains ?na_Rules_leaves ?a0 ?l0 ?c0 ?k0 ?a1 ?l1 ?c1 ?k1 ?tl1 ?tv1 ?tn1 ?tr1 ?a2 ?i2 ?l2 ?c2 ?k2 ?a3 ?i3 ?l3 ?c3 ?k3 ?a4 ?l4 ?c4 ?k4 ?a5 ?l5 ?c5 ?k5 ?a6 ?l6 ?c6 ?k6 ?a7 ?l7 ?c7 ?k7 ?a8 ?l8 ?c8 ?k8 ?a9 ?l9 ?c9 ?k9 ?a10 ?l10 ?c10 ?k10 ?a11 ?l11 ?c11 ?k11 ?a12 ?l12 ?c12 ?k12 ?a13 ?l13 ?c13 ?k13 ?a14 ?l14 ?c14 ?k14 ?a15 ?l15 ?c15 ?k15 ?a16 ?l16 ?c16 ?k16 ?a17 ?l17 ?c17 ?k17 ?a18 ?l18 ?c18 ?k18 ?a19 ?l19 ?c19 ?k19 ?a20 ?l20 ?c20 ?k20 ?a21 ?l21 ?c21 ?k21 ?a22 ?l22 ?c22 ?k22 ?a23 ?l23 ?c23 ?k23 ?z_all ?z_dict ?z_int ?z_isinstance ?z_len ?z_list ?z_min ?z_range ?z_sum ?c_AT_LEAST ?c_RESET
    (case aC_Rules => k_is)
    (case pg_Rules => k_is)
    (case hd_Rules => k_is)
    (case po_Rules => k_is)
    (case sa_Rules => k_is)
    (case mk_Rules => k_is)
    (case kc_Rules => k_is)
    (case na_Rules_counters => k_is)
    (case na_Rules_facts => k_is)
    (case na_Rules_gains => k_is)
    (case na_Rules_leaves => k_is)
    (case a0 => k_is)
    (case l0 => k_is)
    (case c0 => k_is)
    (case k0 => k_is)
    (case a1 => k_is)
    (case l1 => k_is)
    (case c1 => k_is)
    (case k1 => k_is)
    (case tl1 => k_is)
    (case tv1 => first | rfl | decide +kernel)
    (case tn1 => first | kernel_rfl! | with_unfolding_all rfl)
    (case tr1 => decide +kernel)
    (case a2 => k_is)
    (case i2 => k_is)
    (case l2 => k_is)
    (case c2 => k_is)
    (case k2 => k_is)
    (case a3 => k_is)
    (case i3 => k_is)
    (case l3 => k_is)
    (case c3 => k_is)
    (case k3 => k_is)
    (case a4 => k_is)
    (case l4 => k_is)
    (case c4 => k_is)
    (case k4 => k_is)
    (case a5 => k_is)
    (case l5 => k_is)
    (case c5 => k_is)
    (case k5 => k_is)
    (case a6 => k_is)
    (case l6 => k_is)
    (case c6 => k_is)
    (case k6 => k_is)
    (case a7 => k_is)
    (case l7 => k_is)
    (case c7 => k_is)
    (case k7 => k_is)
    (case a8 => k_is)
    (case l8 => k_is)
    (case c8 => k_is)
    (case k8 => k_is)
    (case a9 => k_is)
    (case l9 => k_is)
    (case c9 => k_is)
    (case k9 => k_is)
    (case a10 => k_is)
    (case l10 => k_is)
    (case c10 => k_is)
    (case k10 => k_is)
    (case a11 => k_is)
    (case l11 => k_is)
    (case c11 => k_is)
    (case k11 => k_is)
    (case a12 => k_is)
    (case l12 => k_is)
    (case c12 => k_is)
    (case k12 => k_is)
    (case a13 => k_is)
    (case l13 => k_is)
    (case c13 => k_is)
    (case k13 => k_is)
    (case a14 => k_is)
    (case l14 => k_is)
    (case c14 => k_is)
    (case k14 => k_is)
    (case a15 => k_is)
    (case l15 => k_is)
    (case c15 => k_is)
    (case k15 => k_is)
    (case a16 => k_is)
    (case l16 => k_is)
    (case c16 => k_is)
    (case k16 => k_is)
    (case a17 => k_is)
    (case l17 => k_is)
    (case c17 => k_is)
    (case k17 => k_is)
    (case a18 => k_is)
    (case l18 => k_is)
    (case c18 => k_is)
    (case k18 => k_is)
    (case a19 => k_is)
    (case l19 => k_is)
    (case c19 => k_is)
    (case k19 => k_is)
    (case a20 => k_is)
    (case l20 => k_is)
    (case c20 => k_is)
    (case k20 => k_is)
    (case a21 => k_is)
    (case l21 => k_is)
    (case c21 => k_is)
    (case k21 => k_is)
    (case a22 => k_is)
    (case l22 => k_is)
    (case c22 => k_is)
    (case k22 => k_is)
    (case a23 => k_is)
    (case l23 => k_is)
    (case c23 => k_is)
    (case k23 => k_is)
    (case z_all => k_is)
    (case z_dict => k_is)
    (case z_int => k_is)
    (case z_isinstance => k_is)
    (case z_len => k_is)
    (case z_list => k_is)
    (case z_min => k_is)
    (case z_range => k_is)
    (case z_sum => k_is)
    (case c_AT_LEAST => k_is)
    (case c_RESET => k_is)
