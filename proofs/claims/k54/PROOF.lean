import PyProof.Rows.All
import Wide.All
import OpenK.AllK
import Wide.FinOn
import HandS.ForMost
import HandS.Deep
import HandS.DictComp
import HandS.Conv
import HandS.Flow
import HandS.Style
import HandS.Codes
import HandS.Steps
import HandS.StrMore
import HandS.Replace
import HandS.RaiseMore
import HandS.SortInts
import PyProof.Rows.ReprShort
import HandS.More
import HandS.IsInst
import HandS.TryOnly
import HandS.DeepEq
import HandS.Gcd
import HandS.WordsExc
import HandS.ExcOwn
import HandS.ExcIs
import HandS.Iter
import KE.KDictDisplayH
import KE.KDictPairs
import HandS.SortRule
import HandS.List
import HandS.TupSets
import PyProof.ReprRoads
import HandS.ExcInit
import HandS.ExcField
import HandS.FStr
import HandS.ExcSuper
import KE.KExcSuper
import HandS.HotCalls
import KE.KExcIs
import KE.KLam
import HandS.GenList
import HandS.AnyAll
import KE.KDictList
import HandS.Defaults
import PyProof.NeKinds
import KE.KDictSum
import KE.KDictCopyH
import KE.KDictWalk
import HandS.TupLen
import KE.KEqNest
import HandS.Strs
import HandS.SuiteRaise
import HandS.ReplaceLit
import PySem.Challenge.RW_movedyears_k54_accounts
set_option Elab.async false
set_option linter.all false
set_option maxRecDepth 100000
set_option maxHeartbeats 4000000
namespace DL
open PySem L2
inductive D where
  | non | bl (b : Bool) | int (i : Int) | str (s : Str) | emt | fn (n : Str) | ad (a : Addr)
  | lst (xs : List D) | tup (xs : List D) | scr (xs : List D)
  | dk (ks : List Key) (xs : List D) | dt (ks : List (List Key)) (xs : List D)
  | ins (c : Str) (fs : List Str) (xs : List D)
  deriving Inhabited
/-- what the module's text has written -/
structure Cy where
  K : PySem.W.Frag
  mg : Str → Option Value
mutual
/-- the value v stands for the data d in the heap F -/
def Dr (c : Cy) (F : Hp) (v : V) : D → Prop
  | .non => v = .non
  | .bl b => v = .bl b
  | .int i => v = .int i
  | .str s => v = .str s
  | .emt => ∃ a, v = .ref a ∧ SqT c.K F a []
  | .fn n => ∃ a, c.mg n = some (.ref a) ∧ v = .ref a
  | .ad u => v = .ref u
  | .lst ds => ∃ a vs, v = .ref a ∧ F a = some (.lst vs) ∧ DrL c F vs ds
  | .tup ds => ∃ a vs, v = .ref a ∧ F a = some (.tup vs) ∧ DrL c F vs ds
  | .scr ds => ∃ a vs, v = .ref a ∧ SqL c.K F a vs ∧ DrL c F vs ds
  | .dk ks ds => ∃ a ps, v = .ref a ∧ Rd F a (.dK ps) ∧ ps.map (·.1) = ks ∧ DrL c F (ps.map (·.2)) ds
  | .dt ks ds => ∃ a ps, v = .ref a ∧ Rd F a (.dT ps) ∧ ps.map (·.1) = ks ∧ DrL c F (ps.map (·.2)) ds
  | .ins n fs ds => ∃ a C dx ps, v = .ref a ∧ F a = some (.ins C dx ps) ∧ c.mg n = some (.ref C) ∧ ps.map (·.1) = fs ∧ DrL c F (ps.map (·.2)) ds
def DrL (c : Cy) (F : Hp) (vs : List V) : List D → Prop
  | [] => vs = []
  | d :: ds => ∃ v vr, vs = v :: vr ∧ Dr c F v d ∧ DrL c F vr ds
end
/-- an object that no lock changes -/
def Pl : HO → Prop
  | .lst _ => True
  | .tup _ => True
  | .ins _ _ _ => True
  | .own _ => True
  | _ => False
/-- not a lock -/
def NF : HO → Prop
  | .frz _ _ => False
  | _ => True
/-- readable things stay readable -/
structure LeD (F G : Hp) : Prop where
  pl : ∀ a o, F a = some o → Pl o → G a = some o
  rd : ∀ a u, NF u → Rd F a u → Rd G a u
theorem LeD.refl (F : Hp) : LeD F F := ⟨fun _ _ h _ => h, fun _ _ _ h => h⟩
theorem LeD.trans {F G J : Hp} (a : LeD F G) (b : LeD G J) : LeD F J := ⟨fun x o h p => b.pl x o (a.pl x o h p) p, fun x u n h => b.rd x u n (a.rd x u n h)⟩
theorem same_rd {F G : Hp} (s : Same F G) {a : Addr} {u : HO} (h : Rd F a u) : Rd G a u := by
  rcases h with h | ⟨o, h⟩
  · exact .inl (s _ _ h)
  · exact .inr ⟨o, s _ _ h⟩
theorem LeD.seq {F G : Hp} (s : LeD F G) {K : PySem.W.Frag} {a : Addr} {xs : List V} (h : SqL K F a xs) : SqL K G a xs := by
  rcases h with h | h
  · exact .inl (s.rd _ _ trivial h)
  · exact .inr h
theorem LeD.seqT {F G : Hp} (s : LeD F G) {K : PySem.W.Frag} {a : Addr} {xs : List V} (h : SqT K F a xs) : SqT K G a xs := by
  rcases h with h | h
  · exact .inl (s.rd _ _ trivial h)
  · exact .inr h
theorem LeD.of {F G : Hp} (s : Same F G) : LeD F G := ⟨fun a o h _ => s a o h, fun a u _ h => same_rd s h⟩
mutual
theorem Dr.leD {c : Cy} {F G : Hp} (s : LeD F G) : ∀ (d : D) {v : V}, Dr c F v d → Dr c G v d
  | .non, v, h => by simpa only [Dr] using h
  | .bl b, v, h => by simpa only [Dr] using h
  | .int i, v, h => by simpa only [Dr] using h
  | .str x, v, h => by simpa only [Dr] using h
  | .fn n, v, h => by simpa only [Dr] using h
  | .ad u, v, h => by simpa only [Dr] using h
  | .emt, v, h => by
    simp only [Dr] at h ⊢
    obtain ⟨a, e, q⟩ := h
    exact ⟨a, e, s.seqT q⟩
  | .lst ds, v, h => by
    simp only [Dr] at h ⊢
    obtain ⟨a, vs, e, q, r⟩ := h
    exact ⟨a, vs, e, s.pl _ _ q trivial, DrL.leD s ds r⟩
  | .tup ds, v, h => by
    simp only [Dr] at h ⊢
    obtain ⟨a, vs, e, q, r⟩ := h
    exact ⟨a, vs, e, s.pl _ _ q trivial, DrL.leD s ds r⟩
  | .scr ds, v, h => by
    simp only [Dr] at h ⊢
    obtain ⟨a, vs, e, q, r⟩ := h
    exact ⟨a, vs, e, s.seq q, DrL.leD s ds r⟩
  | .dk ks ds, v, h => by
    simp only [Dr] at h ⊢
    obtain ⟨a, vs, e, q, k, r⟩ := h
    exact ⟨a, vs, e, s.rd _ _ trivial q, k, DrL.leD s ds r⟩
  | .dt ks ds, v, h => by
    simp only [Dr] at h ⊢
    obtain ⟨a, vs, e, q, k, r⟩ := h
    exact ⟨a, vs, e, s.rd _ _ trivial q, k, DrL.leD s ds r⟩
  | .ins n fs ds, v, h => by
    simp only [Dr] at h ⊢
    obtain ⟨a, C, dx, ps, e, q, m, k, r⟩ := h
    exact ⟨a, C, dx, ps, e, s.pl _ _ q trivial, m, k, DrL.leD s ds r⟩
theorem DrL.leD {c : Cy} {F G : Hp} (s : LeD F G) : ∀ (ds : List D) {vs : List V}, DrL c F vs ds → DrL c G vs ds
  | [], vs, h => by simpa only [DrL] using h
  | d :: ds, vs, h => by
    simp only [DrL] at h ⊢
    obtain ⟨v, vr, e, q, r⟩ := h
    exact ⟨v, vr, e, Dr.leD s d q, DrL.leD s ds r⟩
end
theorem Dr.up {c : Cy} {F G : Hp} {d : D} {v : V} (s : Same F G) (h : Dr c F v d) : Dr c G v d := Dr.leD (.of s) d h
theorem DrL.up {c : Cy} {F G : Hp} {ds : List D} {vs : List V} (s : Same F G) (h : DrL c F vs ds) : DrL c G vs ds := DrL.leD (.of s) ds h
theorem DrL.nil {c : Cy} {F : Hp} : DrL c F [] [] := by simp only [DrL]
theorem DrL.cons {c : Cy} {F : Hp} {v : V} {vs : List V} {d : D} {ds : List D} (h : Dr c F v d) (r : DrL c F vs ds) : DrL c F (v :: vs) (d :: ds) := by
  simp only [DrL]
  exact ⟨v, vs, rfl, h, r⟩
theorem DrL.nil_iff {c : Cy} {F : Hp} {vs : List V} (h : DrL c F vs []) : vs = [] := by simpa only [DrL] using h
theorem DrL.cons_iff {c : Cy} {F : Hp} {vs : List V} {d : D} {ds : List D} (h : DrL c F vs (d :: ds)) : ∃ v vr, vs = v :: vr ∧ Dr c F v d ∧ DrL c F vr ds := by simpa only [DrL] using h
theorem DrL.length {c : Cy} {F : Hp} : ∀ {ds : List D} {vs : List V}, DrL c F vs ds → vs.length = ds.length
  | [], vs, h => by rw [h.nil_iff]; rfl
  | d :: ds, vs, h => by
    obtain ⟨v, vr, rfl, _, r⟩ := h.cons_iff
    rw [List.length_cons, List.length_cons, DrL.length r]
theorem DrL.append {c : Cy} {F : Hp} : ∀ {ds es : List D} {vs us : List V}, DrL c F vs ds → DrL c F us es → DrL c F (vs ++ us) (ds ++ es)
  | [], es, vs, us, h, r => by rw [h.nil_iff]; exact r
  | d :: ds, es, vs, us, h, r => by
    obtain ⟨v, vr, rfl, q, t⟩ := h.cons_iff
    exact .cons q (DrL.append t r)
theorem DrL.get {c : Cy} {F : Hp} : ∀ {ds : List D} {vs : List V} {i : Nat} {d : D}, DrL c F vs ds → ds[i]? = some d → ∃ v, vs[i]? = some v ∧ Dr c F v d
  | [], _, _, _, _, e => by simp at e
  | d :: ds, vs, 0, x, h, e => by
    obtain ⟨v, vr, rfl, q, t⟩ := h.cons_iff
    simp at e; subst e
    exact ⟨v, rfl, q⟩
  | d :: ds, vs, i + 1, x, h, e => by
    obtain ⟨v, vr, rfl, q, t⟩ := h.cons_iff
    obtain ⟨u, h1, h2⟩ := DrL.get (i := i) t (by simpa using e)
    exact ⟨u, by simpa using h1, h2⟩
theorem DrL.set {c : Cy} {F : Hp} : ∀ {ds : List D} {vs : List V} {i : Nat} {d : D} {v : V}, DrL c F vs ds → Dr c F v d → DrL c F (vs.set i v) (ds.set i d)
  | [], vs, i, d, v, h, _ => by rw [h.nil_iff]; exact .nil
  | e :: ds, vs, 0, d, v, h, q => by
    obtain ⟨u, vr, rfl, _, t⟩ := h.cons_iff
    exact .cons q t
  | e :: ds, vs, i + 1, d, v, h, q => by
    obtain ⟨u, vr, rfl, r, t⟩ := h.cons_iff
    exact .cons r (DrL.set t q)
theorem DrL.take {c : Cy} {F : Hp} : ∀ {ds : List D} {vs : List V} (n : Nat), DrL c F vs ds → DrL c F (vs.take n) (ds.take n)
  | _, _, 0, _ => .nil
  | [], vs, n + 1, h => by rw [h.nil_iff]; exact .nil
  | e :: ds, vs, n + 1, h => by
    obtain ⟨u, vr, rfl, r, t⟩ := h.cons_iff
    exact .cons r (DrL.take n t)
theorem DrL.drop {c : Cy} {F : Hp} : ∀ {ds : List D} {vs : List V} (n : Nat), DrL c F vs ds → DrL c F (vs.drop n) (ds.drop n)
  | _, _, 0, h => h
  | [], vs, n + 1, h => by rw [h.nil_iff]; exact .nil
  | e :: ds, vs, n + 1, h => by
    obtain ⟨u, vr, rfl, r, t⟩ := h.cons_iff
    exact DrL.drop n t
theorem DrL.ints {c : Cy} {F : Hp} : ∀ {ns : List Int} {vs : List V}, DrL c F vs (ns.map D.int) → vs = ns.map V.int
  | [], vs, h => h.nil_iff
  | n :: ns, vs, h => by
    obtain ⟨u, vr, rfl, r, t⟩ := h.cons_iff
    simp only [Dr] at r
    rw [r, DrL.ints t]; rfl
theorem DrL.of_ints {c : Cy} {F : Hp} : ∀ (ns : List Int), DrL c F (ns.map V.int) (ns.map D.int)
  | [] => .nil
  | n :: ns => .cons (by simp only [Dr]) (DrL.of_ints ns)
def HH (F M : Hp) : Hp := fun a => match M a with
  | some o => some o
  | none => F a
def Dj (F M : Hp) : Prop := ∀ a o, M a = some o → F a = none
theorem hh_m {F M : Hp} {a : Addr} {o : HO} (h : M a = some o) : HH F M a = some o := by unfold HH; rw [h]
theorem hh_n {F M : Hp} {a : Addr} (h : M a = none) : HH F M a = F a := by unfold HH; rw [h]
theorem Dj.mn {F M : Hp} (d : Dj F M) {a : Addr} {o : HO} (h : F a = some o) : M a = none := by
  cases q : M a with
  | none => rfl
  | some u => rw [d a u q] at h; cases h
theorem Dj.f {F M : Hp} (d : Dj F M) {a : Addr} {o : HO} (h : F a = some o) : HH F M a = some o := by rw [hh_n (d.mn h)]; exact h
theorem Dj.same {F M : Hp} (d : Dj F M) : Same F (HH F M) := fun _ _ h => d.f h
theorem hh_none {F M : Hp} {a : Addr} (h : HH F M a = none) : F a = none ∧ M a = none := by
  unfold HH at h
  cases q : M a with
  | none => rw [q] at h; exact ⟨h, rfl⟩
  | some o => rw [q] at h; cases h
theorem hh_some {F M : Hp} {a : Addr} {o : HO} (h : HH F M a = some o) : M a = some o ∨ (M a = none ∧ F a = some o) := by
  unfold HH at h
  cases q : M a with
  | none => rw [q] at h; exact .inr ⟨rfl, h⟩
  | some u => rw [q] at h; exact .inl h
/-- a new thing, frozen at once -/
theorem hh_updF {F M : Hp} {a : Addr} {o : HO} (h : M a = none) : upd (HH F M) a o = HH (upd F a o) M := by
  funext b
  by_cases e : b = a
  · subst e; rw [upd_same, hh_n h, upd_same]
  · rw [upd_ne e]
    unfold HH
    cases M b with
    | none => exact (upd_ne e).symm
    | some u => rfl
/-- a new thing that may change; a changed thing -/
theorem hh_updM {F M : Hp} {a : Addr} {o : HO} : upd (HH F M) a o = HH F (upd M a o) := by
  funext b
  by_cases e : b = a
  · subst e; rw [upd_same, hh_m upd_same]
  · rw [upd_ne e]
    unfold HH
    rw [upd_ne e]
theorem Dj.updF {F M : Hp} (d : Dj F M) {a : Addr} {o : HO} (h : M a = none) : Dj (upd F a o) M := fun b u q => by
  have e : b ≠ a := fun z => by rw [z, h] at q; cases q
  rw [upd_ne e]; exact d b u q
theorem Dj.updM {F M : Hp} (d : Dj F M) {a : Addr} {o : HO} (h : F a = none) : Dj F (upd M a o) := fun b u q => by
  by_cases e : b = a
  · rw [e]; exact h
  · rw [upd_ne e] at q; exact d b u q
theorem Same.updF {F : Hp} {a : Addr} {o : HO} (h : F a = none) : Same F (upd F a o) := fun b u q => by
  rw [upd_ne (ne_of_none q h)]; exact q
/-- a thing of the changing part is frozen -/
theorem hh_freeze {F M : Hp} {a : Addr} {o : HO} (h : M a = none) : HH F (upd M a o) = HH (upd F a o) M := by
  rw [← hh_updM, hh_updF h]
end DL
namespace DL
open PySem L2
/-- what stands in a slot: nothing that is known; shared data; an own list, dict, instance (its items are shared); the box of digits -/
inductive OT where
  | sh (d : D) | lst (ts : List OT) | dk (ks : List Key) (ts : List OT) | dt (ks : List (List Key)) (ts : List OT) | ins (n : Str) (fs : List Str) (ts : List OT)
  deriving Inhabited
def emp : Hp := fun _ => none
mutual
/-- the value v stands for the tree t; its own objects are Mo -/
def OTR (c : Cy) (F : Hp) : OT → V → Hp → Prop
  | .sh d, v, Mo => Dr c F v d ∧ Mo = emp
  | .lst ts, v, Mo => ∃ a vs M1, v = .ref a ∧ OTRL c F ts vs M1 ∧ F a = none ∧ M1 a = none ∧ Mo = upd M1 a (.lst vs)
  | .dk ks ts, v, Mo => ∃ a ps M1, v = .ref a ∧ ps.map (·.1) = ks ∧ OTRL c F ts (ps.map (·.2)) M1 ∧ F a = none ∧ M1 a = none ∧ Mo = upd M1 a (.dK ps)
  | .dt ks ts, v, Mo => ∃ a ps M1, v = .ref a ∧ ps.map (·.1) = ks ∧ OTRL c F ts (ps.map (·.2)) M1 ∧ F a = none ∧ M1 a = none ∧ Mo = upd M1 a (.dT ps)
  | .ins n fs ts, v, Mo => ∃ a C dx ps M1, v = .ref a ∧ c.mg n = some (.ref C) ∧ ps.map (·.1) = fs ∧ OTRL c F ts (ps.map (·.2)) M1 ∧ F a = none ∧ M1 a = none ∧ Mo = upd M1 a (.ins C dx ps)
def OTRL (c : Cy) (F : Hp) : List OT → List V → Hp → Prop
  | [], vs, M => vs = [] ∧ M = emp
  | t :: ts, vs, M => ∃ v vr M1 M2, vs = v :: vr ∧ OTR c F t v M1 ∧ OTRL c F ts vr M2 ∧ Dj M2 M1 ∧ M = HH M2 M1
end
mutual
/-- a tree as data -/
def otD : OT → D
  | .sh d => d
  | .lst ts => .lst (otDL ts)
  | .dk ks ts => .dk ks (otDL ts)
  | .dt ks ts => .dt ks (otDL ts)
  | .ins n fs ts => .ins n fs (otDL ts)
def otDL : List OT → List D
  | [] => []
  | t :: ts => otD t :: otDL ts
end
theorem hh_emp (M : Hp) : HH M emp = M := funext fun a => hh_n rfl
theorem emp_hh (M : Hp) : HH emp M = M := funext fun a => by
  cases h : M a with
  | none => rw [hh_n h]; rfl
  | some o => rw [hh_m h]
theorem hh_assoc {A B C : Hp} : HH A (HH B C) = HH (HH A B) C := funext fun a => by
  cases h : C a with
  | some o => rw [hh_m (show HH B C a = some o from hh_m h), hh_m h]
  | none =>
    rw [hh_n h]
    cases h2 : B a with
    | some o => rw [hh_m (show HH B C a = some o by rw [hh_n h]; exact h2), hh_m h2]
    | none => rw [hh_n (show HH B C a = none by rw [hh_n h]; exact h2), hh_n h2]
theorem hh_comm {A B : Hp} (d : Dj A B) : HH A B = HH B A := funext fun a => by
  cases h : B a with
  | some o => rw [hh_m h, hh_n (d a o h)]; exact h.symm
  | none =>
    rw [hh_n h]
    cases h2 : A a with
    | some o => rw [hh_m h2]
    | none => rw [hh_n h2]; exact h.symm
/-- no tuples lie there -/
def NT (M : Hp) : Prop := ∀ a xs, M a ≠ some (.tup xs)
theorem NT.upd {M : Hp} {x : Addr} {u : HO} (h : NT M) (hu : ∀ xs, u ≠ .tup xs) : NT (upd M x u) := fun a xs e => by
  by_cases z : a = x
  · rw [z, upd_same] at e
    exact hu xs (Option.some.inj e)
  · rw [upd_ne z] at e
    exact h a xs e
theorem NT.hh {M N : Hp} (h : NT M) (h' : NT N) : NT (HH M N) := fun a xs e => by
  unfold HH at e
  cases z : N a with
  | some o => rw [z] at e; exact h' a xs (by rw [z]; exact e)
  | none => rw [z] at e; exact h a xs e
theorem NT.emp : NT emp := fun a xs e => nomatch e
mutual
theorem OTR.nt {c : Cy} {F : Hp} : ∀ (t : OT) {v : V} {Mo : Hp}, OTR c F t v Mo → NT Mo
  | .sh d, v, Mo, h => by
    simp only [OTR] at h
    rw [h.2]; exact NT.emp
  | .lst ts, v, Mo, h => by
    simp only [OTR] at h
    obtain ⟨a, vs, M1, _, r, _, _, rfl⟩ := h
    exact (OTRL.nt ts r).upd fun xs z => nomatch z
  | .dk ks ts, v, Mo, h => by
    simp only [OTR] at h
    obtain ⟨a, vs, M1, _, _, r, _, _, rfl⟩ := h
    exact (OTRL.nt ts r).upd fun xs z => nomatch z
  | .dt ks ts, v, Mo, h => by
    simp only [OTR] at h
    obtain ⟨a, vs, M1, _, _, r, _, _, rfl⟩ := h
    exact (OTRL.nt ts r).upd fun xs z => nomatch z
  | .ins n fs ts, v, Mo, h => by
    simp only [OTR] at h
    obtain ⟨a, C, dx, ps, M1, _, _, _, r, _, _, rfl⟩ := h
    exact (OTRL.nt ts r).upd fun xs z => nomatch z
theorem OTRL.nt {c : Cy} {F : Hp} : ∀ (ts : List OT) {vs : List V} {Mo : Hp}, OTRL c F ts vs Mo → NT Mo
  | [], vs, Mo, h => by
    simp only [OTRL] at h
    rw [h.2]; exact NT.emp
  | t :: ts, vs, Mo, h => by
    simp only [OTRL] at h
    obtain ⟨v, vr, M1, M2, _, r1, r2, _, rfl⟩ := h
    exact (OTRL.nt ts r2).hh (OTR.nt t r1)
end
theorem dj_sym {A B : Hp} (d : Dj A B) : Dj B A := fun a o q => d.mn q
/-- all three apart -/
theorem dj_hh {A B C : Hp} (d1 : Dj A C) (d2 : Dj B C) : Dj (HH A B) C := fun a o q => by rw [hh_n (d2 a o q)]; exact d1 a o q
theorem dj_l {A B C : Hp} (d : Dj (HH A B) C) : Dj A C := fun a o q => (hh_none (d a o q)).1
theorem dj_r {A B C : Hp} (d : Dj (HH A B) C) : Dj B C := fun a o q => (hh_none (d a o q)).2
theorem hh_swap {A B C : Hp} (d : Dj B C) : HH (HH A B) C = HH (HH A C) B := by rw [← hh_assoc, hh_comm d, hh_assoc]
mutual
theorem OTR.leD {c : Cy} {F G : Hp} (s : LeD F G) : ∀ (t : OT) {v : V} {Mo : Hp}, (∀ a o, Mo a = some o → F a = none → G a = none) → OTR c F t v Mo → OTR c G t v Mo
  | .sh d, v, Mo, n, h => by simp only [OTR] at h ⊢; exact ⟨h.1.leD s, h.2⟩
  | .lst ts, v, Mo, n, h => by
    simp only [OTR] at h ⊢
    obtain ⟨a, vs, M1, e, r, f, m, rfl⟩ := h
    exact ⟨a, vs, M1, e, OTRL.leD s ts (fun x o q => n x o (by rw [upd_ne (ne_of_none q m)]; exact q)) r, n a _ upd_same f, m, rfl⟩
  | .dk ks ts, v, Mo, n, h => by
    simp only [OTR] at h ⊢
    obtain ⟨a, vs, M1, e, k, r, f, m, rfl⟩ := h
    exact ⟨a, vs, M1, e, k, OTRL.leD s ts (fun x o q => n x o (by rw [upd_ne (ne_of_none q m)]; exact q)) r, n a _ upd_same f, m, rfl⟩
  | .dt ks ts, v, Mo, n, h => by
    simp only [OTR] at h ⊢
    obtain ⟨a, vs, M1, e, k, r, f, m, rfl⟩ := h
    exact ⟨a, vs, M1, e, k, OTRL.leD s ts (fun x o q => n x o (by rw [upd_ne (ne_of_none q m)]; exact q)) r, n a _ upd_same f, m, rfl⟩
  | .ins nm fs ts, v, Mo, n, h => by
    simp only [OTR] at h ⊢
    obtain ⟨a, C, dx, vs, M1, e, g, k, r, f, m, rfl⟩ := h
    exact ⟨a, C, dx, vs, M1, e, g, k, OTRL.leD s ts (fun x o q => n x o (by rw [upd_ne (ne_of_none q m)]; exact q)) r, n a _ upd_same f, m, rfl⟩
theorem OTRL.leD {c : Cy} {F G : Hp} (s : LeD F G) : ∀ (ts : List OT) {vs : List V} {M : Hp}, (∀ a o, M a = some o → F a = none → G a = none) → OTRL c F ts vs M → OTRL c G ts vs M
  | [], vs, M, n, h => by simpa only [OTRL] using h
  | t :: ts, vs, M, n, h => by
    simp only [OTRL] at h ⊢
    obtain ⟨v, vr, M1, M2, e, r1, r2, d, rfl⟩ := h
    exact ⟨v, vr, M1, M2, e, OTR.leD s t (fun x o q => n x o (hh_m q)) r1, OTRL.leD s ts (fun x o q => n x o (d.f q)) r2, d, rfl⟩
end
mutual
theorem OTR.dj {c : Cy} {F : Hp} : ∀ (t : OT) {v : V} {Mo : Hp}, OTR c F t v Mo → Dj F Mo
  | .sh d, v, Mo, h => by simp only [OTR] at h; rw [h.2]; exact fun a o q => nomatch q
  | .lst ts, v, Mo, h => by
    simp only [OTR] at h
    obtain ⟨a, vs, M1, e, r, f, m, rfl⟩ := h
    exact (OTRL.dj ts r).updM f
  | .dk ks ts, v, Mo, h => by
    simp only [OTR] at h
    obtain ⟨a, vs, M1, e, k, r, f, m, rfl⟩ := h
    exact (OTRL.dj ts r).updM f
  | .dt ks ts, v, Mo, h => by
    simp only [OTR] at h
    obtain ⟨a, vs, M1, e, k, r, f, m, rfl⟩ := h
    exact (OTRL.dj ts r).updM f
  | .ins nm fs ts, v, Mo, h => by
    simp only [OTR] at h
    obtain ⟨a, C, dx, vs, M1, e, g, k, r, f, m, rfl⟩ := h
    exact (OTRL.dj ts r).updM f
theorem OTRL.dj {c : Cy} {F : Hp} : ∀ (ts : List OT) {vs : List V} {M : Hp}, OTRL c F ts vs M → Dj F M
  | [], vs, M, h => by simp only [OTRL] at h; rw [h.2]; exact fun a o q => nomatch q
  | t :: ts, vs, M, h => by
    simp only [OTRL] at h
    obtain ⟨v, vr, M1, M2, e, r1, r2, d, rfl⟩ := h
    intro a o q
    rcases hh_some q with z | ⟨_, z⟩
    · exact OTR.dj t r1 a o z
    · exact OTRL.dj ts r2 a o z
end
mutual
/-- a tree is frozen -/
theorem OTR.frz {c : Cy} {F G : Hp} (s : Same F G) : ∀ (t : OT) {v : V} {Mo : Hp}, Same Mo G → OTR c F t v Mo → Dr c G v (otD t)
  | .sh d, v, Mo, g, h => by simp only [OTR] at h; simp only [otD]; exact h.1.up s
  | .lst ts, v, Mo, g, h => by
    simp only [OTR] at h
    obtain ⟨a, vs, M1, e, r, f, m, rfl⟩ := h
    simp only [otD, Dr]
    exact ⟨a, vs, e, g _ _ upd_same, OTRL.frz s ts (fun x o q => g x o (by rw [upd_ne (ne_of_none q m)]; exact q)) r⟩
  | .dk ks ts, v, Mo, g, h => by
    simp only [OTR] at h
    obtain ⟨a, vs, M1, e, k, r, f, m, rfl⟩ := h
    simp only [otD, Dr]
    exact ⟨a, vs, e, .inl (g _ _ upd_same), k, OTRL.frz s ts (fun x o q => g x o (by rw [upd_ne (ne_of_none q m)]; exact q)) r⟩
  | .dt ks ts, v, Mo, g, h => by
    simp only [OTR] at h
    obtain ⟨a, vs, M1, e, k, r, f, m, rfl⟩ := h
    simp only [otD, Dr]
    exact ⟨a, vs, e, .inl (g _ _ upd_same), k, OTRL.frz s ts (fun x o q => g x o (by rw [upd_ne (ne_of_none q m)]; exact q)) r⟩
  | .ins nm fs ts, v, Mo, g, h => by
    simp only [OTR] at h
    obtain ⟨a, C, dx, vs, M1, e, g1, k, r, f, m, rfl⟩ := h
    simp only [otD, Dr]
    exact ⟨a, C, dx, vs, e, g _ _ upd_same, g1, k, OTRL.frz s ts (fun x o q => g x o (by rw [upd_ne (ne_of_none q m)]; exact q)) r⟩
theorem OTRL.frz {c : Cy} {F G : Hp} (s : Same F G) : ∀ (ts : List OT) {vs : List V} {M : Hp}, Same M G → OTRL c F ts vs M → DrL c G vs (otDL ts)
  | [], vs, M, g, h => by simp only [OTRL] at h; simp only [otDL]; rw [h.1]; exact .nil
  | t :: ts, vs, M, g, h => by
    simp only [OTRL] at h
    obtain ⟨v, vr, M1, M2, rfl, r1, r2, d, rfl⟩ := h
    simp only [otDL]
    exact .cons (OTR.frz s t (fun x o q => g x o (hh_m q)) r1) (OTRL.frz s ts (fun x o q => g x o (d.f q)) r2)
end
/-- a shallow tree: its items are shared -/
def shT : D → OT
  | .lst ds => .lst (ds.map .sh)
  | .dk ks ds => .dk ks (ds.map .sh)
  | .dt ks ds => .dt ks (ds.map .sh)
  | .ins n fs ds => .ins n fs (ds.map .sh)
  | d => .sh d
theorem otDL_shT : ∀ ds : List D, otDL (ds.map .sh) = ds
  | [] => by simp only [List.map_nil, otDL]
  | d :: ds => by simp only [List.map_cons, otDL, otD, otDL_shT ds]
theorem otD_shT (d : D) : otD (shT d) = d := by
  cases d <;> simp only [shT, otD, otDL_shT]
inductive Sl where
  | no | sh (d : D) | ol (ds : List D) | ok (ks : List Key) (ds : List D) | ot (ks : List (List Key)) (ds : List D) | oi (n : Str) (fs : List Str) (ds : List D) | bx | od (x : V) (t : OT) | gh (a : Addr) (d : D)
  deriving Inhabited
/-- an own object: what it holds -/
def ObR (c : Cy) (F : Hp) : Sl → HO → Prop
  | .ol ds, o => ∃ vs, o = .lst vs ∧ DrL c F vs ds
  | .ok ks ds, o => ∃ ps, o = .dK ps ∧ ps.map (·.1) = ks ∧ DrL c F (ps.map (·.2)) ds
  | .ot ks ds, o => ∃ ps, o = .dT ps ∧ ps.map (·.1) = ks ∧ DrL c F (ps.map (·.2)) ds
  | .oi n fs ds, o => ∃ C dx ps, o = .ins C dx ps ∧ c.mg n = some (.ref C) ∧ ps.map (·.1) = fs ∧ DrL c F (ps.map (·.2)) ds
  | _, _ => False
theorem ObR.leD {c : Cy} {F G : Hp} (s : LeD F G) : ∀ {sl : Sl} {o : HO}, ObR c F sl o → ObR c G sl o
  | .ol ds, o, ⟨vs, e, h⟩ => ⟨vs, e, h.leD s⟩
  | .ok ks ds, o, ⟨ps, e, k, h⟩ => ⟨ps, e, k, h.leD s⟩
  | .ot ks ds, o, ⟨ps, e, k, h⟩ => ⟨ps, e, k, h.leD s⟩
  | .oi n fs ds, o, ⟨C, dx, ps, e, m, k, h⟩ => ⟨C, dx, ps, e, m, k, h.leD s⟩
  | .no, _, h => h.elim
  | .sh _, _, h => h.elim
  | .bx, _, h => h.elim
  | .od _ _, _, h => h.elim
  | .gh _ _, _, h => h.elim
/-- the data of an own object -/
def obD : Sl → D
  | .ol ds => .lst ds
  | .ok ks ds => .dk ks ds
  | .ot ks ds => .dt ks ds
  | .oi n fs ds => .ins n fs ds
  | .sh d => d
  | .od _ t => otD t
  | .gh _ t => t
  | _ => .non
theorem ObR.dr {c : Cy} {F : Hp} {a : Addr} : ∀ {sl : Sl} {o : HO}, ObR c F sl o → F a = some o → Dr c F (.ref a) (obD sl)
  | .ol ds, o, ⟨vs, e, h⟩, q => by subst e; simp only [obD, Dr]; exact ⟨a, vs, rfl, q, h⟩
  | .ok ks ds, o, ⟨ps, e, k, h⟩, q => by subst e; simp only [obD, Dr]; exact ⟨a, ps, rfl, .inl q, k, h⟩
  | .ot ks ds, o, ⟨ps, e, k, h⟩, q => by subst e; simp only [obD, Dr]; exact ⟨a, ps, rfl, .inl q, k, h⟩
  | .oi n fs ds, o, ⟨C, dx, ps, e, m, k, h⟩, q => by subst e; simp only [obD, Dr]; exact ⟨a, C, dx, ps, rfl, q, m, k, h⟩
  | .no, _, h, _ => h.elim
  | .sh _, _, h, _ => h.elim
  | .bx, _, h, _ => h.elim
  | .od _ _, _, h, _ => h.elim
  | .gh _ _, _, h, _ => h.elim
/-- the slots' values; M: the frame's changing part M0 and the own objects -/
def RelE (c : Cy) (b : Option Addr) (F M0 : Hp) : List Sl → St → Hp → Prop
  | [], σ, M => σ = [] ∧ M = M0 ∧ NT M0
  | s :: ρ, σ, M => ∃ v σr, σ = v :: σr ∧ match s with
    | .no => RelE c b F M0 ρ σr M
    | .sh d => (∃ x, v = some x ∧ Dr c F x d) ∧ RelE c b F M0 ρ σr M
    | .bx => (∃ a, b = some a ∧ v = some (.ref a)) ∧ RelE c b F M0 ρ σr M
    | .od x t => ∃ Mo M', v = some x ∧ OTR c F t x Mo ∧ Dj M' Mo ∧ M = HH M' Mo ∧ RelE c b F M0 ρ σr M'
    | .gh x t => ∃ Mo M', OTR c F (shT t) (.ref x) Mo ∧ Dj M' Mo ∧ M = HH M' Mo ∧ RelE c b F M0 ρ σr M'
    | sl => ∃ a o M', v = some (.ref a) ∧ ObR c F sl o ∧ F a = none ∧ M' a = none ∧ M = upd M' a o ∧ RelE c b F M0 ρ σr M'
/-- the box of digits at a -/
def Box (F M : Hp) (a : Addr) : Prop := ∃ (da : Addr) (ns : List Int) (n : Int), M a = some (.lst [.ref da, .int n]) ∧ F da = some (.lst (ns.map V.int)) ∧ 0 ≤ n
/-- the frame's changing part but for the box -/
def MR (b : Option Addr) (M M' : Hp) : Prop := ∀ a, b ≠ some a → M' a = M a
theorem MR.refl (b : Option Addr) (M : Hp) : MR b M M := fun _ _ => rfl
theorem MR.trans {b : Option Addr} {M M1 M2 : Hp} (h : MR b M M1) (h' : MR b M1 M2) : MR b M M2 := fun a e => (h' a e).trans (h a e)
/-- what is known of the heap since the def began -/
class Lk where
  lk : Option Addr → Hp → Hp → Prop
  mono : ∀ {b : Option Addr} {F F' M M' : Hp}, lk b F M → Same F F' → MR b M M' → lk b F' M'
  lay : ∀ {b : Option Addr} {F M : Hp} {p : Addr} {o : HO}, lk b F M → M p = none → lk b F (upd M p o)
abbrev Lk.top : Lk := ⟨fun _ _ _ => True, fun _ _ _ => trivial, fun _ _ => trivial⟩
/-- .. also while a dict is locked -/
class LkS extends Lk where
  swap : ∀ {b : Option Addr} {F M : Hp} {a : Addr} {u u' : HO}, lk b F M → F a = some u → lk b (upd F a u') M
instance LkS.top : LkS := { Lk.top with swap := fun _ _ => trivial }
variable [Lk]
structure Rel (c : Cy) (b : Option Addr) (ρ : List Sl) (σ : St) (F M M0 : Hp) : Prop where
  dj : Dj F M
  env : RelE c b F M0 ρ σ M
  box : ∀ a, b = some a → Box F M0 a
  lk : Lk.lk b F M0
structure Rel0 (c : Cy) (b : Option Addr) (ρ : List Sl) (σ : St) (F M M0 : Hp) : Prop where
  dj : Dj F M
  env : RelE c b F M0 ρ σ M
  box : ∀ a, b = some a → Box F M0 a
theorem Rel0.rel {c : Cy} {b : Option Addr} {ρ : List Sl} {σ : St} {F M M0 : Hp} (R : Rel0 c b ρ σ F M M0) (h : Lk.lk b F M0) : Rel c b ρ σ F M M0 := ⟨R.dj, R.env, R.box, h⟩
theorem Rel.lkM {c : Cy} {b : Option Addr} {ρ : List Sl} {σ : St} {F M M0 F' M0' : Hp} (R : Rel c b ρ σ F M M0) (s : Same F F') (m : MR b M0 M0') : Lk.lk b F' M0' := Lk.mono R.lk s m
theorem Rel.lkS {c : Cy} {b : Option Addr} {ρ : List Sl} {σ : St} {F M M0 F' : Hp} (R : Rel c b ρ σ F M M0) (s : Same F F') : Lk.lk b F' M0 := Lk.mono R.lk s (MR.refl _ _)
/-- all that is tracked stays, but for the box -/
def Ext (b : Option Addr) (H H' : Hp) : Prop := ∀ a o, b ≠ some a → H a = some o → H' a = some o
theorem Ext.refl (b : Option Addr) (H : Hp) : Ext b H H := fun _ _ _ h => h
theorem Ext.trans {b : Option Addr} {H H1 H2 : Hp} (h : Ext b H H1) (h' : Ext b H1 H2) : Ext b H H2 := fun a o e q => h' a o e (h a o e q)
section
variable {c : Cy} {b : Option Addr} {F G M M0 : Hp}
theorem Box.leD (s : LeD F G) {a : Addr} (h : Box F M a) : Box G M a := by
  obtain ⟨da, ns, n, h1, h2, h3⟩ := h
  exact ⟨da, ns, n, h1, s.pl _ _ h2 trivial, h3⟩
/-- the frozen part grows -/
theorem RelE.leD (s : LeD F G) (nw : ∀ a o, M0 a = some o → F a = none → G a = none) : ∀ {ρ : List Sl} {σ : St} {M : Hp}, (∀ a o, M a = some o → F a = none → G a = none) → RelE c b F M0 ρ σ M → RelE c b G M0 ρ σ M
  | [], σ, M, n, h => h
  | s1 :: ρ, σ, M, n, h => by
    obtain ⟨v, σr, e, h⟩ := h
    refine ⟨v, σr, e, ?_⟩
    have own : ∀ sl : Sl, (∃ a o M', v = some (.ref a) ∧ ObR c F sl o ∧ F a = none ∧ M' a = none ∧ M = upd M' a o ∧ RelE c b F M0 ρ σr M') →
        ∃ a o M', v = some (.ref a) ∧ ObR c G sl o ∧ G a = none ∧ M' a = none ∧ M = upd M' a o ∧ RelE c b G M0 ρ σr M' := fun sl h => by
      obtain ⟨a, o, M', e1, r, f, m, e2, t⟩ := h
      refine ⟨a, o, M', e1, r.leD s, n a o (by rw [e2]; exact upd_same) f, m, e2, RelE.leD s nw (fun x u q z => n x u ?_ z) t⟩
      rw [e2, upd_ne (ne_of_none q m)]
      exact q
    cases s1 with
    | no => exact RelE.leD s nw n h
    | sh d =>
      obtain ⟨⟨x, e1, q⟩, t⟩ := h
      exact ⟨⟨x, e1, q.leD s⟩, RelE.leD s nw n t⟩
    | bx =>
      obtain ⟨q, t⟩ := h
      exact ⟨q, RelE.leD s nw n t⟩
    | ol ds => exact own (.ol ds) h
    | ok ks ds => exact own (.ok ks ds) h
    | ot ks ds => exact own (.ot ks ds) h
    | oi n fs ds => exact own (.oi n fs ds) h
    | od x t0 =>
      obtain ⟨Mo, M', e1, r, dj, e2, t⟩ := h
      exact ⟨Mo, M', e1, OTR.leD s t0 (fun a o q => n a o (by rw [e2]; exact hh_m q)) r, dj, e2, RelE.leD s nw (fun y u q => n y u (by rw [e2]; exact dj.f q)) t⟩
    | gh x t0 =>
      obtain ⟨Mo, M', r, dj, e2, t⟩ := h
      exact ⟨Mo, M', OTR.leD s (shT t0) (fun a o q => n a o (by rw [e2]; exact hh_m q)) r, dj, e2, RelE.leD s nw (fun y u q => n y u (by rw [e2]; exact dj.f q)) t⟩
theorem RelE.length : ∀ {ρ : List Sl} {σ : St} {M : Hp}, RelE c b F M0 ρ σ M → σ.length = ρ.length
  | [], σ, M, h => by rw [h.1]; rfl
  | s1 :: ρ, σ, M, h => by
    obtain ⟨v, σr, e, h⟩ := h
    subst e
    rw [List.length_cons, List.length_cons]
    congr 1
    cases s1 with
    | no => exact RelE.length h
    | sh d => exact RelE.length h.2
    | bx => exact RelE.length h.2
    | ol ds => obtain ⟨_, _, _, _, _, _, _, _, t⟩ := h; exact RelE.length t
    | ok ks ds => obtain ⟨_, _, _, _, _, _, _, _, t⟩ := h; exact RelE.length t
    | ot ks ds => obtain ⟨_, _, _, _, _, _, _, _, t⟩ := h; exact RelE.length t
    | oi n fs ds => obtain ⟨_, _, _, _, _, _, _, _, t⟩ := h; exact RelE.length t
    | od x t0 => obtain ⟨_, _, _, _, _, _, t⟩ := h; exact RelE.length t
    | gh x t0 => obtain ⟨_, _, _, _, _, t⟩ := h; exact RelE.length t
/-- the frame's part lies in the whole -/
theorem RelE.sub : ∀ {ρ : List Sl} {σ : St} {M : Hp}, RelE c b F M0 ρ σ M → ∀ a o, M0 a = some o → M a = some o
  | [], σ, M, h, a, o, q => by rw [h.2.1]; exact q
  | s1 :: ρ, σ, M, h, a, o, q => by
    obtain ⟨v, σr, e, h⟩ := h
    have own : ∀ sl : Sl, (∃ a o M', v = some (.ref a) ∧ ObR c F sl o ∧ F a = none ∧ M' a = none ∧ M = upd M' a o ∧ RelE c b F M0 ρ σr M') → M a = some o := fun sl h => by
      obtain ⟨x, u, M', e1, r, f, m, e2, t⟩ := h
      have z := RelE.sub t a o q
      rw [e2, upd_ne (ne_of_none z m)]
      exact z
    cases s1 with
    | no => exact RelE.sub h a o q
    | sh d => exact RelE.sub h.2 a o q
    | bx => exact RelE.sub h.2 a o q
    | ol ds => exact own (.ol ds) h
    | ok ks ds => exact own (.ok ks ds) h
    | ot ks ds => exact own (.ot ks ds) h
    | oi n fs ds => exact own (.oi n fs ds) h
    | od x t0 =>
      obtain ⟨Mo, M', e1, r, dj, e2, t⟩ := h
      rw [e2]; exact dj.f (RelE.sub t a o q)
    | gh x t0 =>
      obtain ⟨Mo, M', r, dj, e2, t⟩ := h
      rw [e2]; exact dj.f (RelE.sub t a o q)
theorem RelE.nt0 : ∀ {ρ : List Sl} {σ : St} {M : Hp}, RelE c b F M0 ρ σ M → NT M0
  | [], σ, M, h => h.2.2
  | s1 :: ρ, σ, M, h => by
    obtain ⟨v, σr, e, h⟩ := h
    cases s1 with
    | no => exact RelE.nt0 h
    | sh d => exact RelE.nt0 h.2
    | bx => exact RelE.nt0 h.2
    | ol ds => obtain ⟨_, _, _, _, _, _, _, _, t⟩ := h; exact RelE.nt0 t
    | ok ks ds => obtain ⟨_, _, _, _, _, _, _, _, t⟩ := h; exact RelE.nt0 t
    | ot ks ds => obtain ⟨_, _, _, _, _, _, _, _, t⟩ := h; exact RelE.nt0 t
    | oi n fs ds => obtain ⟨_, _, _, _, _, _, _, _, t⟩ := h; exact RelE.nt0 t
    | od x t0 => obtain ⟨_, _, _, _, _, _, t⟩ := h; exact RelE.nt0 t
    | gh x t0 => obtain ⟨_, _, _, _, _, t⟩ := h; exact RelE.nt0 t
theorem ObR.ntup {sl : Sl} {o : HO} (h : ObR c F sl o) : ∀ xs, o ≠ .tup xs := fun xs z => by
  subst z
  cases sl with
  | ol ds => obtain ⟨_, e, _⟩ := h; cases e
  | ok ks ds => obtain ⟨_, e, _⟩ := h; cases e
  | ot ks ds => obtain ⟨_, e, _⟩ := h; cases e
  | oi n fs ds => obtain ⟨_, _, _, e, _⟩ := h; cases e
  | _ => exact h.elim
theorem RelE.nt : ∀ {ρ : List Sl} {σ : St} {M : Hp}, RelE c b F M0 ρ σ M → NT M
  | [], σ, M, h => by rw [h.2.1]; exact h.2.2
  | s1 :: ρ, σ, M, h => by
    obtain ⟨v, σr, e, h⟩ := h
    have own : ∀ sl : Sl, (∃ a o M', v = some (.ref a) ∧ ObR c F sl o ∧ F a = none ∧ M' a = none ∧ M = upd M' a o ∧ RelE c b F M0 ρ σr M') → NT M := fun sl h => by
      obtain ⟨x, u, M', e1, r, f, m, e2, t⟩ := h
      rw [e2]
      exact (RelE.nt t).upd r.ntup
    cases s1 with
    | no => exact RelE.nt h
    | sh d => exact RelE.nt h.2
    | bx => exact RelE.nt h.2
    | ol ds => exact own (.ol ds) h
    | ok ks ds => exact own (.ok ks ds) h
    | ot ks ds => exact own (.ot ks ds) h
    | oi n fs ds => exact own (.oi n fs ds) h
    | od x t0 =>
      obtain ⟨Mo, M', e1, r, dj, e2, t⟩ := h
      rw [e2]; exact (RelE.nt t).hh (OTR.nt t0 r)
    | gh x t0 =>
      obtain ⟨Mo, M', r, dj, e2, t⟩ := h
      rw [e2]; exact (RelE.nt t).hh (OTR.nt (shT t0) r)
theorem upd_comm {H : Hp} {a d : Addr} {o u : HO} (h : a ≠ d) : upd (upd H a o) d u = upd (upd H d u) a o := by
  funext x
  by_cases e : x = a
  · subst e; rw [upd_ne h, upd_same, upd_same]
  · by_cases e2 : x = d
    · subst e2; rw [upd_same, upd_ne e, upd_same]
    · rw [upd_ne e2, upd_ne e, upd_ne e, upd_ne e2]
/-- a thing of the frame changes, or is new there -/
theorem RelE.frame {x : Addr} {u : HO} (hu : ∀ xs, u ≠ .tup xs) : ∀ {ρ : List Sl} {σ : St} {M : Hp}, RelE c b F M0 ρ σ M → (M x = none ∨ (M0 x).isSome = true) → RelE c b F (upd M0 x u) ρ σ (upd M x u)
  | [], σ, M, h, _ => ⟨h.1, by rw [h.2.1], h.2.2.upd hu⟩
  | s1 :: ρ, σ, M, h, hx => by
    obtain ⟨v, σr, e, h⟩ := h
    refine ⟨v, σr, e, ?_⟩
    have own : ∀ sl : Sl, (∃ a o M', v = some (.ref a) ∧ ObR c F sl o ∧ F a = none ∧ M' a = none ∧ M = upd M' a o ∧ RelE c b F M0 ρ σr M') →
        ∃ a o M', v = some (.ref a) ∧ ObR c F sl o ∧ F a = none ∧ M' a = none ∧ upd M x u = upd M' a o ∧ RelE c b F (upd M0 x u) ρ σr M' := fun sl h => by
      obtain ⟨a, o, M', e1, r, f, m, e2, t⟩ := h
      have ne : a ≠ x := fun z => by
        subst z
        rcases hx with hx | hx
        · rw [e2, upd_same] at hx; cases hx
        · obtain ⟨w, hw⟩ := Option.isSome_iff_exists.mp hx
          have := t.sub _ _ hw
          rw [m] at this; cases this
      have hx' : M' x = none ∨ (M0 x).isSome = true := by
        rcases hx with hx | hx
        · rw [e2, upd_ne ne.symm] at hx; exact .inl hx
        · exact .inr hx
      exact ⟨a, o, upd M' x u, e1, r, f, by rw [upd_ne ne]; exact m, by rw [e2, upd_comm ne], RelE.frame hu t hx'⟩
    cases s1 with
    | no => exact RelE.frame hu h hx
    | sh d => exact ⟨h.1, RelE.frame hu h.2 hx⟩
    | bx => exact ⟨h.1, RelE.frame hu h.2 hx⟩
    | ol ds => exact own (.ol ds) h
    | ok ks ds => exact own (.ok ks ds) h
    | ot ks ds => exact own (.ot ks ds) h
    | oi n fs ds => exact own (.oi n fs ds) h
    | od y t0 =>
      obtain ⟨Mo, M', e1, r, dj, e2, t⟩ := h
      have hy : Mo x = none ∧ (M' x = none ∨ (M0 x).isSome = true) := by
        rcases hx with hx | hx
        · rw [e2] at hx
          have := hh_none hx
          exact ⟨this.2, .inl this.1⟩
        · obtain ⟨w, hw⟩ := Option.isSome_iff_exists.mp hx
          exact ⟨dj.mn (t.sub _ _ hw), .inr hx⟩
      exact ⟨Mo, upd M' x u, e1, r, dj.updF hy.1, by rw [e2, hh_updF hy.1], RelE.frame hu t hy.2⟩
    | gh y t0 =>
      obtain ⟨Mo, M', r, dj, e2, t⟩ := h
      have hy : Mo x = none ∧ (M' x = none ∨ (M0 x).isSome = true) := by
        rcases hx with hx | hx
        · rw [e2] at hx
          have := hh_none hx
          exact ⟨this.2, .inl this.1⟩
        · obtain ⟨w, hw⟩ := Option.isSome_iff_exists.mp hx
          exact ⟨dj.mn (t.sub _ _ hw), .inr hx⟩
      exact ⟨Mo, upd M' x u, r, dj.updF hy.1, by rw [e2, hh_updF hy.1], RelE.frame hu t hy.2⟩
/-- the frame's part is another one on the box -/
theorem RelE.mr {N0 : Hp} {x : Addr} (mr : MR (some x) M0 N0) (hx : (M0 x).isSome = true) (hx' : (N0 x).isSome = true) (hnx : ∀ xs, N0 x ≠ some (.tup xs)) : ∀ {ρ : List Sl} {σ : St} {M : Hp}, RelE c b F M0 ρ σ M →
    ∃ N, RelE c b F N0 ρ σ N ∧ MR (some x) M N ∧ N x = N0 x := fun {ρ σ M} h => by
  obtain ⟨w, hw⟩ := Option.isSome_iff_exists.mp hx'
  have e : N0 = upd M0 x w := by
    funext y
    by_cases z : y = x
    · rw [z, upd_same, hw]
    · rw [upd_ne z]
      exact mr y fun q => z (Option.some.inj q).symm
  refine ⟨upd M x w, by rw [e]; exact RelE.frame (fun xs z => hnx xs (by rw [hw, z])) h (.inr hx), fun y q => upd_ne fun z => q (by rw [z]), by rw [upd_same, hw]⟩
/-- the value in a slot -/
theorem RelE.get : ∀ {ρ : List Sl} {σ : St} {M : Hp} {i : Nat} {d : D}, RelE c b F M0 ρ σ M → ρ[i]? = some (.sh d) → ∃ x, σ[i]? = some (some x) ∧ Dr c F x d
  | [], σ, M, i, d, h, e => by simp at e
  | s1 :: ρ, σ, M, 0, d, h, e => by
    obtain ⟨v, σr, e1, h⟩ := h
    simp at e; subst e; subst e1
    obtain ⟨⟨x, e2, q⟩, _⟩ := h
    exact ⟨x, by rw [e2]; rfl, q⟩
  | s1 :: ρ, σ, M, i + 1, d, h, e => by
    obtain ⟨v, σr, e1, h⟩ := h
    subst e1
    have e' : ρ[i]? = some (.sh d) := by simpa using e
    have go : ∀ {M' : Hp}, RelE c b F M0 ρ σr M' → ∃ x, (v :: σr)[i + 1]? = some (some x) ∧ Dr c F x d := fun t => by
      obtain ⟨x, h1, h2⟩ := RelE.get t e'
      exact ⟨x, by simpa using h1, h2⟩
    cases s1 with
    | no => exact go h
    | sh d => exact go h.2
    | bx => exact go h.2
    | ol ds => obtain ⟨_, _, _, _, _, _, _, _, t⟩ := h; exact go t
    | ok ks ds => obtain ⟨_, _, _, _, _, _, _, _, t⟩ := h; exact go t
    | ot ks ds => obtain ⟨_, _, _, _, _, _, _, _, t⟩ := h; exact go t
    | oi n fs ds => obtain ⟨_, _, _, _, _, _, _, _, t⟩ := h; exact go t
    | od x t0 => obtain ⟨_, _, _, _, _, _, t⟩ := h; exact go t
    | gh x t0 => obtain ⟨_, _, _, _, _, t⟩ := h; exact go t
theorem RelE.getB : ∀ {ρ : List Sl} {σ : St} {M : Hp} {i : Nat}, RelE c b F M0 ρ σ M → ρ[i]? = some .bx → ∃ a, b = some a ∧ σ[i]? = some (some (.ref a))
  | [], σ, M, i, h, e => by simp at e
  | s1 :: ρ, σ, M, 0, h, e => by
    obtain ⟨v, σr, e1, h⟩ := h
    simp at e; subst e; subst e1
    obtain ⟨⟨x, e2, q⟩, _⟩ := h
    exact ⟨x, e2, by rw [q]; rfl⟩
  | s1 :: ρ, σ, M, i + 1, h, e => by
    obtain ⟨v, σr, e1, h⟩ := h
    subst e1
    have e' : ρ[i]? = some .bx := by simpa using e
    have go : ∀ {M' : Hp}, RelE c b F M0 ρ σr M' → ∃ a, b = some a ∧ (v :: σr)[i + 1]? = some (some (.ref a)) := fun t => by
      obtain ⟨x, h1, h2⟩ := RelE.getB t e'
      exact ⟨x, h1, by simpa using h2⟩
    cases s1 with
    | no => exact go h
    | sh d => exact go h.2
    | bx => exact go h.2
    | ol ds => obtain ⟨_, _, _, _, _, _, _, _, t⟩ := h; exact go t
    | ok ks ds => obtain ⟨_, _, _, _, _, _, _, _, t⟩ := h; exact go t
    | ot ks ds => obtain ⟨_, _, _, _, _, _, _, _, t⟩ := h; exact go t
    | oi n fs ds => obtain ⟨_, _, _, _, _, _, _, _, t⟩ := h; exact go t
    | od x t0 => obtain ⟨_, _, _, _, _, _, t⟩ := h; exact go t
    | gh x t0 => obtain ⟨_, _, _, _, _, t⟩ := h; exact go t
/-- an own slot: its object; it may be changed; it may be frozen -/
def isShal : Sl → Prop
  | .ol _ => True
  | .ok _ _ => True
  | .ot _ _ => True
  | .oi _ _ _ => True
  | _ => False
def isOwn : Sl → Prop
  | .od _ _ => True
  | .gh _ _ => True
  | .ol _ => True
  | .ok _ _ => True
  | .ot _ _ => True
  | .oi _ _ _ => True
  | _ => False
theorem RelE.own : ∀ {ρ : List Sl} {σ : St} {M : Hp} {i : Nat} {sl : Sl}, RelE c b F M0 ρ σ M → ρ[i]? = some sl → isShal sl →
    ∃ a o M', σ[i]? = some (some (.ref a)) ∧ ObR c F sl o ∧ F a = none ∧ M' a = none ∧ M = upd M' a o ∧ M0 a = none ∧
      (∀ x, RelE c b F M0 (ρ.set i .no) (σ.set i x) M') ∧
      ∀ (sl' : Sl) (o' : HO), isShal sl' → ObR c F sl' o' → RelE c b F M0 (ρ.set i sl') σ (upd M' a o')
  | [], σ, M, i, sl, h, e, _ => by simp at e
  | s1 :: ρ, σ, M, 0, sl, h, e, hs => by
    obtain ⟨v, σr, e1, h⟩ := h
    simp at e; subst e; subst e1
    have own : (∃ a o M', v = some (.ref a) ∧ ObR c F s1 o ∧ F a = none ∧ M' a = none ∧ M = upd M' a o ∧ RelE c b F M0 ρ σr M') := by
      cases s1 <;> first | exact h | exact hs.elim
    obtain ⟨a, o, M', e2, r, f, m, e3, t⟩ := own
    subst e2
    refine ⟨a, o, M', rfl, r, f, m, e3, ?_, fun x => ⟨x, σr, rfl, t⟩, fun sl' o' hs' r' => ⟨some (.ref a), σr, rfl, ?_⟩⟩
    · cases q : M0 a with
      | none => rfl
      | some u => rw [t.sub _ _ q] at m; cases m
    · cases sl' <;> first | exact hs'.elim | exact ⟨a, o', M', rfl, r', f, m, rfl, t⟩
  | s1 :: ρ, σ, M, i + 1, sl, h, e, hs => by
    obtain ⟨v, σr, e1, h⟩ := h
    subst e1
    have e' : ρ[i]? = some sl := by simpa using e
    have down : ∀ {M1 : Hp} (P : Hp → Hp → Prop), RelE c b F M0 ρ σr M1 → True := fun _ _ => trivial
    cases s1 with
    | no =>
      obtain ⟨a, o, M', h1, h2, h3, h4, h5, h6, h7, h8⟩ := RelE.own h e' hs
      exact ⟨a, o, M', by simpa using h1, h2, h3, h4, h5, h6, fun x => ⟨v, σr.set i x, rfl, h7 x⟩, fun sl' o' p q => ⟨v, σr, rfl, h8 sl' o' p q⟩⟩
    | sh d =>
      obtain ⟨a, o, M', h1, h2, h3, h4, h5, h6, h7, h8⟩ := RelE.own h.2 e' hs
      exact ⟨a, o, M', by simpa using h1, h2, h3, h4, h5, h6, fun x => ⟨v, σr.set i x, rfl, h.1, h7 x⟩, fun sl' o' p q => ⟨v, σr, rfl, h.1, h8 sl' o' p q⟩⟩
    | bx =>
      obtain ⟨a, o, M', h1, h2, h3, h4, h5, h6, h7, h8⟩ := RelE.own h.2 e' hs
      exact ⟨a, o, M', by simpa using h1, h2, h3, h4, h5, h6, fun x => ⟨v, σr.set i x, rfl, h.1, h7 x⟩, fun sl' o' p q => ⟨v, σr, rfl, h.1, h8 sl' o' p q⟩⟩
    | ol ds =>
      obtain ⟨x, u, N, k1, k2, k3, k4, k5, t⟩ := h
      obtain ⟨a, o, M', h1, h2, h3, h4, h5, h6, h7, h8⟩ := RelE.own t e' hs
      have ne : x ≠ a := fun z => by rw [z, h5, upd_same] at k4; cases k4
      refine ⟨a, o, upd M' x u, by simpa using h1, h2, h3, by rw [upd_ne ne.symm]; exact h4, by rw [k5, h5, upd_comm ne.symm], h6, fun y => ⟨v, σr.set i y, rfl, x, u, M', k1, k2, k3, ?_, rfl, h7 y⟩, fun sl' o' p q => ⟨v, σr, rfl, x, u, upd M' a o', k1, k2, k3, ?_, upd_comm ne, h8 sl' o' p q⟩⟩
      · rw [h5, upd_ne ne] at k4; exact k4
      · rw [h5, upd_ne ne] at k4; rw [upd_ne ne]; exact k4
    | ok ks ds =>
      obtain ⟨x, u, N, k1, k2, k3, k4, k5, t⟩ := h
      obtain ⟨a, o, M', h1, h2, h3, h4, h5, h6, h7, h8⟩ := RelE.own t e' hs
      have ne : x ≠ a := fun z => by rw [z, h5, upd_same] at k4; cases k4
      refine ⟨a, o, upd M' x u, by simpa using h1, h2, h3, by rw [upd_ne ne.symm]; exact h4, by rw [k5, h5, upd_comm ne.symm], h6, fun y => ⟨v, σr.set i y, rfl, x, u, M', k1, k2, k3, ?_, rfl, h7 y⟩, fun sl' o' p q => ⟨v, σr, rfl, x, u, upd M' a o', k1, k2, k3, ?_, upd_comm ne, h8 sl' o' p q⟩⟩
      · rw [h5, upd_ne ne] at k4; exact k4
      · rw [h5, upd_ne ne] at k4; rw [upd_ne ne]; exact k4
    | ot ks ds =>
      obtain ⟨x, u, N, k1, k2, k3, k4, k5, t⟩ := h
      obtain ⟨a, o, M', h1, h2, h3, h4, h5, h6, h7, h8⟩ := RelE.own t e' hs
      have ne : x ≠ a := fun z => by rw [z, h5, upd_same] at k4; cases k4
      refine ⟨a, o, upd M' x u, by simpa using h1, h2, h3, by rw [upd_ne ne.symm]; exact h4, by rw [k5, h5, upd_comm ne.symm], h6, fun y => ⟨v, σr.set i y, rfl, x, u, M', k1, k2, k3, ?_, rfl, h7 y⟩, fun sl' o' p q => ⟨v, σr, rfl, x, u, upd M' a o', k1, k2, k3, ?_, upd_comm ne, h8 sl' o' p q⟩⟩
      · rw [h5, upd_ne ne] at k4; exact k4
      · rw [h5, upd_ne ne] at k4; rw [upd_ne ne]; exact k4
    | oi n fs ds =>
      obtain ⟨x, u, N, k1, k2, k3, k4, k5, t⟩ := h
      obtain ⟨a, o, M', h1, h2, h3, h4, h5, h6, h7, h8⟩ := RelE.own t e' hs
      have ne : x ≠ a := fun z => by rw [z, h5, upd_same] at k4; cases k4
      refine ⟨a, o, upd M' x u, by simpa using h1, h2, h3, by rw [upd_ne ne.symm]; exact h4, by rw [k5, h5, upd_comm ne.symm], h6, fun y => ⟨v, σr.set i y, rfl, x, u, M', k1, k2, k3, ?_, rfl, h7 y⟩, fun sl' o' p q => ⟨v, σr, rfl, x, u, upd M' a o', k1, k2, k3, ?_, upd_comm ne, h8 sl' o' p q⟩⟩
      · rw [h5, upd_ne ne] at k4; exact k4
      · rw [h5, upd_ne ne] at k4; rw [upd_ne ne]; exact k4
    | od x t0 =>
      obtain ⟨Mo, N, k1, k2, dj, k5, t⟩ := h
      obtain ⟨a, o, M', h1, h2, h3, h4, h5, h6, h7, h8⟩ := RelE.own t e' hs
      have ma : Mo a = none := dj.mn (show N a = some o by rw [h5]; exact upd_same)
      have dj' : Dj M' Mo := fun y w q => by
        have := dj y w q
        rw [h5] at this
        by_cases z : y = a
        · rw [z]; exact h4
        · rw [upd_ne z] at this; exact this
      exact ⟨a, o, HH M' Mo, by simpa using h1, h2, h3, by rw [hh_n ma]; exact h4, by rw [k5, h5, hh_updF ma], h6, fun y => ⟨v, σr.set i y, rfl, Mo, M', k1, k2, dj', rfl, h7 y⟩,
        fun sl' o' p q => ⟨v, σr, rfl, Mo, upd M' a o', k1, k2, dj'.updF ma, hh_updF ma, h8 sl' o' p q⟩⟩
    | gh x t0 =>
      obtain ⟨Mo, N, k2, dj, k5, t⟩ := h
      obtain ⟨a, o, M', h1, h2, h3, h4, h5, h6, h7, h8⟩ := RelE.own t e' hs
      have ma : Mo a = none := dj.mn (show N a = some o by rw [h5]; exact upd_same)
      have dj' : Dj M' Mo := fun y w q => by
        have := dj y w q
        rw [h5] at this
        by_cases z : y = a
        · rw [z]; exact h4
        · rw [upd_ne z] at this; exact this
      exact ⟨a, o, HH M' Mo, by simpa using h1, h2, h3, by rw [hh_n ma]; exact h4, by rw [k5, h5, hh_updF ma], h6, fun y => ⟨v, σr.set i y, rfl, Mo, M', k2, dj', rfl, h7 y⟩,
        fun sl' o' p q => ⟨v, σr, rfl, Mo, upd M' a o', k2, dj'.updF ma, hh_updF ma, h8 sl' o' p q⟩⟩
/-- a slot that holds no own object is stored -/
theorem RelE.setSh {x : V} {d : D} (q : Dr c F x d) : ∀ {ρ : List Sl} {σ : St} {M : Hp} {i : Nat} {sl : Sl}, RelE c b F M0 ρ σ M → ρ[i]? = some sl → ¬ isOwn sl → RelE c b F M0 (ρ.set i (.sh d)) (σ.set i (some x)) M
  | [], σ, M, i, sl, h, e, _ => by simp at e
  | s1 :: ρ, σ, M, 0, sl, h, e, hs => by
    obtain ⟨v, σr, e1, h⟩ := h
    simp at e; subst e; subst e1
    refine ⟨some x, σr, rfl, ⟨x, rfl, q⟩, ?_⟩
    cases s1 <;> first | exact h | exact h.2 | exact (hs trivial).elim
  | s1 :: ρ, σ, M, i + 1, sl, h, e, hs => by
    obtain ⟨v, σr, e1, h⟩ := h
    subst e1
    have e' : ρ[i]? = some sl := by simpa using e
    refine ⟨v, σr.set i (some x), rfl, ?_⟩
    have own : ∀ s2 : Sl, (∃ a o M', v = some (.ref a) ∧ ObR c F s2 o ∧ F a = none ∧ M' a = none ∧ M = upd M' a o ∧ RelE c b F M0 ρ σr M') →
        ∃ a o M', v = some (.ref a) ∧ ObR c F s2 o ∧ F a = none ∧ M' a = none ∧ M = upd M' a o ∧ RelE c b F M0 (ρ.set i (.sh d)) (σr.set i (some x)) M' := fun s2 h => by
      obtain ⟨a, o, M', k1, k2, k3, k4, k5, t⟩ := h
      exact ⟨a, o, M', k1, k2, k3, k4, k5, RelE.setSh q t e' hs⟩
    cases s1 with
    | no => exact RelE.setSh q h e' hs
    | sh d => exact ⟨h.1, RelE.setSh q h.2 e' hs⟩
    | bx => exact ⟨h.1, RelE.setSh q h.2 e' hs⟩
    | ol ds => exact own (.ol ds) h
    | ok ks ds => exact own (.ok ks ds) h
    | ot ks ds => exact own (.ot ks ds) h
    | oi n fs ds => exact own (.oi n fs ds) h
    | od y t0 =>
      obtain ⟨Mo, M', e1, r, dj, e2, t⟩ := h
      exact ⟨Mo, M', e1, r, dj, e2, RelE.setSh q t e' hs⟩
    | gh y t0 =>
      obtain ⟨Mo, M', r, dj, e2, t⟩ := h
      exact ⟨Mo, M', r, dj, e2, RelE.setSh q t e' hs⟩
/-- a slot that holds no own object is given one -/
theorem RelE.setOw {a : Addr} {o : HO} {so : Sl} (ho : isShal so) (r : ObR c F so o) (f : F a = none) : ∀ {ρ : List Sl} {σ : St} {M : Hp} {i : Nat} {sl : Sl}, RelE c b F M0 ρ σ M → M a = none → ρ[i]? = some sl → ¬ isOwn sl →
    RelE c b F M0 (ρ.set i so) (σ.set i (some (.ref a))) (upd M a o)
  | [], σ, M, i, sl, h, _, e, _ => by simp at e
  | s1 :: ρ, σ, M, 0, sl, h, m, e, hs => by
    obtain ⟨v, σr, e1, h⟩ := h
    simp at e; subst e; subst e1
    refine ⟨some (.ref a), σr, rfl, ?_⟩
    have t : RelE c b F M0 ρ σr M := by cases s1 <;> first | exact h | exact h.2 | exact (hs trivial).elim
    cases so <;> first | exact ho.elim | exact ⟨a, o, M, rfl, r, f, m, rfl, t⟩
  | s1 :: ρ, σ, M, i + 1, sl, h, m, e, hs => by
    obtain ⟨v, σr, e1, h⟩ := h
    subst e1
    have e' : ρ[i]? = some sl := by simpa using e
    refine ⟨v, σr.set i (some (.ref a)), rfl, ?_⟩
    have own : ∀ s2 : Sl, (∃ x u M', v = some (.ref x) ∧ ObR c F s2 u ∧ F x = none ∧ M' x = none ∧ M = upd M' x u ∧ RelE c b F M0 ρ σr M') →
        ∃ x u M', v = some (.ref x) ∧ ObR c F s2 u ∧ F x = none ∧ M' x = none ∧ upd M a o = upd M' x u ∧ RelE c b F M0 (ρ.set i so) (σr.set i (some (.ref a))) M' := fun s2 h => by
      obtain ⟨x, u, M', k1, k2, k3, k4, k5, t⟩ := h
      have ne : x ≠ a := fun z => by rw [k5, z, upd_same] at m; cases m
      have m' : M' a = none := by rw [k5, upd_ne ne.symm] at m; exact m
      exact ⟨x, u, upd M' a o, k1, k2, k3, by rw [upd_ne ne]; exact k4, by rw [k5, upd_comm ne], RelE.setOw ho r f t m' e' hs⟩
    cases s1 with
    | no => exact RelE.setOw ho r f h m e' hs
    | sh d => exact ⟨h.1, RelE.setOw ho r f h.2 m e' hs⟩
    | bx => exact ⟨h.1, RelE.setOw ho r f h.2 m e' hs⟩
    | ol ds => exact own (.ol ds) h
    | ok ks ds => exact own (.ok ks ds) h
    | ot ks ds => exact own (.ot ks ds) h
    | oi n fs ds => exact own (.oi n fs ds) h
    | od y t0 =>
      obtain ⟨Mo, M', e1, r', dj, e2, t⟩ := h
      rw [e2] at m
      have hm := hh_none m
      exact ⟨Mo, upd M' a o, e1, r', dj.updF hm.2, by rw [e2, hh_updF hm.2], RelE.setOw ho r f t hm.1 e' hs⟩
    | gh y t0 =>
      obtain ⟨Mo, M', r', dj, e2, t⟩ := h
      rw [e2] at m
      have hm := hh_none m
      exact ⟨Mo, upd M' a o, r', dj.updF hm.2, by rw [e2, hh_updF hm.2], RelE.setOw ho r f t hm.1 e' hs⟩
/-- a slot that holds no own object is forgotten, whatever stands there -/
theorem RelE.forget {x : Option V} : ∀ {ρ : List Sl} {σ : St} {M : Hp} {i : Nat} {sl : Sl}, RelE c b F M0 ρ σ M → ρ[i]? = some sl → ¬ isOwn sl → RelE c b F M0 (ρ.set i .no) (σ.set i x) M
  | [], σ, M, i, sl, h, e, _ => by simp at e
  | s1 :: ρ, σ, M, 0, sl, h, e, hs => by
    obtain ⟨v, σr, e1, h⟩ := h
    simp at e; subst e; subst e1
    refine ⟨x, σr, rfl, ?_⟩
    cases s1 <;> first | exact h | exact h.2 | exact (hs trivial).elim
  | s1 :: ρ, σ, M, i + 1, sl, h, e, hs => by
    obtain ⟨v, σr, e1, h⟩ := h
    subst e1
    have e' : ρ[i]? = some sl := by simpa using e
    refine ⟨v, σr.set i x, rfl, ?_⟩
    have own : ∀ s2 : Sl, (∃ a o M', v = some (.ref a) ∧ ObR c F s2 o ∧ F a = none ∧ M' a = none ∧ M = upd M' a o ∧ RelE c b F M0 ρ σr M') →
        ∃ a o M', v = some (.ref a) ∧ ObR c F s2 o ∧ F a = none ∧ M' a = none ∧ M = upd M' a o ∧ RelE c b F M0 (ρ.set i .no) (σr.set i x) M' := fun s2 h => by
      obtain ⟨a, o, M', k1, k2, k3, k4, k5, t⟩ := h
      exact ⟨a, o, M', k1, k2, k3, k4, k5, RelE.forget t e' hs⟩
    cases s1 with
    | no => exact RelE.forget h e' hs
    | sh d => exact ⟨h.1, RelE.forget h.2 e' hs⟩
    | bx => exact ⟨h.1, RelE.forget h.2 e' hs⟩
    | ol ds => exact own (.ol ds) h
    | ok ks ds => exact own (.ok ks ds) h
    | ot ks ds => exact own (.ot ks ds) h
    | oi n fs ds => exact own (.oi n fs ds) h
    | od y t0 =>
      obtain ⟨Mo, M', e1, r', dj, e2, t⟩ := h
      exact ⟨Mo, M', e1, r', dj, e2, RelE.forget t e' hs⟩
    | gh y t0 =>
      obtain ⟨Mo, M', r', dj, e2, t⟩ := h
      exact ⟨Mo, M', r', dj, e2, RelE.forget t e' hs⟩
theorem own_cases : ∀ {sl : Sl}, isOwn sl → isShal sl ∨ (∃ x t, sl = .od x t) ∨ ∃ x t, sl = .gh x t
  | .ol _, _ => .inl trivial
  | .ok _ _, _ => .inl trivial
  | .ot _ _, _ => .inl trivial
  | .oi _ _ _, _ => .inl trivial
  | .od x t, _ => .inr (.inl ⟨x, t, rfl⟩)
  | .gh x t, _ => .inr (.inr ⟨x, t, rfl⟩)
/-- an own tree: its objects; it may be changed; it may be given away -/
theorem RelE.ownT {t1 : OT} {x : V} : ∀ {ρ : List Sl} {σ : St} {M : Hp} {i : Nat}, RelE c b F M0 ρ σ M → ρ[i]? = some (.od x t1) →
    ∃ Mo M', σ[i]? = some (some x) ∧ OTR c F t1 x Mo ∧ Dj M' Mo ∧ M = HH M' Mo ∧ (∀ a o, M0 a = some o → M' a = some o) ∧ (∀ y, RelE c b F M0 (ρ.set i .no) (σ.set i y) M') ∧
      ∀ (t2 : OT) (Mo2 : Hp), OTR c F t2 x Mo2 → Dj M' Mo2 → RelE c b F M0 (ρ.set i (.od x t2)) σ (HH M' Mo2)
  | [], σ, M, i, h, e => by simp at e
  | s1 :: ρ, σ, M, 0, h, e => by
    obtain ⟨v, σr, e1, h⟩ := h
    simp at e; subst e; subst e1
    obtain ⟨Mo, M', e2, r, dj, e3, t⟩ := h
    subst e2
    exact ⟨Mo, M', rfl, r, dj, e3, t.sub, fun y => ⟨y, σr, rfl, t⟩, fun t2 Mo2 r2 d2 => ⟨some x, σr, rfl, Mo2, M', rfl, r2, d2, rfl, t⟩⟩
  | s1 :: ρ, σ, M, i + 1, h, e => by
    obtain ⟨v, σr, e1, h⟩ := h
    subst e1
    have e' : ρ[i]? = some (.od x t1) := by simpa using e
    have own : ∀ s2 : Sl, (∀ M2 : Hp, (∃ a o M', v = some (.ref a) ∧ ObR c F s2 o ∧ F a = none ∧ M' a = none ∧ M2 = upd M' a o ∧ RelE c b F M0 ρ σr M') → RelE c b F M0 (s2 :: ρ) (v :: σr) M2) →
        (∀ (ρ2 : List Sl) (τ : St) (M2 : Hp), (∃ a o M', v = some (.ref a) ∧ ObR c F s2 o ∧ F a = none ∧ M' a = none ∧ M2 = upd M' a o ∧ RelE c b F M0 ρ2 τ M') → RelE c b F M0 (s2 :: ρ2) (v :: τ) M2) →
        (∃ a o M', v = some (.ref a) ∧ ObR c F s2 o ∧ F a = none ∧ M' a = none ∧ M = upd M' a o ∧ RelE c b F M0 ρ σr M') →
        ∃ Mo M', (v :: σr)[i + 1]? = some (some x) ∧ OTR c F t1 x Mo ∧ Dj M' Mo ∧ M = HH M' Mo ∧ (∀ a o, M0 a = some o → M' a = some o) ∧ (∀ y, RelE c b F M0 ((s2 :: ρ).set (i + 1) .no) ((v :: σr).set (i + 1) y) M') ∧
          ∀ (t2 : OT) (Mo2 : Hp), OTR c F t2 x Mo2 → Dj M' Mo2 → RelE c b F M0 ((s2 :: ρ).set (i + 1) (.od x t2)) (v :: σr) (HH M' Mo2) := fun s2 _ mk h => by
      obtain ⟨u, w, N, k1, k2, k3, k4, k5, t⟩ := h
      obtain ⟨Mo, M', h1, h2, h3, h4, h4', h5, h6⟩ := RelE.ownT t e'
      rw [h4] at k4
      have hu := hh_none k4
      refine ⟨Mo, upd M' u w, by simpa using h1, h2, h3.updF hu.2, by rw [k5, h4, hh_updF hu.2], fun a o q => by rw [upd_ne (ne_of_none (h4' a o q) hu.1)]; exact h4' a o q, fun y => mk _ _ _ ⟨u, w, M', k1, k2, k3, hu.1, rfl, h5 y⟩, fun t2 Mo2 r2 d2 => mk _ _ _ ⟨u, w, HH M' Mo2, k1, k2, k3, ?_, ?_, h6 t2 Mo2 r2 fun a o q => ?_⟩⟩
      · have : Mo2 u = none := (d2.mn (show upd M' u w u = some w from upd_same))
        rw [hh_n this]; exact hu.1
      · exact (hh_updF (d2.mn (show upd M' u w u = some w from upd_same))).symm
      · have := d2 a o q
        by_cases z : a = u
        · rw [z]; exact hu.1
        · rw [upd_ne z] at this; exact this
    cases s1 with
    | no =>
      obtain ⟨Mo, M', h1, h2, h3, h4, h4', h5, h6⟩ := RelE.ownT h e'
      exact ⟨Mo, M', by simpa using h1, h2, h3, h4, h4', fun y => ⟨v, σr.set i y, rfl, h5 y⟩, fun t2 Mo2 r2 d2 => ⟨v, σr, rfl, h6 t2 Mo2 r2 d2⟩⟩
    | sh d =>
      obtain ⟨Mo, M', h1, h2, h3, h4, h4', h5, h6⟩ := RelE.ownT h.2 e'
      exact ⟨Mo, M', by simpa using h1, h2, h3, h4, h4', fun y => ⟨v, σr.set i y, rfl, h.1, h5 y⟩, fun t2 Mo2 r2 d2 => ⟨v, σr, rfl, h.1, h6 t2 Mo2 r2 d2⟩⟩
    | bx =>
      obtain ⟨Mo, M', h1, h2, h3, h4, h4', h5, h6⟩ := RelE.ownT h.2 e'
      exact ⟨Mo, M', by simpa using h1, h2, h3, h4, h4', fun y => ⟨v, σr.set i y, rfl, h.1, h5 y⟩, fun t2 Mo2 r2 d2 => ⟨v, σr, rfl, h.1, h6 t2 Mo2 r2 d2⟩⟩
    | ol ds => exact own (.ol ds) (fun M2 h => ⟨v, σr, rfl, h⟩) (fun ρ2 τ M2 h => ⟨v, τ, rfl, h⟩) h
    | ok ks ds => exact own (.ok ks ds) (fun M2 h => ⟨v, σr, rfl, h⟩) (fun ρ2 τ M2 h => ⟨v, τ, rfl, h⟩) h
    | ot ks ds => exact own (.ot ks ds) (fun M2 h => ⟨v, σr, rfl, h⟩) (fun ρ2 τ M2 h => ⟨v, τ, rfl, h⟩) h
    | oi n fs ds => exact own (.oi n fs ds) (fun M2 h => ⟨v, σr, rfl, h⟩) (fun ρ2 τ M2 h => ⟨v, τ, rfl, h⟩) h
    | od u t0 =>
      obtain ⟨Mu, N, k1, k2, k3, k4, t⟩ := h
      obtain ⟨Mo, M', h1, h2, h3, h4, h4', h5, h6⟩ := RelE.ownT t e'
      rw [h4] at k3
      refine ⟨Mo, HH M' Mu, by simpa using h1, h2, ?_, ?_, fun a o q => (dj_l k3).f (h4' a o q), fun y => ⟨v, σr.set i y, rfl, Mu, M', k1, k2, dj_l k3, rfl, h5 y⟩, fun t2 Mo2 r2 d2 => ⟨v, σr, rfl, Mu, HH M' Mo2, k1, k2, ?_, ?_, h6 t2 Mo2 r2 (dj_l d2)⟩⟩
      · exact dj_hh h3 (dj_sym (dj_r k3))
      · rw [k4, h4, hh_swap (dj_r k3)]
      · exact dj_hh (dj_l k3) (dj_sym (dj_r d2))
      · exact hh_swap (dj_r d2)
    | gh u t0 =>
      obtain ⟨Mu, N, k2, k3, k4, t⟩ := h
      obtain ⟨Mo, M', h1, h2, h3, h4, h4', h5, h6⟩ := RelE.ownT t e'
      rw [h4] at k3
      refine ⟨Mo, HH M' Mu, by simpa using h1, h2, ?_, ?_, fun a o q => (dj_l k3).f (h4' a o q), fun y => ⟨v, σr.set i y, rfl, Mu, M', k2, dj_l k3, rfl, h5 y⟩, fun t2 Mo2 r2 d2 => ⟨v, σr, rfl, Mu, HH M' Mo2, k2, ?_, ?_, h6 t2 Mo2 r2 (dj_l d2)⟩⟩
      · exact dj_hh h3 (dj_sym (dj_r k3))
      · rw [k4, h4, hh_swap (dj_r k3)]
      · exact dj_hh (dj_l k3) (dj_sym (dj_r d2))
      · exact hh_swap (dj_r d2)
/-- a ghost tree: its objects; it may be changed; it may be given away -/
theorem RelE.ghT {t1 : D} {x : Addr} : ∀ {ρ : List Sl} {σ : St} {M : Hp} {i : Nat}, RelE c b F M0 ρ σ M → ρ[i]? = some (.gh x t1) →
    ∃ Mo M', OTR c F (shT t1) (.ref x) Mo ∧ Dj M' Mo ∧ M = HH M' Mo ∧ (∀ a o, M0 a = some o → M' a = some o) ∧ (∀ y, RelE c b F M0 (ρ.set i .no) (σ.set i y) M') ∧
      ∀ (t2 : D) (Mo2 : Hp), OTR c F (shT t2) (.ref x) Mo2 → Dj M' Mo2 → RelE c b F M0 (ρ.set i (.gh x t2)) σ (HH M' Mo2)
  | [], σ, M, i, h, e => by simp at e
  | s1 :: ρ, σ, M, 0, h, e => by
    obtain ⟨v, σr, e1, h⟩ := h
    simp at e; subst e; subst e1
    obtain ⟨Mo, M', r, dj, e3, t⟩ := h
    exact ⟨Mo, M', r, dj, e3, t.sub, fun y => ⟨y, σr, rfl, t⟩, fun t2 Mo2 r2 d2 => ⟨v, σr, rfl, Mo2, M', r2, d2, rfl, t⟩⟩
  | s1 :: ρ, σ, M, i + 1, h, e => by
    obtain ⟨v, σr, e1, h⟩ := h
    subst e1
    have e' : ρ[i]? = some (.gh x t1) := by simpa using e
    have own : ∀ s2 : Sl, (∀ M2 : Hp, (∃ a o M', v = some (.ref a) ∧ ObR c F s2 o ∧ F a = none ∧ M' a = none ∧ M2 = upd M' a o ∧ RelE c b F M0 ρ σr M') → RelE c b F M0 (s2 :: ρ) (v :: σr) M2) →
        (∀ (ρ2 : List Sl) (τ : St) (M2 : Hp), (∃ a o M', v = some (.ref a) ∧ ObR c F s2 o ∧ F a = none ∧ M' a = none ∧ M2 = upd M' a o ∧ RelE c b F M0 ρ2 τ M') → RelE c b F M0 (s2 :: ρ2) (v :: τ) M2) →
        (∃ a o M', v = some (.ref a) ∧ ObR c F s2 o ∧ F a = none ∧ M' a = none ∧ M = upd M' a o ∧ RelE c b F M0 ρ σr M') →
        ∃ Mo M', OTR c F (shT t1) (.ref x) Mo ∧ Dj M' Mo ∧ M = HH M' Mo ∧ (∀ a o, M0 a = some o → M' a = some o) ∧ (∀ y, RelE c b F M0 ((s2 :: ρ).set (i + 1) .no) ((v :: σr).set (i + 1) y) M') ∧
          ∀ (t2 : D) (Mo2 : Hp), OTR c F (shT t2) (.ref x) Mo2 → Dj M' Mo2 → RelE c b F M0 ((s2 :: ρ).set (i + 1) (.gh x t2)) (v :: σr) (HH M' Mo2) := fun s2 _ mk h => by
      obtain ⟨u, w, N, k1, k2, k3, k4, k5, t⟩ := h
      obtain ⟨Mo, M', h2, h3, h4, h4', h5, h6⟩ := RelE.ghT t e'
      rw [h4] at k4
      have hu := hh_none k4
      refine ⟨Mo, upd M' u w, h2, h3.updF hu.2, by rw [k5, h4, hh_updF hu.2], fun a o q => by rw [upd_ne (ne_of_none (h4' a o q) hu.1)]; exact h4' a o q, fun y => mk _ _ _ ⟨u, w, M', k1, k2, k3, hu.1, rfl, h5 y⟩, fun t2 Mo2 r2 d2 => mk _ _ _ ⟨u, w, HH M' Mo2, k1, k2, k3, ?_, ?_, h6 t2 Mo2 r2 fun a o q => ?_⟩⟩
      · have : Mo2 u = none := (d2.mn (show upd M' u w u = some w from upd_same))
        rw [hh_n this]; exact hu.1
      · exact (hh_updF (d2.mn (show upd M' u w u = some w from upd_same))).symm
      · have := d2 a o q
        by_cases z : a = u
        · rw [z]; exact hu.1
        · rw [upd_ne z] at this; exact this
    cases s1 with
    | no =>
      obtain ⟨Mo, M', h2, h3, h4, h4', h5, h6⟩ := RelE.ghT h e'
      exact ⟨Mo, M', h2, h3, h4, h4', fun y => ⟨v, σr.set i y, rfl, h5 y⟩, fun t2 Mo2 r2 d2 => ⟨v, σr, rfl, h6 t2 Mo2 r2 d2⟩⟩
    | sh d =>
      obtain ⟨Mo, M', h2, h3, h4, h4', h5, h6⟩ := RelE.ghT h.2 e'
      exact ⟨Mo, M', h2, h3, h4, h4', fun y => ⟨v, σr.set i y, rfl, h.1, h5 y⟩, fun t2 Mo2 r2 d2 => ⟨v, σr, rfl, h.1, h6 t2 Mo2 r2 d2⟩⟩
    | bx =>
      obtain ⟨Mo, M', h2, h3, h4, h4', h5, h6⟩ := RelE.ghT h.2 e'
      exact ⟨Mo, M', h2, h3, h4, h4', fun y => ⟨v, σr.set i y, rfl, h.1, h5 y⟩, fun t2 Mo2 r2 d2 => ⟨v, σr, rfl, h.1, h6 t2 Mo2 r2 d2⟩⟩
    | ol ds => exact own (.ol ds) (fun M2 h => ⟨v, σr, rfl, h⟩) (fun ρ2 τ M2 h => ⟨v, τ, rfl, h⟩) h
    | ok ks ds => exact own (.ok ks ds) (fun M2 h => ⟨v, σr, rfl, h⟩) (fun ρ2 τ M2 h => ⟨v, τ, rfl, h⟩) h
    | ot ks ds => exact own (.ot ks ds) (fun M2 h => ⟨v, σr, rfl, h⟩) (fun ρ2 τ M2 h => ⟨v, τ, rfl, h⟩) h
    | oi n fs ds => exact own (.oi n fs ds) (fun M2 h => ⟨v, σr, rfl, h⟩) (fun ρ2 τ M2 h => ⟨v, τ, rfl, h⟩) h
    | od u t0 =>
      obtain ⟨Mu, N, k1, k2, k3, k4, t⟩ := h
      obtain ⟨Mo, M', h2, h3, h4, h4', h5, h6⟩ := RelE.ghT t e'
      rw [h4] at k3
      refine ⟨Mo, HH M' Mu, h2, ?_, ?_, fun a o q => (dj_l k3).f (h4' a o q), fun y => ⟨v, σr.set i y, rfl, Mu, M', k1, k2, dj_l k3, rfl, h5 y⟩, fun t2 Mo2 r2 d2 => ⟨v, σr, rfl, Mu, HH M' Mo2, k1, k2, ?_, ?_, h6 t2 Mo2 r2 (dj_l d2)⟩⟩
      · exact dj_hh h3 (dj_sym (dj_r k3))
      · rw [k4, h4, hh_swap (dj_r k3)]
      · exact dj_hh (dj_l k3) (dj_sym (dj_r d2))
      · exact hh_swap (dj_r d2)
    | gh u t0 =>
      obtain ⟨Mu, N, k2, k3, k4, t⟩ := h
      obtain ⟨Mo, M', h2, h3, h4, h4', h5, h6⟩ := RelE.ghT t e'
      rw [h4] at k3
      refine ⟨Mo, HH M' Mu, h2, ?_, ?_, fun a o q => (dj_l k3).f (h4' a o q), fun y => ⟨v, σr.set i y, rfl, Mu, M', k2, dj_l k3, rfl, h5 y⟩, fun t2 Mo2 r2 d2 => ⟨v, σr, rfl, Mu, HH M' Mo2, k2, ?_, ?_, h6 t2 Mo2 r2 (dj_l d2)⟩⟩
      · exact dj_hh h3 (dj_sym (dj_r k3))
      · rw [k4, h4, hh_swap (dj_r k3)]
      · exact dj_hh (dj_l k3) (dj_sym (dj_r d2))
      · exact hh_swap (dj_r d2)
/-- a slot that holds no own object is given a ghost -/
theorem RelE.setGh {x : Addr} {t1 : D} {Mo : Hp} (r : OTR c F (shT t1) (.ref x) Mo) : ∀ {ρ : List Sl} {σ : St} {M : Hp} {i : Nat} {sl : Sl}, RelE c b F M0 ρ σ M → Dj M Mo → ρ[i]? = some sl → ¬ isOwn sl →
    RelE c b F M0 (ρ.set i (.gh x t1)) σ (HH M Mo)
  | [], σ, M, i, sl, h, _, e, _ => by simp at e
  | s1 :: ρ, σ, M, 0, sl, h, m, e, hs => by
    obtain ⟨v, σr, e1, h⟩ := h
    simp at e; subst e; subst e1
    refine ⟨v, σr, rfl, Mo, M, r, m, rfl, ?_⟩
    cases s1 <;> first | exact h | exact h.2 | exact (hs trivial).elim
  | s1 :: ρ, σ, M, i + 1, sl, h, m, e, hs => by
    obtain ⟨v, σr, e1, h⟩ := h
    subst e1
    have e' : ρ[i]? = some sl := by simpa using e
    refine ⟨v, σr, rfl, ?_⟩
    have own : ∀ s2 : Sl, (∃ y u M', v = some (.ref y) ∧ ObR c F s2 u ∧ F y = none ∧ M' y = none ∧ M = upd M' y u ∧ RelE c b F M0 ρ σr M') →
        ∃ y u M', v = some (.ref y) ∧ ObR c F s2 u ∧ F y = none ∧ M' y = none ∧ HH M Mo = upd M' y u ∧ RelE c b F M0 (ρ.set i (.gh x t1)) σr M' := fun s2 h => by
      obtain ⟨y, u, M', k1, k2, k3, k4, k5, t⟩ := h
      have my : Mo y = none := m.mn (show M y = some u by rw [k5]; exact upd_same)
      have dj' : Dj M' Mo := fun z w q => by
        have := m z w q
        rw [k5] at this
        by_cases e : z = y
        · rw [e]; exact k4
        · rw [upd_ne e] at this; exact this
      exact ⟨y, u, HH M' Mo, k1, k2, k3, by rw [hh_n my]; exact k4, by rw [k5, hh_updF my], RelE.setGh r t dj' e' hs⟩
    cases s1 with
    | no => exact RelE.setGh r h m e' hs
    | sh d => exact ⟨h.1, RelE.setGh r h.2 m e' hs⟩
    | bx => exact ⟨h.1, RelE.setGh r h.2 m e' hs⟩
    | ol ds => exact own (.ol ds) h
    | ok ks ds => exact own (.ok ks ds) h
    | ot ks ds => exact own (.ot ks ds) h
    | oi n fs ds => exact own (.oi n fs ds) h
    | od u t0 =>
      obtain ⟨Mu, N, k1, k2, k3, k4, t⟩ := h
      rw [k4] at m
      exact ⟨Mu, HH N Mo, k1, k2, dj_hh k3 (dj_sym (dj_r m)), by rw [k4, hh_swap (dj_r m)], RelE.setGh r t (dj_l m) e' hs⟩
    | gh u t0 =>
      obtain ⟨Mu, N, k2, k3, k4, t⟩ := h
      rw [k4] at m
      exact ⟨Mu, HH N Mo, k2, dj_hh k3 (dj_sym (dj_r m)), by rw [k4, hh_swap (dj_r m)], RelE.setGh r t (dj_l m) e' hs⟩
end
end DL
namespace DL
open PySem L2
variable [Lk]
abbrev WE := List Sl → (D → List Sl → Prop) → Prop
abbrev WT := List Sl → (Bool → List Sl → Prop) → Prop
abbrev WA := List Sl → (List D → List Sl → Prop) → Prop
/-- behind an expression -/
structure Aft (c : Cy) (b : Option Addr) (F M M0 : Hp) (ρ : List Sl) (σ : St) (F' M' M0' : Hp) : Prop where
  same : Same F F'
  ext : Ext b (HH F M) (HH F' M')
  rel : Rel c b ρ σ F' M' M0'
  mr : MR b M0 M0'
section
variable {c : Cy} {b : Option Addr} {F M M0 F1 M1 M01 F2 M2 M02 : Hp} {ρ ρ1 ρ2 : List Sl} {σ σ1 σ2 : St}
theorem Rel.aft (h : Rel c b ρ σ F M M0) : Aft c b F M M0 ρ σ F M M0 := ⟨Same.refl _, Ext.refl _ _, h, MR.refl _ _⟩
theorem Aft.trans (a : Aft c b F M M0 ρ1 σ1 F1 M1 M01) (h : Aft c b F1 M1 M01 ρ2 σ2 F2 M2 M02) : Aft c b F M M0 ρ2 σ2 F2 M2 M02 :=
  ⟨a.same.trans h.same, a.ext.trans h.ext, h.rel, a.mr.trans h.mr⟩
/-- a frozen address is not the box -/
theorem Rel.nb (h : Rel c b ρ σ F M M0) {a : Addr} {o : HO} (q : F a = some o) : b ≠ some a := fun e => by
  obtain ⟨_, _, _, h1, _⟩ := h.box a e
  have h2 := h.dj a _ (h.env.sub a _ h1)
  rw [q] at h2; cases h2
end
/-- readable as data: its own object may still change -/
def Rk (c : Cy) (b : Option Addr) (F M : Hp) (v : V) : D → Prop
  | .lst ds => ∃ a vs, v = .ref a ∧ b ≠ some a ∧ HH F M a = some (.lst vs) ∧ DrL c F vs ds
  | .dk ks ds => ∃ a ps, v = .ref a ∧ b ≠ some a ∧ Rd (HH F M) a (.dK ps) ∧ ps.map (·.1) = ks ∧ DrL c F (ps.map (·.2)) ds
  | .dt ks ds => ∃ a ps, v = .ref a ∧ b ≠ some a ∧ Rd (HH F M) a (.dT ps) ∧ ps.map (·.1) = ks ∧ DrL c F (ps.map (·.2)) ds
  | .ins n fs ds => ∃ a C dx ps, v = .ref a ∧ b ≠ some a ∧ HH F M a = some (.ins C dx ps) ∧ c.mg n = some (.ref C) ∧ ps.map (·.1) = fs ∧ DrL c F (ps.map (·.2)) ds
  | d => Dr c F v d
theorem Rk.of {c : Cy} {b : Option Addr} {F M : Hp} {v : V} {d : D} (dj : Dj F M) (nb : ∀ a o, F a = some o → b ≠ some a) (h : Dr c F v d) : Rk c b F M v d := by
  cases d with
  | lst ds => simp only [Dr] at h; obtain ⟨a, vs, e, q, r⟩ := h; exact ⟨a, vs, e, nb a _ q, dj.f q, r⟩
  | dk ks ds =>
    simp only [Dr] at h; obtain ⟨a, vs, e, q, k, r⟩ := h
    exact ⟨a, vs, e, by rcases q with q | ⟨o, q⟩ <;> exact nb a _ q, same_rd dj.same q, k, r⟩
  | dt ks ds =>
    simp only [Dr] at h; obtain ⟨a, vs, e, q, k, r⟩ := h
    exact ⟨a, vs, e, by rcases q with q | ⟨o, q⟩ <;> exact nb a _ q, same_rd dj.same q, k, r⟩
  | ins n fs ds => simp only [Dr] at h; obtain ⟨a, C, dx, ps, e, q, m, k, r⟩ := h; exact ⟨a, C, dx, ps, e, nb a _ q, dj.f q, m, k, r⟩
  | _ => exact h
theorem Rk.stay {c : Cy} {b : Option Addr} {F M F' M' : Hp} {v : V} {d : D} (s : Same F F') (x : Ext b (HH F M) (HH F' M')) (h : Rk c b F M v d) : Rk c b F' M' v d := by
  have rd : ∀ {a : Addr} {u : HO}, b ≠ some a → Rd (HH F M) a u → Rd (HH F' M') a u := fun n q => by
    rcases q with q | ⟨o, q⟩
    · exact .inl (x _ _ n q)
    · exact .inr ⟨o, x _ _ n q⟩
  cases d with
  | lst ds => obtain ⟨a, vs, e, n, q, r⟩ := h; exact ⟨a, vs, e, n, x _ _ n q, r.up s⟩
  | dk ks ds => obtain ⟨a, vs, e, n, q, k, r⟩ := h; exact ⟨a, vs, e, n, rd n q, k, r.up s⟩
  | dt ks ds => obtain ⟨a, vs, e, n, q, k, r⟩ := h; exact ⟨a, vs, e, n, rd n q, k, r.up s⟩
  | non => exact Dr.up s h
  | bl _ => exact Dr.up s h
  | int _ => exact Dr.up s h
  | str _ => exact Dr.up s h
  | tup _ => exact Dr.up s h
  | scr _ => exact Dr.up s h
  | emt => exact Dr.up s h
  | fn _ => exact Dr.up s h
  | ad _ => exact Dr.up s h
  | ins n fs ds => obtain ⟨a, C, dx, ps, e, n, q, m, k, r⟩ := h; exact ⟨a, C, dx, ps, e, n, x _ _ n q, m, k, r.up s⟩
def Snd (c : Cy) (te : TE) (w : WE) : Prop := ∀ {b : Option Addr} {ρ : List Sl} {σ : St} {F M M0 : Hp}, Rel c b ρ σ F M M0 → ∀ (Qd : D → List Sl → Prop) (Q : VK), w ρ Qd →
  (∀ d ρ' v F' M' M0', Qd d ρ' → Aft c b F M M0 ρ' σ F' M' M0' → Dr c F' v d → Q v (HH F' M')) → te σ (HH F M) Q
def Snp (c : Cy) (te : TE) (w : WE) : Prop := ∀ {b : Option Addr} {ρ : List Sl} {σ : St} {F M M0 : Hp}, Rel c b ρ σ F M M0 → ∀ (Qd : D → List Sl → Prop) (Q : VK), w ρ Qd →
  (∀ d ρ' v F' M' M0', Qd d ρ' → Aft c b F M M0 ρ' σ F' M' M0' → Rk c b F' M' v d → Q v (HH F' M')) → te σ (HH F M) Q
def Snt (c : Cy) (tt : TT) (w : WT) : Prop := ∀ {b : Option Addr} {ρ : List Sl} {σ : St} {F M M0 : Hp}, Rel c b ρ σ F M M0 → ∀ (Qd : Bool → List Sl → Prop) (Q : Bool → Hp → Prop), w ρ Qd →
  (∀ k ρ' F' M' M0', Qd k ρ' → Aft c b F M M0 ρ' σ F' M' M0' → Q k (HH F' M')) → tt σ (HH F M) Q
def Sna (c : Cy) (ta : TA) (w : WA) : Prop := ∀ {b : Option Addr} {ρ : List Sl} {σ : St} {F M M0 : Hp}, Rel c b ρ σ F M M0 → ∀ (Qd : List D → List Sl → Prop) (Q : List V → Hp → Prop), w ρ Qd →
  (∀ ds ρ' vs F' M' M0', Qd ds ρ' → Aft c b F M M0 ρ' σ F' M' M0' → DrL c F' vs ds → Q vs (HH F' M')) → ta σ (HH F M) Q
/-- a new own object -/
def Snf (c : Cy) (te : TE) (w : List Sl → (Sl → List Sl → Prop) → Prop) : Prop := ∀ {b : Option Addr} {ρ : List Sl} {σ : St} {F M M0 : Hp}, Rel c b ρ σ F M M0 → ∀ (Qd : Sl → List Sl → Prop) (Q : VK), w ρ Qd →
  (∀ sl ρ' a o F' M' M0', Qd sl ρ' → Aft c b F M M0 ρ' σ F' M' M0' → isShal sl → ObR c F' sl o → F' a = none → M' a = none → Q (.ref a) (HH F' (upd M' a o))) → te σ (HH F M) Q
abbrev cy (X : Cx) : Cy := ⟨X.K, X.mg⟩
structure DE (X : Cx) (e : Expr) (te : TE) (w : WE) : Prop where
  pe : PE X e te
  sn : Snd (cy X) te w
structure DP (X : Cx) (e : Expr) (te : TE) (w : WE) : Prop where
  pe : PE X e te
  sn : Snp (cy X) te w
structure DT (X : Cx) (e : Expr) (tt : TT) (w : WT) : Prop where
  pe : PT X e tt
  sn : Snt (cy X) tt w
structure DWt (X : Cx) (e : Expr) (tt : TT) (w : WT) : Prop where
  pe : PW X e tt
  sn : Snt (cy X) tt w
structure DA (X : Cx) (es : List Expr) (ta : TA) (w : WA) : Prop where
  pe : PA X es ta
  sn : Sna (cy X) ta w
structure DF (X : Cx) (e : Expr) (te : TE) (w : List Sl → (Sl → List Sl → Prop) → Prop) : Prop where
  pe : PE X e te
  sn : Snf (cy X) te w
section
variable {X : Cx} {e a b' : Expr} {te ta tb : TE} {w wa wb : WE} {pos : Pos}
theorem DE.dp (h : DE X e te w) : DP X e te w := ⟨h.pe, fun {b ρ σ F M M0} R Qd Q hw k =>
  h.sn R Qd Q hw fun d ρ' v F' M' M0' q A r => k d ρ' v F' M' M0' q A (Rk.of A.rel.dj (fun a o z => A.rel.nb z) r)⟩
theorem Rel.freezeS {c : Cy} {b : Option Addr} {ρ : List Sl} {σ : St} {F M M0 : Hp} {i : Nat} {sl : Sl} (R : Rel c b ρ σ F M M0) (e : ρ[i]? = some sl) (hs : isShal sl) :
    ∃ a F' M', σ[i]? = some (some (.ref a)) ∧ HH F M = HH F' M' ∧ Aft c b F M M0 (ρ.set i (.sh (obD sl))) σ F' M' M0 ∧ Dr c F' (.ref a) (obD sl) := by
  obtain ⟨a, o, M', h1, h2, h3, h4, h5, h6, h7, h8⟩ := R.env.own e hs
  have eH : HH F M = HH (upd F a o) M' := by rw [h5, hh_freeze h4]
  have sm : Same F (upd F a o) := Same.updF h3
  have dj : Dj (upd F a o) M' := Dj.updF (fun x u q => R.dj x u (by rw [h5, upd_ne (ne_of_none q h4)]; exact q)) h4
  have r : Dr c (upd F a o) (.ref a) (obD sl) := (h2.leD (.of sm)).dr upd_same
  have m0 : ∀ x u, M0 x = some u → F x = none → (upd F a o) x = none := fun x u q f => by rw [upd_ne (ne_of_none q h6)]; exact f
  have t1 := RelE.leD (LeD.of sm) m0 (M := M') (fun x u q f => by rw [upd_ne (ne_of_none q h4)]; exact f) (h7 (some (.ref a)))
  have hl : i < ρ.length := by
    rcases Nat.lt_or_ge i ρ.length with z | z
    · exact z
    · rw [List.getElem?_eq_none z] at e; cases e
  have t2 := RelE.setSh r t1 (List.getElem?_set_self hl) (fun z => z)
  rw [List.set_set, List.set_set] at t2
  have es : σ.set i (some (.ref a)) = σ := by
    obtain ⟨hi, ei⟩ := List.getElem?_eq_some_iff.mp h1
    rw [← ei]; exact List.set_getElem_self hi
  rw [es] at t2
  refine ⟨a, _, M', h1, eH, ⟨sm, ?_, ⟨dj, t2, fun x q => (R.box x q).leD (.of sm), R.lkS (sm)⟩, MR.refl _ _⟩, r⟩
  rw [← eH]; exact Ext.refl _ _
theorem Rel.freezeT {c : Cy} {b : Option Addr} {ρ : List Sl} {σ : St} {F M M0 : Hp} {i : Nat} {t0 : OT} {x : V} (R : Rel c b ρ σ F M M0) (e : ρ[i]? = some (.od x t0)) :
    ∃ F' M', σ[i]? = some (some x) ∧ HH F M = HH F' M' ∧ Aft c b F M M0 (ρ.set i (.sh (otD t0))) σ F' M' M0 ∧ Dr c F' x (otD t0) := by
  obtain ⟨Mo, M', h1, h2, h3, h4, h5, h6, h7⟩ := R.env.ownT e
  have dF : Dj F Mo := OTR.dj t0 h2
  have sm : Same F (HH F Mo) := dF.same
  have eH : HH F M = HH (HH F Mo) M' := by rw [h4, hh_comm h3, hh_assoc]
  have dj : Dj (HH F Mo) M' := fun a o q => by
    rw [hh_n (h3.mn q)]
    exact R.dj a o (by rw [h4]; exact h3.f q)
  have r : Dr c (HH F Mo) x (otD t0) := OTR.frz sm t0 (fun a o q => hh_m q) h2
  have t1 := RelE.leD (LeD.of sm) (G := HH F Mo) (fun a u q f => by rw [hh_n (h3.mn (h5 a u q))]; exact f) (M := M') (fun a u q f => by rw [hh_n (h3.mn q)]; exact f) (h6 (some x))
  have hl : i < ρ.length := by
    rcases Nat.lt_or_ge i ρ.length with z | z
    · exact z
    · rw [List.getElem?_eq_none z] at e; cases e
  have t2 := RelE.setSh r t1 (List.getElem?_set_self hl) (fun z => z)
  rw [List.set_set, List.set_set] at t2
  have es : σ.set i (some x) = σ := by
    obtain ⟨hi, ei⟩ := List.getElem?_eq_some_iff.mp h1
    rw [← ei]; exact List.set_getElem_self hi
  rw [es] at t2
  refine ⟨_, M', h1, eH, ⟨sm, ?_, ⟨dj, t2, fun y q => (R.box y q).leD (.of sm), R.lkS (sm)⟩, MR.refl _ _⟩, r⟩
  rw [← eH]; exact Ext.refl _ _
def notGh : Sl → Prop
  | .gh _ _ => False
  | _ => True
theorem Rel.freeze {c : Cy} {b : Option Addr} {ρ : List Sl} {σ : St} {F M M0 : Hp} {i : Nat} {sl : Sl} (R : Rel c b ρ σ F M M0) (e : ρ[i]? = some sl) (hs : isOwn sl) (hg : notGh sl) :
    ∃ x F' M', σ[i]? = some (some x) ∧ HH F M = HH F' M' ∧ Aft c b F M M0 (ρ.set i (.sh (obD sl))) σ F' M' M0 ∧ Dr c F' x (obD sl) := by
  rcases own_cases hs with z | ⟨x, t, rfl⟩ | ⟨x, t, rfl⟩
  · obtain ⟨a, F', M', h1, h2, h3, h4⟩ := R.freezeS e z
    exact ⟨.ref a, F', M', h1, h2, h3, h4⟩
  · obtain ⟨F', M', h1, h2, h3, h4⟩ := R.freezeT e
    exact ⟨x, F', M', h1, h2, h3, h4⟩
  · exact hg.elim
theorem Rel.freezeH {c : Cy} {b : Option Addr} {ρ : List Sl} {σ : St} {F M M0 : Hp} {i : Nat} {t0 : D} {x : Addr} (R : Rel c b ρ σ F M M0) (e : ρ[i]? = some (.gh x t0)) :
    ∃ F' M', HH F M = HH F' M' ∧ Aft c b F M M0 (ρ.set i .no) σ F' M' M0 ∧ Dr c F' (.ref x) t0 := by
  obtain ⟨Mo, M', h2, h3, h4, h5, h6, h7⟩ := R.env.ghT e
  have dF : Dj F Mo := OTR.dj (shT t0) h2
  have sm : Same F (HH F Mo) := dF.same
  have eH : HH F M = HH (HH F Mo) M' := by rw [h4, hh_comm h3, hh_assoc]
  have dj : Dj (HH F Mo) M' := fun a o q => by
    rw [hh_n (h3.mn q)]
    exact R.dj a o (by rw [h4]; exact h3.f q)
  have r : Dr c (HH F Mo) (.ref x) t0 := by
    have := OTR.frz sm (shT t0) (fun a o q => hh_m q) h2
    rwa [otD_shT] at this
  have es : σ.set i (σ[i]?.getD none) = σ := by
    cases h : σ[i]? with
    | none => rw [List.set_eq_of_length_le (List.getElem?_eq_none_iff.mp h)]
    | some x =>
      obtain ⟨hi, ei⟩ := List.getElem?_eq_some_iff.mp h
      show σ.set i x = σ
      rw [← ei]; exact List.set_getElem_self hi
  have t1 := RelE.leD (LeD.of sm) (G := HH F Mo) (fun a u q f => by rw [hh_n (h3.mn (h5 a u q))]; exact f) (M := M') (fun a u q f => by rw [hh_n (h3.mn q)]; exact f) (h6 (σ[i]?.getD none))
  rw [es] at t1
  refine ⟨_, M', eH, ⟨sm, ?_, ⟨dj, t1, fun y q => (R.box y q).leD (.of sm), R.lkS (sm)⟩, MR.refl _ _⟩, r⟩
  rw [← eH]; exact Ext.refl _ _
/-- an own thing is given up -/
theorem Rel.drop {c : Cy} {b : Option Addr} {ρ : List Sl} {σ : St} {F M M0 : Hp} {i : Nat} {sl : Sl} (R : Rel c b ρ σ F M M0) (e : ρ[i]? = some sl) (hs : isOwn sl) :
    ∃ F' M' s', ¬ isOwn s' ∧ HH F M = HH F' M' ∧ Aft c b F M M0 (ρ.set i s') σ F' M' M0 := by
  rcases own_cases hs with z | ⟨x, t, rfl⟩ | ⟨x, t, rfl⟩
  · obtain ⟨a, F', M', h1, h2, h3, h4⟩ := R.freezeS e z
    exact ⟨F', M', .sh (obD sl), fun z => z, h2, h3⟩
  · obtain ⟨F', M', h1, h2, h3, h4⟩ := R.freezeT e
    exact ⟨F', M', .sh (otD t), fun z => z, h2, h3⟩
  · obtain ⟨F', M', h2, h3, h4⟩ := R.freezeH e
    exact ⟨F', M', .no, fun z => z, h2, h3⟩
def wVar (i : Nat) : WE := fun ρ Q => match ρ[i]? with
  | some (.sh d) => Q d ρ
  | some (.gh _ _) => False
  | some .no => False
  | some .bx => False
  | some sl => Q (obD sl) (ρ.set i (.sh (obD sl)))
  | none => False
def wPk (i : Nat) : WE := fun ρ Q => match ρ[i]? with
  | some (.od _ _) => False
  | some (.gh _ _) => False
  | some (.sh d) => Q d ρ
  | some .no => False
  | some .bx => False
  | some sl => Q (obD sl) ρ
  | none => False
theorem snd_var {c : Cy} (i : Nat) : Snd c (tVar i) (wVar i) := fun {b ρ σ F M M0} R Qd Q hw k => by
  unfold wVar at hw
  have go : ∀ sl, ρ[i]? = some sl → isOwn sl ∧ notGh sl → Qd (obD sl) (ρ.set i (.sh (obD sl))) → tVar i σ (HH F M) Q := fun sl e hs q => by
    obtain ⟨a, F', M', h1, h2, h3, h4⟩ := R.freeze e hs.1 hs.2
    refine ⟨a, h1, ?_⟩
    rw [h2]
    exact k _ _ _ _ _ _ q h3 h4
  cases e : ρ[i]? with
  | none => rw [e] at hw; exact hw.elim
  | some sl =>
    rw [e] at hw
    cases sl with
    | sh d =>
      obtain ⟨x, h1, h2⟩ := R.env.get e
      exact ⟨x, h1, k d ρ x F M M0 hw R.aft h2⟩
    | no => exact hw.elim
    | bx => exact hw.elim
    | ol ds => exact go _ e ⟨trivial, trivial⟩ hw
    | ok ks ds => exact go _ e ⟨trivial, trivial⟩ hw
    | ot ks ds => exact go _ e ⟨trivial, trivial⟩ hw
    | oi n fs ds => exact go _ e ⟨trivial, trivial⟩ hw
    | od x t0 => exact go _ e ⟨trivial, trivial⟩ hw
    | gh x t0 => exact hw.elim
theorem snp_var {c : Cy} (i : Nat) : Snp c (tVar i) (wPk i) := fun {b ρ σ F M M0} R Qd Q hw k => by
  unfold wPk at hw
  have go : ∀ sl, ρ[i]? = some sl → isShal sl → Qd (obD sl) ρ → tVar i σ (HH F M) Q := fun sl e hs q => by
    obtain ⟨a, o, M', h1, h2, h3, h4, h5, h6, h7, h8⟩ := R.env.own e hs
    refine ⟨.ref a, h1, ?_⟩
    have nb : b ≠ some a := fun z => by
      obtain ⟨_, _, _, q1, _⟩ := R.box a z
      rw [h6] at q1; cases q1
    have hH : HH F M a = some o := hh_m (by rw [h5]; exact upd_same)
    refine k _ ρ _ F M M0 q R.aft ?_
    cases sl with
    | ol ds => obtain ⟨vs, e2, r⟩ := h2; subst e2; exact ⟨a, vs, rfl, nb, hH, r⟩
    | ok ks ds => obtain ⟨vs, e2, r⟩ := h2; subst e2; exact ⟨a, vs, rfl, nb, .inl hH, r⟩
    | ot ks ds => obtain ⟨vs, e2, r⟩ := h2; subst e2; exact ⟨a, vs, rfl, nb, .inl hH, r⟩
    | oi n fs ds => obtain ⟨C, dx, ps, e2, m, r⟩ := h2; subst e2; exact ⟨a, C, dx, ps, rfl, nb, hH, m, r⟩
    | _ => exact hs.elim
  cases e : ρ[i]? with
  | none => rw [e] at hw; exact hw.elim
  | some sl =>
    rw [e] at hw
    cases sl with
    | sh d =>
      obtain ⟨x, h1, h2⟩ := R.env.get e
      exact ⟨x, h1, k d ρ x F M M0 hw R.aft (Rk.of R.dj (fun a o z => R.nb z) h2)⟩
    | no => exact hw.elim
    | bx => exact hw.elim
    | ol ds => exact go _ e trivial hw
    | ok ks ds => exact go _ e trivial hw
    | ot ks ds => exact go _ e trivial hw
    | oi n fs ds => exact go _ e trivial hw
    | od x t0 => exact hw.elim
    | gh x t0 => exact hw.elim
theorem de_var (i : Nat) {x : Str} {pos : Pos} (hN : X.N[i]? = some x := by rfl) (hv : Vis X.env.scope x := by first | exact Or.inl rfl | exact Or.inr (Or.inl rfl) | exact Or.inr (Or.inr rfl)) (hd : (x == ("__debug__" : Str)) = false := by decide)
    (hcd : (x == ("__classdict__" : Str)) = false := by decide) : DE X (.Name x pos) (tVar i) (wVar i) := ⟨pe_var hN hv hd hcd, snd_var i⟩
theorem dp_var (i : Nat) {x : Str} {pos : Pos} (hN : X.N[i]? = some x := by rfl) (hv : Vis X.env.scope x := by first | exact Or.inl rfl | exact Or.inr (Or.inl rfl) | exact Or.inr (Or.inr rfl)) (hd : (x == ("__debug__" : Str)) = false := by decide)
    (hcd : (x == ("__classdict__" : Str)) = false := by decide) : DP X (.Name x pos) (tVar i) (wPk i) := ⟨pe_var hN hv hd hcd, snp_var i⟩
def wC (d : D) : WE := fun ρ Q => Q d ρ
theorem snd_c {c : Cy} {v : V} {d : D} (h : ∀ F, Dr c F v d) : Snd c (tC v) (wC d) := fun {b ρ σ F M M0} R Qd Q hw k => k d ρ v F M M0 hw R.aft (h F)
theorem de_int {i j} : DE X (.Constant (.int i) j pos) (tC (.int i)) (wC (.int i)) := ⟨pe_int, snd_c fun F => by simp only [Dr]⟩
theorem de_bl {i j} : DE X (.Constant (.bool i) j pos) (tC (.bl i)) (wC (.bl i)) := ⟨pe_bl, snd_c fun F => by simp only [Dr]⟩
theorem de_str {x j} : DE X (.Constant (.str x) j pos) (tC (.str x)) (wC (.str x)) := ⟨pe_str, snd_c fun F => by simp only [Dr]⟩
/-- an operation that changes no thing; its result may be new -/
def Rop (c : Cy) (r : R2) (wr : D → D → (D → Prop) → Prop) : Prop := ∀ {b : Option Addr} {F M : Hp} {x y : V} {d1 d2 : D} (Qd : D → Prop) (Q : VK), Dj F M → Rk c b F M x d1 → Rk c b F M y d2 → wr d1 d2 Qd →
  (∀ d v F', Qd d → Same F F' → Dj F' M → (∀ a, F a = none → (M a).isSome = true → F' a = none) → Dr c F' v d → Q v (HH F' M)) → r x y (HH F M) Q
/-- the heap has grown by frozen things -/
theorem Rel.grow {c : Cy} {b : Option Addr} {ρ : List Sl} {σ : St} {F M M0 F' : Hp} (R : Rel c b ρ σ F M M0) (s : Same F F') (dj : Dj F' M) : Aft c b F M M0 ρ σ F' M M0 := by
  refine ⟨s, fun a o _ q => ?_, ⟨dj, RelE.leD (LeD.of s) (fun a o q _ => dj a o (R.env.sub a o q)) (fun a o q _ => dj a o q) R.env, fun a q => (R.box a q).leD (.of s), R.lkS (s)⟩, MR.refl _ _⟩
  rcases hh_some q with z | ⟨z1, z2⟩
  · exact hh_m z
  · rw [hh_n z1]; exact s _ _ z2
def wOp (wr : D → D → (D → Prop) → Prop) (wa wb : WE) : WE := fun ρ Q => wa ρ fun d1 ρ1 => wb ρ1 fun d2 ρ2 => wr d1 d2 fun d => Q d ρ2
theorem snd_op {c : Cy} {r : R2} {wr : D → D → (D → Prop) → Prop} (hr : Rop c r wr) (ha : Snp c ta wa) (hb : Snp c tb wb) : Snd c (tOp r ta tb) (wOp wr wa wb) := fun {b ρ σ F M M0} R Qd Q hw k => by
  refine ha R _ _ hw fun d1 ρ1 x F1 M1 M01 q1 A1 r1 => ?_
  refine hb A1.rel _ _ q1 fun d2 ρ2 y F2 M2 M02 q2 A2 r2 => ?_
  refine hr (b := b) _ _ A2.rel.dj (r1.stay A2.same A2.ext) r2 q2 fun d v F' q s dj nf rv => ?_
  exact k d ρ2 v F' M2 M02 q ((A1.trans A2).trans (A2.rel.grow s dj)) rv
theorem de_op {op : Operator} {r : R2} {wr : D → D → (D → Prop) → Prop} (ho : OpR X (binaryOp op) r) (hr : Rop (cy X) r wr) (ha : DP X a ta wa) (hb : DP X b' tb wb) : DE X (.BinOp a op b' pos) (tOp r ta tb) (wOp wr wa wb) :=
  ⟨pe_op ho ha.pe hb.pe, snd_op hr ha.sn hb.sn⟩
theorem de_cmp {op : CmpOp} {r : R2} {wr : D → D → (D → Prop) → Prop} (ho : OpR X (compareOp op) r) (hr : Rop (cy X) r wr) (ha : DP X a ta wa) (hb : DP X b' tb wb) (hm : behindInMarks op b' = false) : DE X (.Compare a [op] [b'] pos) (tOp r ta tb) (wOp wr wa wb) :=
  ⟨pe_cmpR ho ha.pe hb.pe hm, snd_op hr ha.sn hb.sn⟩
/-- a bool's test -/
def wTst (w : WE) : WT := fun ρ Q => w ρ fun d ρ' => match d with
  | .bl k => Q k ρ'
  | _ => False
theorem snt_test {c : Cy} (h : Snd c te w) : Snt c (tTest te) (wTst w) := fun {b ρ σ F M M0} R Qd Q hw k => by
  refine h R _ _ hw fun d ρ' v F' M' M0' q A r => ?_
  cases d with
  | bl j => simp only [Dr] at r; exact ⟨j, r, k j ρ' F' M' M0' q A⟩
  | _ => exact q.elim
theorem dt_cmp {op : CmpOp} {r : R2} {wr : D → D → (D → Prop) → Prop} (ho : OpR X (compareOp op) r) (hr : Rop (cy X) r wr) (ha : DP X a ta wa) (hb : DP X b' tb wb) (hm : behindInMarks op b' = false) : DT X (.Compare a [op] [b'] pos) (tTest (tOp r ta tb)) (wTst (wOp wr wa wb)) :=
  ⟨pt_cmpR ho ha.pe hb.pe hm, snt_test (snd_op hr ha.sn hb.sn)⟩
/-- a comparison a < b < c -/
def wChain (wr wr' : D → D → (D → Prop) → Prop) (wa wb wc : WE) : WE := fun ρ Q => wa ρ fun d1 ρ1 => wb ρ1 fun d2 ρ2 => wr d1 d2 fun d => match d with
  | .bl true => wc ρ2 fun d3 ρ3 => wr' d2 d3 fun d' => Q d' ρ3
  | .bl false => Q (.bl false) ρ2
  | _ => False
/-- operations on one value -/
def Ro1 (c : Cy) (r : V → Hp → VK → Prop) (wr : D → (D → Prop) → Prop) : Prop := ∀ {b : Option Addr} {F M : Hp} {x : V} {d1 : D} (Qd : D → Prop) (Q : VK), Dj F M → Rk c b F M x d1 → wr d1 Qd →
  (∀ d v F', Qd d → Same F F' → Dj F' M → Dr c F' v d → Q v (HH F' M)) → r x (HH F M) Q
def wUn (wr : D → (D → Prop) → Prop) (wa : WE) : WE := fun ρ Q => wa ρ fun d1 ρ1 => wr d1 fun d => Q d ρ1
theorem snd_un {c : Cy} {r : V → Hp → VK → Prop} {wr : D → (D → Prop) → Prop} (hr : Ro1 c r wr) (ha : Snp c ta wa) : Snd c (tUn r ta) (wUn wr wa) := fun {b ρ σ F M M0} R Qd Q hw k => by
  refine ha R _ _ hw fun d1 ρ1 x F1 M1 M01 q1 A1 r1 => ?_
  refine hr (b := b) _ _ A1.rel.dj r1 q1 fun d v F' q s dj rv => ?_
  exact k d ρ1 v F' M1 M01 q (A1.trans (A1.rel.grow s dj)) rv
theorem de_un {op : UnaryOp} {r : V → Hp → VK → Prop} {wr : D → (D → Prop) → Prop} (ho : UnR X (unaryOp op) r) (hr : Ro1 (cy X) r wr) (ha : DP X a ta wa) : DE X (.UnaryOp op a pos) (tUn r ta) (wUn wr wa) := ⟨pe_un ho ha.pe, snd_un hr ha.sn⟩
variable {tA tB' : TT} {wA wB : WT} {rest : List Expr}
def wAnd (t u : WT) : WT := fun ρ Q => t ρ fun k ρ1 => match k with
  | true => u ρ1 Q
  | false => Q false ρ1
def wOr (t u : WT) : WT := fun ρ Q => t ρ fun k ρ1 => match k with
  | true => Q true ρ1
  | false => u ρ1 Q
def wNot (t : WT) : WT := fun ρ Q => t ρ fun k ρ1 => Q (!k) ρ1
theorem dw_and1 (ha : DT X a tA wA) : DWt X (.BoolOp .And [a] pos) tA wA := ⟨pw_and1 ha.pe, ha.sn⟩
theorem dw_and (ha : DT X a tA wA) (hb : DWt X (.BoolOp .And (b' :: rest) pos) tB' wB) : DWt X (.BoolOp .And (a :: b' :: rest) pos) (tAnd tA tB') (wAnd wA wB) := ⟨pw_and ha.pe hb.pe, fun {b ρ σ F M M0} R Qd Q hw k => by
  refine ha.sn R _ _ hw fun j ρ1 F1 M1 M01 q1 A1 => ?_
  cases j with
  | true =>
    rw [if_pos rfl]
    exact hb.sn A1.rel _ _ q1 fun j ρ2 F2 M2 M02 q2 A2 => k j ρ2 F2 M2 M02 q2 (A1.trans A2)
  | false =>
    rw [if_neg Bool.false_ne_true]
    exact k _ _ _ _ _ q1 A1⟩
theorem DWt.dt (h : DWt X e tA wA) : DT X e tA wA := ⟨h.pe.pt, h.sn⟩
theorem dt_not (ha : DT X a tA wA) : DT X (.UnaryOp .Not a pos) (tNot tA) (wNot wA) := ⟨pt_not ha.pe, fun {b ρ σ F M M0} R Qd Q hw k => ha.sn R _ _ hw fun j ρ1 F1 M1 M01 q1 A1 => k _ ρ1 F1 M1 M01 q1 A1⟩
/-- .. as values -/
def wAndV (wa wb : WE) : WE := fun ρ Q => wa ρ fun d ρ1 => match d with
  | .bl true => wb ρ1 Q
  | .bl false => Q (.bl false) ρ1
  | _ => False
def wOrV (wa wb : WE) : WE := fun ρ Q => wa ρ fun d ρ1 => match d with
  | .bl true => Q (.bl true) ρ1
  | .bl false => wb ρ1 Q
  | _ => False
def wNotV (wa : WE) : WE := fun ρ Q => wa ρ fun d ρ1 => match d with
  | .bl k => Q (.bl (!k)) ρ1
  | _ => False
def wIfE (t : WT) (wa wb : WE) : WE := fun ρ Q => t ρ fun k ρ1 => match k with
  | true => wa ρ1 Q
  | false => wb ρ1 Q
variable {es : List Expr} {t : TA} {wt : WA}
def waNil : WA := fun ρ Q => Q [] ρ
def waCons (w : WE) (wr : WA) : WA := fun ρ Q => w ρ fun d ρ1 => wr ρ1 fun ds ρ2 => Q (d :: ds) ρ2
theorem da_nil : DA X [] tNil waNil := ⟨pa_nil, fun {b ρ σ F M M0} R Qd Q hw k => k [] ρ [] F M M0 hw R.aft .nil⟩
theorem da_cons (ha : DE X e te w) (hr : DA X es t wt) (hs : starEach (e :: es) X.env = (false, eval e X.env) :: starEach es X.env := by rfl) : DA X (e :: es) (tCons te t) (waCons w wt) :=
  ⟨pa_cons ha.pe hr.pe hs, fun {b ρ σ F M M0} R Qd Q hw k => by
    refine ha.sn R _ _ hw fun d ρ1 v F1 M1 M01 q1 A1 r1 => ?_
    exact hr.sn A1.rel _ _ q1 fun ds ρ2 vs F2 M2 M02 q2 A2 r2 => k (d :: ds) ρ2 (v :: vs) F2 M2 M02 q2 (A1.trans A2) (.cons (r1.up A2.same) r2)⟩
def wTup (wt : WA) : WE := fun ρ Q => wt ρ fun ds ρ1 => ds.length ≤ sizeLine ∧ Q (.tup ds) ρ1
theorem de_tup {x1} (h : DA X es t wt) : DE X (.Tuple es x1 pos) (tTup t) (wTup wt) := ⟨pe_tup h.pe, fun {b ρ σ F M M0} R Qd Q hw k => by
  refine h.sn R _ _ hw fun ds ρ1 vs F1 M1 M01 q1 A1 r1 => ⟨by rw [r1.length]; exact q1.1, fun p hp => ?_⟩
  obtain ⟨hf, hm⟩ := hh_none hp
  rw [hh_updF hm]
  have s : Same F1 (upd F1 p (.tup vs)) := Same.updF hf
  refine k _ ρ1 _ _ M1 M01 q1.2 (A1.trans (A1.rel.grow s (A1.rel.dj.updF hm))) ?_
  simp only [Dr]
  exact ⟨p, vs, rfl, upd_same, r1.up s⟩⟩
def wfLst (wt : WA) : List Sl → (Sl → List Sl → Prop) → Prop := fun ρ Q => wt ρ fun ds ρ1 => ds.length ≤ sizeLine ∧ Q (.ol ds) ρ1
theorem df_lst (h : DA X es t wt) : DF X (.List es pos) (tLst t) (wfLst wt) := ⟨pe_lst h.pe, fun {b ρ σ F M M0} R Qd Q hw k => by
  refine h.sn R _ _ hw fun ds ρ1 vs F1 M1 M01 q1 A1 r1 => ⟨by rw [r1.length]; exact q1.1, fun p hp => ?_⟩
  obtain ⟨hf, hm⟩ := hh_none hp
  rw [hh_updM]
  exact k (.ol ds) ρ1 p _ F1 M1 M01 q1.2 A1 trivial ⟨vs, rfl, r1⟩ hf hm⟩
/-- a new own object, frozen at once -/
def wFz (wf : List Sl → (Sl → List Sl → Prop) → Prop) : WE := fun ρ Q => wf ρ fun sl ρ1 => Q (obD sl) ρ1
theorem DF.de {wf : List Sl → (Sl → List Sl → Prop) → Prop} (h : DF X e te wf) : DE X e te (wFz wf) := ⟨h.pe, fun {b ρ σ F M M0} R Qd Q hw k => by
  refine h.sn R _ _ hw fun sl ρ1 a o F1 M1 M01 q1 A1 hs r f m => ?_
  rw [hh_freeze m]
  have s : Same F1 (upd F1 a o) := Same.updF f
  exact k _ ρ1 _ _ M1 M01 q1 (A1.trans (A1.rel.grow s (A1.rel.dj.updF m))) ((r.leD (.of s)).dr upd_same)⟩
end
end DL
namespace DL
open PySem L2
variable [Lk]
structure EnD where
  nx : List Sl → Prop
  rt : D → List Sl → Prop
  bk : List Sl → Prop := fun _ => False
  ct : List Sl → Prop := fun _ => False
abbrev WS := List Sl → EnD → Prop
/-- the ends over heaps follow from the ends over data -/
structure Fin (c : Cy) (b : Option Addr) (F M0 : Hp) (E : EnD) (Dn : Ends) : Prop where
  nx : ∀ ρ σ F' M' M0', E.nx ρ → Same F F' → Rel c b ρ σ F' M' M0' → MR b M0 M0' → Dn.nx σ (HH F' M')
  bk : ∀ ρ σ F' M' M0', E.bk ρ → Same F F' → Rel c b ρ σ F' M' M0' → MR b M0 M0' → Dn.bk σ (HH F' M')
  ct : ∀ ρ σ F' M' M0', E.ct ρ → Same F F' → Rel c b ρ σ F' M' M0' → MR b M0 M0' → Dn.ct σ (HH F' M')
  rt : ∀ d v ρ σ F' M' M0', E.rt d ρ → Same F F' → Rel c b ρ σ F' M' M0' → MR b M0 M0' → Dr c F' v d → Dn.rt v (HH F' M')
def Sns (c : Cy) (ts : TS) (w : WS) : Prop := ∀ {b : Option Addr} {ρ : List Sl} {σ : St} {F M M0 : Hp}, Rel c b ρ σ F M M0 → ∀ (E : EnD) (Dn : Ends), w ρ E → Fin c b F M0 E Dn → ts Dn σ (HH F M)
structure DS (X : Cx) (s : Stmt) (ts : TS) (w : WS) : Prop where
  ps : PS X s ts
  sn : Sns (cy X) ts w
structure DSs (X : Cx) (s : List Stmt) (ts : TS) (w : WS) : Prop where
  ps : PSs X s ts
  sn : Sns (cy X) ts w
section
variable {c : Cy} {b : Option Addr} {F M M0 F1 M1 M01 : Hp} {ρ ρ1 : List Sl} {σ : St} {E : EnD} {Dn : Ends}
theorem Fin.on (f : Fin c b F M0 E Dn) (s : Same F F1) (m : MR b M0 M01) : Fin c b F1 M01 E Dn :=
  ⟨fun ρ σ F' M' M0' e s' r m' => f.nx ρ σ F' M' M0' e (s.trans s') r (m.trans m'), fun ρ σ F' M' M0' e s' r m' => f.bk ρ σ F' M' M0' e (s.trans s') r (m.trans m'),
    fun ρ σ F' M' M0' e s' r m' => f.ct ρ σ F' M' M0' e (s.trans s') r (m.trans m'), fun d v ρ σ F' M' M0' e s' R m' r => f.rt d v ρ σ F' M' M0' e (s.trans s') R (m.trans m') r⟩
/-- all own objects frozen -/
theorem RelE.frzAll : ∀ {ρ : List Sl} {σ : St} {F M : Hp}, RelE c b F M0 ρ σ M → Dj F M → ∃ F', Same F F' ∧ HH F M = HH F' M0 ∧ Dj F' M0
  | [], σ, F, M, h, dj => by
    obtain ⟨_, rfl, _⟩ := h
    exact ⟨F, Same.refl _, rfl, dj⟩
  | s1 :: ρ, σ, F, M, h, dj => by
    obtain ⟨v, σr, e, h⟩ := h
    have own : ∀ sl : Sl, (∃ a o M', v = some (.ref a) ∧ ObR c F sl o ∧ F a = none ∧ M' a = none ∧ M = upd M' a o ∧ RelE c b F M0 ρ σr M') → ∃ F', Same F F' ∧ HH F M = HH F' M0 ∧ Dj F' M0 := fun sl h => by
      obtain ⟨a, o, M', e1, r, f, m, e2, t⟩ := h
      have dj' : Dj F M' := fun x u q => dj x u (by rw [e2, upd_ne (ne_of_none q m)]; exact q)
      have s : Same F (upd F a o) := Same.updF f
      have t' : RelE c b (upd F a o) M0 ρ σr M' := t.leD (.of s) (fun x u q z => by rw [upd_ne (ne_of_none (t.sub _ _ q) m)]; exact z) (fun x u q z => by rw [upd_ne (ne_of_none q m)]; exact z)
      obtain ⟨F', h1, h2, h3⟩ := RelE.frzAll t' (dj'.updF m)
      exact ⟨F', s.trans h1, by rw [e2, hh_freeze m, h2], h3⟩
    cases s1 with
    | no => exact RelE.frzAll h dj
    | sh d => exact RelE.frzAll h.2 dj
    | bx => exact RelE.frzAll h.2 dj
    | ol ds => exact own (.ol ds) h
    | ok ks ds => exact own (.ok ks ds) h
    | ot ks ds => exact own (.ot ks ds) h
    | oi n fs ds => exact own (.oi n fs ds) h
    | od x t0 =>
      obtain ⟨Mo, M', e1, r, d, e2, t⟩ := h
      have dF : Dj F Mo := OTR.dj t0 r
      have s : Same F (HH F Mo) := dF.same
      have dj' : Dj (HH F Mo) M' := fun a o q => by
        rw [hh_n (d.mn q)]
        exact dj a o (by rw [e2]; exact d.f q)
      have t' : RelE c b (HH F Mo) M0 ρ σr M' := t.leD (.of s) (fun y u q z => by rw [hh_n (d.mn (t.sub _ _ q))]; exact z) (fun y u q z => by rw [hh_n (d.mn q)]; exact z)
      obtain ⟨F', h1, h2, h3⟩ := RelE.frzAll t' dj'
      exact ⟨F', s.trans h1, by rw [e2, hh_comm d, hh_assoc, h2], h3⟩
    | gh x t0 =>
      obtain ⟨Mo, M', r, d, e2, t⟩ := h
      have dF : Dj F Mo := OTR.dj (shT t0) r
      have s : Same F (HH F Mo) := dF.same
      have dj' : Dj (HH F Mo) M' := fun a o q => by
        rw [hh_n (d.mn q)]
        exact dj a o (by rw [e2]; exact d.f q)
      have t' : RelE c b (HH F Mo) M0 ρ σr M' := t.leD (.of s) (fun y u q z => by rw [hh_n (d.mn (t.sub _ _ q))]; exact z) (fun y u q z => by rw [hh_n (d.mn q)]; exact z)
      obtain ⟨F', h1, h2, h3⟩ := RelE.frzAll t' dj'
      exact ⟨F', s.trans h1, by rw [e2, hh_comm d, hh_assoc, h2], h3⟩
/-- a shared value comes to a slot -/
theorem Rel.set {x : V} {d : D} {i : Nat} {sl : Sl} (R : Rel c b ρ σ F M M0) (q : Dr c F x d) (e : ρ[i]? = some sl) :
    ∃ F' M', HH F M = HH F' M' ∧ Same F F' ∧ Rel c b (ρ.set i (.sh d)) (σ.set i (some x)) F' M' M0 := by
  by_cases hs : isOwn sl
  · obtain ⟨F', M', s', n', h2, A⟩ := R.drop e hs
    have hl : i < ρ.length := by
      rcases Nat.lt_or_ge i ρ.length with z | z
      · exact z
      · rw [List.getElem?_eq_none z] at e; cases e
    have t := RelE.setSh (q.up A.same) A.rel.env (List.getElem?_set_self hl) n'
    rw [List.set_set] at t
    exact ⟨F', M', h2, A.same, A.rel.dj, t, A.rel.box, A.rel.lk⟩
  · exact ⟨F, M, rfl, Same.refl _, R.dj, R.env.setSh q e hs, R.box, R.lk⟩
end
section
variable {X : Cx} {st : Stmt} {rest : List Stmt} {t u : TS} {wt wu : WS} {e : Expr} {te : TE} {w : WE} {pos : Pos}
def wNext : WS := fun ρ E => E.nx ρ
def wSeq (w1 w2 : WS) : WS := fun ρ E => w1 ρ { E with nx := fun ρ' => w2 ρ' E }
theorem dss_nil : DSs X [] tNext wNext := ⟨pss_nil, fun {b ρ σ F M M0} R E Dn hw f => f.nx ρ σ F M M0 hw (Same.refl _) R (MR.refl _ _)⟩
theorem sns_seq {c : Cy} (h1 : Sns c t wt) (h2 : Sns c u wu) : Sns c (tSeq t u) (wSeq wt wu) := fun {b ρ σ F M M0} R E Dn hw f =>
  h1 R _ { Dn with nx := u Dn } hw ⟨fun ρ' σ' F' M' M0' e s r m => h2 r E Dn e (f.on s m), f.bk, f.ct, f.rt⟩
theorem dss_cons (h1 : DS X st t wt) (h2 : DSs X rest u wu) : DSs X (st :: rest) (tSeq t u) (wSeq wt wu) := ⟨pss_cons h1.ps h2.ps, sns_seq h1.sn h2.sn⟩
theorem dss_one (h1 : DS X st t wt) : DSs X [st] t wt := ⟨pss_one h1.ps, h1.sn⟩
def wBreak : WS := fun ρ E => E.bk ρ
def wCont : WS := fun ρ E => E.ct ρ
def wDrop (w : WE) : WS := fun ρ E => w ρ fun _ ρ1 => E.nx ρ1
def wRet (w : WE) : WS := fun ρ E => w ρ fun d ρ1 => E.rt d ρ1
theorem ds_ret (he : DE X e te w) : DS X (.Return (some e) pos) (tRet te) (wRet w) := ⟨ps_ret he.pe, fun {b ρ σ F M M0} R E Dn hw f =>
  he.sn R _ _ hw fun d ρ1 v F1 M1 M01 q A r => f.rt d v ρ1 σ F1 M1 M01 q A.same A.rel A.mr r⟩
def wRetN : WS := fun ρ E => E.rt .non ρ
def wIf (wc : WT) (w1 w2 : WS) : WS := fun ρ E => wc ρ fun k ρ1 => match k with
  | true => w1 ρ1 E
  | false => w2 ρ1 E
theorem ds_if {c : Expr} {a b : List Stmt} {tc : TT} {wc : WT} (hc : DT X c tc wc) (ha : DSs X a t wt) (hb : DSs X b u wu) : DS X (.If c a b pos) (tIfS tc t u) (wIf wc wt wu) := ⟨ps_if hc.pe ha.ps hb.ps, fun {b ρ σ F M M0} R E Dn hw f => by
  refine hc.sn R _ _ hw fun k ρ1 F1 M1 M01 q A => ?_
  cases k with
  | true =>
    rw [if_pos rfl]
    exact ha.sn A.rel E Dn q (f.on A.same A.mr)
  | false =>
    rw [if_neg Bool.false_ne_true]
    exact hb.sn A.rel E Dn q (f.on A.same A.mr)⟩
abbrev WG := D → List Sl → (List Sl → Prop) → Prop
def Sng (c : Cy) (g : TG) (w : WG) (is : List Nat) : Prop := ∀ {b : Option Addr} {ρ : List Sl} {σ : St} {F M M0 : Hp} {v : V} {d : D}, Rel c b ρ σ F M M0 → Dr c F v d → ∀ (Qd : List Sl → Prop) (Q : St → Hp → Prop), w d ρ Qd →
  (∀ ρ' σ' F' M' M0', Qd ρ' → Same F F' → Ext b (HH F M) (HH F' M') → Rel c b ρ' σ' F' M' M0' → MR b M0 M0' → (∀ vs : List Nat, (∀ i ∈ is, i ∈ vs) → wipe σ' vs = wipe σ vs) → Q σ' (HH F' M')) → g v σ (HH F M) Q
structure DG (X : Cx) (e : Expr) (g : TG) (w : WG) (is : List Nat) : Prop where
  pg : PG X e g
  sn : Sng (cy X) g w is
theorem wipe_out {σ : St} {i : Nat} {x : Option V} : ∀ {vs : List Nat}, i ∉ vs → wipe (σ.set i x) vs = (wipe σ vs).set i x
  | [], _ => rfl
  | v :: vs, h => by
    have h1 : v ≠ i := fun e => h (by rw [e]; exact List.mem_cons_self)
    have h2 : i ∉ vs := fun e => h (List.mem_cons_of_mem _ e)
    unfold wipe
    rw [wipe_out h2, List.set_comm _ _ h1]
theorem wipe_in {σ : St} {i : Nat} {x : Option V} : ∀ {vs : List Nat}, i ∈ vs → wipe (σ.set i x) vs = wipe σ vs
  | [], h => absurd h (by simp)
  | v :: vs, h => by
    by_cases h2 : i ∈ vs
    · unfold wipe
      rw [wipe_in h2]
    · have e : i = v := (List.mem_cons.mp h).resolve_right h2
      subst e
      unfold wipe
      rw [wipe_out h2, List.set_set]
/-- a slot is stored -/
def wSt (i : Nat) (d : D) (ρ : List Sl) (Q : List Sl → Prop) : Prop := match ρ[i]? with
  | some _ => Q (ρ.set i (.sh d))
  | none => False
theorem sng_name {c : Cy} (i : Nat) : Sng c (gName i) (wSt i) [i] := fun {b ρ σ F M M0 v d} R r Qd Q hw k => by
  unfold wSt at hw
  cases e : ρ[i]? with
  | none => rw [e] at hw; exact hw.elim
  | some sl =>
    rw [e] at hw
    obtain ⟨F', M', eh, s, R'⟩ := R.set r e
    show Q (σ.set i (some v)) (HH F M)
    rw [eh]
    refine k _ _ F' M' M0 hw s ?_ R' (MR.refl _ _) fun vs hv => wipe_in (hv i (by simp))
    rw [eh]; exact Ext.refl _ _
theorem dg_name {i : Nat} {x : Str} (hN : X.N.Nodup) (hi : X.N[i]? = some x) (hx : Loc X.env.scope x) (hf : X.fn x = true ∨ X.env.scope.names.lookup x = some .local := by first | exact .inl rfl | exact .inr rfl | assumption) : DG X (.Name x pos) (gName i) (wSt i) [i] :=
  ⟨pg_name hN hi hx hf, sng_name i⟩
/-- several names -/
def gNames : List Nat → TGs
  | [] => gNil
  | i :: r => gCons (gName i) (gNames r)
def wStL : List Nat → List D → List Sl → (List Sl → Prop) → Prop
  | [], ds, ρ, Q => match ds with
    | [] => Q ρ
    | _ :: _ => False
  | i :: r, ds, ρ, Q => match ds with
    | [] => False
    | d :: ds => wSt i d ρ fun ρ1 => wStL r ds ρ1 Q
theorem sngs_names {c : Cy} : ∀ (is : List Nat) {b : Option Addr} {ρ : List Sl} {σ : St} {F M M0 : Hp} {vs : List V} {ds : List D}, Rel c b ρ σ F M M0 → DrL c F vs ds → ∀ (Qd : List Sl → Prop) (Q : St → Hp → Prop), wStL is ds ρ Qd →
    (∀ ρ' σ' F' M' M0', Qd ρ' → Same F F' → Ext b (HH F M) (HH F' M') → Rel c b ρ' σ' F' M' M0' → MR b M0 M0' → (∀ vs : List Nat, (∀ i ∈ is, i ∈ vs) → wipe σ' vs = wipe σ vs) → Q σ' (HH F' M')) → gNames is vs σ (HH F M) Q
  | [], b, ρ, σ, F, M, M0, vs, ds, R, r, Qd, Q, hw, k => by
    cases ds with
    | nil => exact ⟨r.nil_iff, k ρ σ F M M0 hw (Same.refl _) (Ext.refl _ _) R (MR.refl _ _) fun _ _ => rfl⟩
    | cons d ds => exact hw.elim
  | i :: is, b, ρ, σ, F, M, M0, vs, ds, R, r, Qd, Q, hw, k => by
    cases ds with
    | nil => exact hw.elim
    | cons d ds =>
      obtain ⟨v, vr, rfl, r1, r2⟩ := r.cons_iff
      refine ⟨v, vr, rfl, ?_⟩
      have hw : wSt i d ρ fun ρ1 => wStL is ds ρ1 Qd := hw
      refine sng_name i R r1 _ _ hw fun ρ1 σ1 F1 M1 M01 q s x R1 m z => ?_
      exact sngs_names is R1 (r2.up s) Qd Q q fun ρ2 σ2 F2 M2 M02 q2 s2 x2 R2 m2 z2 => k ρ2 σ2 F2 M2 M02 q2 (s.trans s2) (x.trans x2) R2 (m.trans m2) fun vs hv =>
        (z2 vs fun j hj => hv j (List.mem_cons_of_mem _ hj)).trans (z vs fun j hj => hv j (by rw [List.mem_singleton.mp hj]; exact List.mem_cons_self))
def wTp (is : List Nat) : WG := fun d ρ Q => match d with
  | .tup ds => ds.length = is.length ∧ wStL is ds ρ Q
  | _ => False
theorem sng_tup {c : Cy} (is : List Nat) {n : Nat} (hn : n = is.length) : Sng c (gTup c.K n (gNames is)) (wTp is) is := fun {b ρ σ F M M0 v d} R r Qd Q hw k => by
  cases d with
  | tup ds =>
    simp only [Dr] at r
    obtain ⟨a, vs, e, q, rl⟩ := r
    exact ⟨a, vs, e, SqT.of (R.dj.f q), by rw [rl.length, hn]; exact hw.1, sngs_names is R rl Qd Q hw.2 k⟩
  | _ => exact hw.elim
theorem dg_tup {es : List Expr} {k : Nat} (is : List Nat) (hc : X.calm = true) (h : PGs X es (gNames is)) (hn : (assignEach es X.env).length = is.length := by rfl) (hst : (assignEach es X.env).findIdx? (·.1) = none := by rfl) : DG X (.Tuple es k pos) (gTup X.K is.length (gNames is)) (wTp is) is :=
  ⟨pg_tup hc h hn hst, sng_tup (c := cy X) is rfl⟩
theorem gs_nil : PGs X [] (gNames []) := pgs_nil
theorem gs_cons {es : List Expr} {x : Str} {p : Pos} {i : Nat} {is : List Nat} (hN : X.N.Nodup) (hi : X.N[i]? = some x) (hx : Loc X.env.scope x) (hr : PGs X es (gNames is))
    (hs : (assignEach (.Name x p :: es) X.env).map (·.2) = assign (.Name x p) X.env :: (assignEach es X.env).map (·.2) := by rfl) (hf : X.fn x = true ∨ X.env.scope.names.lookup x = some .local := by first | exact .inl rfl | exact .inr rfl | assumption) : PGs X (.Name x p :: es) (gNames (i :: is)) :=
  pgs_cons (pg_name hN hi hx hf) hr hs
def wAsg (w : WE) (g : WG) : WS := fun ρ E => w ρ fun d ρ1 => g d ρ1 E.nx
theorem sns_asg {c : Cy} {g : TG} {wg : WG} {is : List Nat} (he : Snd c te w) (hg : Sng c g wg is) : Sns c (tAsg te g) (wAsg w wg) := fun {b ρ σ F M M0} R E Dn hw f =>
  he R _ _ hw fun d ρ1 v F1 M1 M01 q A r => hg A.rel r _ _ q fun ρ2 σ2 F2 M2 M02 q2 s x R2 m _ => f.nx ρ2 σ2 F2 M2 M02 q2 (A.same.trans s) R2 (A.mr.trans m)
theorem ds_asg {tg : Expr} {g : TG} {wg : WG} {is : List Nat} (he : DE X e te w) (hg : DG X tg g wg is) (hs : swapsWithSole [tg] e pos.line X.env = pure false := by rfl) (hw : swappedStores [tg] e X.env = pure none := by rfl)
    (h1 : (assignEach [tg] X.env).map (·.2) = [assign tg X.env] := by rfl) : DS X (.Assign [tg] e pos) (tAsg te g) (wAsg w wg) := ⟨ps_asg he.pe hg.pg hs hw h1, sns_asg he.sn hg.sn⟩
theorem ds_set {i : Nat} {x : Str} {pos' : Pos} (hN : X.N.Nodup) (hi : X.N[i]? = some x) (hx : Loc X.env.scope x) (he : DE X e te w) (hs : swapsWith e (some (.Name x pos')) pos.line X.env = pure false := by rfl) (hf : X.fn x = true ∨ X.env.scope.names.lookup x = some .local := by first | exact .inl rfl | exact .inr rfl | assumption) :
    DS X (.Assign [.Name x pos'] e pos) (tAsg te (gName i)) (wAsg w (wSt i)) := ⟨ps_set hN hi hx he.pe hs hf, sns_asg he.sn (sng_name i)⟩
/-- the name gets a new own object -/
def wAsgO (wf : List Sl → (Sl → List Sl → Prop) → Prop) (i : Nat) : WS := fun ρ E => wf ρ fun sl ρ1 => match ρ1[i]? with
  | some _ => E.nx (ρ1.set i sl)
  | none => False
theorem sns_asgO {c : Cy} {wf : List Sl → (Sl → List Sl → Prop) → Prop} {i : Nat} (he : Snf c te wf) : Sns c (tAsg te (gName i)) (wAsgO wf i) := fun {b ρ σ F M M0} R E Dn hw f =>
  he R _ _ hw fun sl ρ1 a o F1 M1 M01 q A hs r fr m => by
    cases e : ρ1[i]? with
    | none => simp only [e] at q
    | some s0 =>
      simp only [e] at q
      -- first forget what stood there
      have key : ∃ F' M', Same F1 F' ∧ HH F1 M1 = HH F' M' ∧ F' a = none ∧ M' a = none ∧ Dj F' M' ∧ RelE c b F' M01 (ρ1.set i .no) σ M' := by
        have es : σ.set i (σ[i]?.getD none) = σ := by
          cases h : σ[i]? with
          | none => rw [List.set_eq_of_length_le (List.getElem?_eq_none_iff.mp h)]
          | some x =>
            obtain ⟨hi, ei⟩ := List.getElem?_eq_some_iff.mp h
            show σ.set i x = σ
            rw [← ei]; exact List.set_getElem_self hi
        by_cases h0 : isOwn s0
        · obtain ⟨F', M', s', n', h2, A'⟩ := A.rel.drop e h0
          have hl : i < ρ1.length := by
            rcases Nat.lt_or_ge i ρ1.length with z | z
            · exact z
            · rw [List.getElem?_eq_none z] at e; cases e
          have t := RelE.forget (x := σ[i]?.getD none) A'.rel.env (List.getElem?_set_self hl) n'
          rw [List.set_set, es] at t
          have hn : HH F' M' a = none := by rw [← h2, hh_n m]; exact fr
          obtain ⟨n1, n2⟩ := hh_none hn
          exact ⟨F', M', A'.same, h2, n1, n2, A'.rel.dj, t⟩
        · have t := RelE.forget (x := σ[i]?.getD none) A.rel.env e h0
          rw [es] at t
          exact ⟨F1, M1, Same.refl _, rfl, fr, m, A.rel.dj, t⟩
      obtain ⟨F', M', s, eh, n1, n2, dj, t⟩ := key
      have hl : i < ρ1.length := by
        rcases Nat.lt_or_ge i ρ1.length with z | z
        · exact z
        · rw [List.getElem?_eq_none z] at e; cases e
      have t2 := RelE.setOw hs (r.leD (.of s)) n1 t n2 (List.getElem?_set_self hl) (fun z => z)
      rw [List.set_set] at t2
      show Dn.nx (σ.set i (some (.ref a))) (HH F1 (upd M1 a o))
      rw [← hh_updM, eh, hh_updM]
      exact f.nx _ _ F' _ M01 q (A.same.trans s) ⟨dj.updM n1, t2, fun x z => (A.rel.box x z).leD (.of s), A.rel.lkS (s)⟩ A.mr
theorem ds_setO {i : Nat} {x : Str} {pos' : Pos} {wf : List Sl → (Sl → List Sl → Prop) → Prop} (hN : X.N.Nodup) (hi : X.N[i]? = some x) (hx : Loc X.env.scope x) (he : DF X e te wf) (hs : swapsWith e (some (.Name x pos')) pos.line X.env = pure false := by rfl) (hf : X.fn x = true ∨ X.env.scope.names.lookup x = some .local := by first | exact .inl rfl | exact .inr rfl | assumption) :
    DS X (.Assign [.Name x pos'] e pos) (tAsg te (gName i)) (wAsgO wf i) := ⟨ps_set hN hi hx he.pe hs hf, sns_asgO he.sn⟩
/-- name op= e -/
def wAug (i : Nat) (wr : D → D → (D → Prop) → Prop) (w : WE) : WS := fun ρ E => match ρ[i]? with
  | some (.sh d0) => w ρ fun d ρ1 => wr d0 d fun d' => wSt i d' ρ1 E.nx
  | _ => False
end
/-- what is walked yields these data -/
def ItOk (c : Cy) (J : It) (F : Hp) (ds : List D) : Prop := ∀ (F' M' : Hp), Same F F' → Dj F' M' → NT M' → ∀ i, (∀ d, ds[i]? = some d → J.go i (HH F' M') ∧ ∀ x H3, J.yld i (HH F' M') x H3 → ∃ F3, H3 = HH F3 M' ∧ Same F' F3 ∧ Dj F3 M' ∧ Dr c F3 x d) ∧ (ds.length = i → J.stop i (HH F' M'))
def Sni (c : Cy) (wi : TI) (w : WA) : Prop := ∀ {b : Option Addr} {ρ : List Sl} {σ : St} {F M M0 : Hp}, Rel c b ρ σ F M M0 → ∀ (Qd : List D → List Sl → Prop) (Q : It → Hp → Prop), w ρ Qd →
  (∀ ds ρ' J F' M' M0', Qd ds ρ' → Aft c b F M M0 ρ' σ F' M' M0' → ItOk c J F' ds → Q J (HH F' M')) → wi σ (HH F M) Q
structure DI (X : Cx) (tg iter : Expr) (wi : TI) (w : WA) : Prop where
  pi : PI X tg iter wi
  sn : Sni (cy X) wi w
def wForL (wg : WG) (wb : WS) : List D → WS
  | [], ρ, E => E.nx ρ
  | d :: ds, ρ, E => wg d ρ fun ρ1 => wb ρ1 { nx := fun ρ2 => wForL wg wb ds ρ2 E, ct := fun ρ2 => wForL wg wb ds ρ2 E, bk := E.nx, rt := E.rt }
def wFor (wi : WA) (wg : WG) (wb : WS) : WS := fun ρ E => wi ρ fun ds ρ1 => wForL wg wb ds ρ1 E
/-- what is walked, from one state -/
def SniAt (c : Cy) (wi : TI) (w : WA) (b : Option Addr) (ρ : List Sl) (σ : St) (F M M0 : Hp) : Prop := ∀ (Qd : List D → List Sl → Prop) (Q : It → Hp → Prop), w ρ Qd →
  (∀ ds ρ' J F' M' M0', Qd ds ρ' → Aft c b F M M0 ρ' σ F' M' M0' → ItOk c J F' ds → Q J (HH F' M')) → wi σ (HH F M) Q
theorem sns_for_at {c : Cy} {wi : TI} {g : TG} {tb : TS} {w : WA} {wg : WG} {wb : WS} {is : List Nat} {b : Option Addr} {ρ : List Sl} {σ : St} {F M M0 : Hp} (R : Rel c b ρ σ F M M0) (hi : SniAt c wi w b ρ σ F M M0) (hg : Sng c g wg is) (hb : Sns c tb wb) (E : EnD) (Dn : Ends) (hw : wFor w wg wb ρ E) (f : Fin c b F M0 E Dn) :
    tFor wi g tb Dn σ (HH F M) := by
  refine hi _ _ hw fun ds ρ1 J F1 M1 M01 q A it => ?_
  refine ⟨fun i m σ' H' => m = ds.length - i ∧ i ≤ ds.length ∧ ∃ ρ' F' M' M0', H' = HH F' M' ∧ Same F1 F' ∧ Rel c b ρ' σ' F' M' M0' ∧ MR b M01 M0' ∧ wForL wg wb (ds.drop i) ρ' E,
    ⟨ds.length, by simp, Nat.zero_le _, ρ1, F1, M1, M01, rfl, Same.refl _, A.rel, MR.refl _ _, q⟩, ?_⟩
  rintro i m σ' H' ⟨rfl, hil, ρ', F', M', M0', rfl, s, R', mr, hw'⟩
  by_cases hlt : i < ds.length
  · have ed : ds.drop i = ds[i] :: ds.drop (i + 1) := List.drop_eq_getElem_cons hlt
    rw [ed] at hw'
    have hd : ds[i]? = some ds[i] := List.getElem?_eq_getElem hlt
    refine .inr ⟨((it F' M' s R'.dj R'.env.nt i).1 _ hd).1, fun σ2 H2 => i + 1 ≤ ds.length ∧ ∃ ρ' F' M' M0', H2 = HH F' M' ∧ Same F1 F' ∧ Rel c b ρ' σ2 F' M' M0' ∧ MR b M01 M0' ∧ wForL wg wb (ds.drop (i + 1)) ρ' E,
      fun σ2 H2 n2 => ⟨ds.length - (i + 1), by omega, rfl, n2.1, n2.2⟩, fun x H3 hy => ?_⟩
    obtain ⟨F3, rfl, s3, dj3, r3⟩ := ((it F' M' s R'.dj R'.env.nt i).1 _ hd).2 x H3 hy
    have A3 := R'.grow s3 dj3
    refine hg A3.rel r3 _ _ hw' fun ρ4 σ4 F4 M4 M04 q4 s4 x4 R4 m4 _ => ?_
    have sAll := (s.trans s3).trans s4
    have mAll := mr.trans m4
    refine hb R4 _ { Dn with nx := _, ct := _, bk := Dn.nx } q4 ⟨fun ρ5 σ5 F5 M5 M05 e5 s5 R5 m5 => ⟨hlt, ρ5, F5, M5, M05, rfl, sAll.trans s5, R5, mAll.trans m5, e5⟩,
      fun ρ5 σ5 F5 M5 M05 e5 s5 R5 m5 => f.nx ρ5 σ5 F5 M5 M05 e5 ((A.same.trans sAll).trans s5) R5 ((A.mr.trans mAll).trans m5),
      fun ρ5 σ5 F5 M5 M05 e5 s5 R5 m5 => ⟨hlt, ρ5, F5, M5, M05, rfl, sAll.trans s5, R5, mAll.trans m5, e5⟩,
      fun d v ρ5 σ5 F5 M5 M05 e5 s5 R5 m5 r5 => f.rt d v ρ5 σ5 F5 M5 M05 e5 ((A.same.trans sAll).trans s5) R5 ((A.mr.trans mAll).trans m5) r5⟩
  · have e : i = ds.length := by omega
    subst e
    rw [List.drop_length] at hw'
    exact .inl ⟨(it F' M' s R'.dj R'.env.nt _).2 rfl, f.nx ρ' σ' F' M' M0' hw' (A.same.trans s) R' (A.mr.trans mr)⟩
theorem sns_for {c : Cy} {wi : TI} {g : TG} {tb : TS} {w : WA} {wg : WG} {wb : WS} {is : List Nat} (hi : Sni c wi w) (hg : Sng c g wg is) (hb : Sns c tb wb) : Sns c (tFor wi g tb) (wFor w wg wb) := fun {b ρ σ F M M0} R E Dn hw f => sns_for_at R (hi R) hg hb E Dn hw f
section
variable {X : Cx} {pos : Pos} {tg iter : Expr} {body : List Stmt} {wi : TI} {w : WA} {g : TG} {wg : WG} {tb : TS} {wb : WS}
theorem ds_for (hp : PassesOwn (model X.prog X.w) X.A X.env X.xe) (hc : X.calm = true) {is : List Nat} (hi : DI X tg iter wi w) (hg : DG X tg g wg is) (hb : DSs X body tb wb)
    (hs : ∀ x, foldedSetIterable iter X.env x = pure x := by intro _; rfl) : DS X (.For tg iter body [] pos) (tFor wi g tb) (wFor w wg wb) := ⟨ps_for hp hc hi.pi hg.pg hb.ps hs, sns_for hi.sn hg.sn hb.sn⟩
/-- over a frozen list -/
def wItL (w : WE) : WA := fun ρ Q => w ρ fun d ρ1 => match d with
  | .lst ds => Q ds ρ1
  | _ => False
theorem itl_ok {c : Cy} {F : Hp} {a : Addr} {vs : List V} {ds : List D} (h : F a = some (.lst vs)) (r : DrL c F vs ds) : ItOk c (Itl c.K a) F ds := fun F' M' s dj _ i => by
  have q : SqL c.K (HH F' M') a vs := SqL.of (dj.f (s _ _ h))
  refine ⟨fun d hd => ?_, fun e => ⟨vs, q, by rw [r.length]; omega⟩⟩
  obtain ⟨v, hv, rv⟩ := r.get hd
  refine ⟨⟨vs, v, q, hv⟩, fun x H3 hy => ?_⟩
  obtain ⟨rfl, hy⟩ := hy
  have e : x = v := Option.some.inj ((hy vs q).symm.trans hv)
  subst e
  exact ⟨F', rfl, Same.refl _, dj, rv.up s⟩
theorem di_list {e : Expr} {te : TE} {w : WE} (h : DE X e te w) : DI X tg e (iList X.K te) (wItL w) := ⟨pi_list h.pe, fun {b ρ σ F M M0} R Qd Q hw k => by
  refine h.sn R _ _ hw fun d ρ1 v F1 M1 M01 q A r => ?_
  cases d with
  | lst ds =>
    simp only [Dr] at r
    obtain ⟨a, vs, rfl, ha, rl⟩ := r
    exact ⟨a, rfl, ⟨vs, SqL.of (A.rel.dj.f ha)⟩, k ds ρ1 _ F1 M1 M01 q A (itl_ok (c := cy X) ha rl)⟩
  | _ => exact q.elim⟩
/-- over a tuple -/
def wItT (w : WE) : WA := fun ρ Q => w ρ fun d ρ1 => match d with
  | .tup ds => Q ds ρ1
  | _ => False
/-- over a range -/
def rangeD (lo hi : Int) : List D := (List.range (hi - lo).toNat).map fun i => D.int (lo + (i : Nat))
theorem itr_ok {c : Cy} {F : Hp} (lo : Int) (n : Nat) : ItOk c (Itr lo n) F ((List.range n).map fun i => D.int (lo + (i : Nat))) := fun F' M' s dj _ i => by
  refine ⟨fun d hd => ?_, fun e => ?_⟩
  · rw [List.getElem?_map] at hd
    have hi : i < n := by
      rcases Nat.lt_or_ge i n with z | z
      · exact z
      · rw [List.getElem?_eq_none (by simpa using z)] at hd; cases hd
    rw [List.getElem?_range hi] at hd
    have e : D.int (lo + (i : Nat)) = d := Option.some.inj hd
    subst e
    refine ⟨hi, fun x H3 hy => ?_⟩
    obtain ⟨rfl, rfl⟩ := hy
    exact ⟨F', rfl, Same.refl _, dj, by simp only [Dr]⟩
  · simp at e
    show n ≤ i
    omega
def wRg1 (wt : WA) : WA := fun ρ Q => wt ρ fun ds ρ1 => match ds with
  | [.int j] => (-(2 ^ 62) ≤ j ∧ j < 2 ^ 62) ∧ Q (rangeD 0 j) ρ1
  | _ => False
def wRg2 (wt : WA) : WA := fun ρ Q => wt ρ fun ds ρ1 => match ds with
  | [.int i, .int j] => (-(2 ^ 62) ≤ i ∧ i < 2 ^ 62 ∧ -(2 ^ 62) ≤ j ∧ j < 2 ^ 62) ∧ Q (rangeD i j) ρ1
  | _ => False
theorem di_range1 {a : Expr} {ta : TA} {wt : WA} {p pos : Pos} (hg : Gl X "range") (hm : X.mg "range" = none) (ha : DA X [a] ta wt) (hs : starEach [a] X.env = [(false, eval a X.env)] := by rfl) : DI X tg (.Call (.Name "range" p) [a] [] pos) (iRng1 ta) (wRg1 wt) :=
  ⟨pi_range1 hg hm ha.pe hs, fun {b ρ σ F M M0} R Qd Q hw k => by
    refine ha.sn R _ _ hw fun ds ρ1 vs F1 M1 M01 q A r => ?_
    match ds, q, r with
    | [.int j], ⟨⟨q1, q2⟩, q⟩, r =>
      obtain ⟨v, vr, rfl, r1, r2⟩ := r.cons_iff
      simp only [Dr] at r1
      have e2 := r2.nil_iff
      subst r1 e2
      refine ⟨j, rfl, q1, q2, k _ ρ1 _ F1 M1 M01 q A ?_⟩
      have h := itr_ok (c := cy X) (F := F1) 0 j.toNat
      unfold rangeD
      rw [Int.sub_zero]
      exact h⟩
theorem di_range2 {a a' : Expr} {ta : TA} {wt : WA} {p pos : Pos} (hg : Gl X "range") (hm : X.mg "range" = none) (ha : DA X [a, a'] ta wt) (hs : starEach [a, a'] X.env = [(false, eval a X.env), (false, eval a' X.env)] := by rfl) (hs2 : starEach [a'] X.env = [(false, eval a' X.env)] := by rfl) :
    DI X tg (.Call (.Name "range" p) [a, a'] [] pos) (iRng2 ta) (wRg2 wt) :=
  ⟨pi_range2 hg hm ha.pe hs hs2, fun {b ρ σ F M M0} R Qd Q hw k => by
    refine ha.sn R _ _ hw fun ds ρ1 vs F1 M1 M01 q A r => ?_
    match ds, q, r with
    | [.int i, .int j], ⟨q0, q⟩, r =>
      obtain ⟨v, vr, rfl, r1, r2⟩ := r.cons_iff
      obtain ⟨v', vr', rfl, r1', r2'⟩ := r2.cons_iff
      simp only [Dr] at r1 r1'
      have e2 := r2'.nil_iff
      subst r1 r1' e2
      exact ⟨i, j, rfl, q0, k _ ρ1 _ F1 M1 M01 q A (itr_ok (c := cy X) (F := F1) i (j - i).toNat)⟩⟩
end
end DL
namespace DL
open PySem PySem.Spec PyProof.Rows L2
variable [Lk]
def wipeD (ρ : List Sl) : List Nat → List Sl
  | [] => ρ
  | v :: vs => (wipeD ρ vs).set v .no
def noOwnB (ρ : List Sl) (vs : List Nat) : Bool := vs.all fun i => match ρ[i]? with
  | some (.ol _) => false
  | some (.ok _ _) => false
  | some (.ot _ _) => false
  | some (.oi _ _ _) => false
  | some (.od _ _) => false
  | some (.gh _ _) => false
  | _ => true
theorem noOwn_of {ρ : List Sl} {vs : List Nat} (h : noOwnB ρ vs = true) : ∀ i ∈ vs, ∀ sl, ρ[i]? = some sl → ¬ isOwn sl := fun i hi sl e ho => by
  have q := List.all_eq_true.mp h i hi
  rw [e] at q
  cases sl <;> first | exact ho.elim | cases q
section
variable {c : Cy} {b : Option Addr} {F M M0 : Hp}
theorem wipeD_get {ρ : List Sl} {i : Nat} {sl : Sl} : ∀ {vs : List Nat}, (wipeD ρ vs)[i]? = some sl → sl = .no ∨ ρ[i]? = some sl
  | [], h => .inr h
  | v :: vs, h => by
    unfold wipeD at h
    by_cases e : v = i
    · subst e
      by_cases hl : v < (wipeD ρ vs).length
      · rw [List.getElem?_set_self hl] at h; exact .inl (Option.some.inj h).symm
      · rw [List.getElem?_eq_none (by simpa using hl)] at h; cases h
    · rw [List.getElem?_set_ne e] at h; exact wipeD_get h
theorem RelE.wipe {ρ : List Sl} {σ : L2.St} {M : Hp} (h : RelE c b F M0 ρ σ M) : ∀ {vs : List Nat}, (∀ i ∈ vs, ∀ sl, ρ[i]? = some sl → ¬ isOwn sl) → RelE c b F M0 (wipeD ρ vs) (wipe σ vs) M
  | [], _ => h
  | v :: vs, n => by
    have ih := RelE.wipe h (vs := vs) fun i hi => n i (List.mem_cons_of_mem _ hi)
    unfold wipeD L2.wipe
    cases e : (wipeD ρ vs)[v]? with
    | none =>
      have l1 := List.getElem?_eq_none_iff.mp e
      rw [List.set_eq_of_length_le l1, List.set_eq_of_length_le (by rw [ih.length]; exact l1)]
      exact ih
    | some sl =>
      refine ih.forget e ?_
      rcases wipeD_get e with z | z
      · rw [z]; exact fun q => q
      · exact n v List.mem_cons_self sl z
theorem RelE.unwipe : ∀ {vs : List Nat} {ρ : List Sl} {σ : L2.St} {M : Hp}, RelE c b F M0 ρ (L2.wipe σ vs) M → (∀ i ∈ vs, ∀ sl, ρ[i]? = some sl → ¬ isOwn sl) → ∃ ρ', ρ' = wipeD ρ vs.reverse ∧ RelE c b F M0 ρ' σ M
  | [], ρ, σ, M, h, _ => ⟨ρ, rfl, h⟩
  | v :: vs, ρ, σ, M, h, n => by
    unfold L2.wipe at h
    have h2 : RelE c b F M0 (ρ.set v .no) (L2.wipe σ vs) M := by
      cases e : ρ[v]? with
      | none =>
        have l1 := List.getElem?_eq_none_iff.mp e
        have l2 := h.length
        rw [List.length_set] at l2
        rw [List.set_eq_of_length_le l1]
        rw [List.set_eq_of_length_le (by omega)] at h
        exact h
      | some sl =>
        have t := h.forget (x := (L2.wipe σ vs)[v]?.getD none) e (n v List.mem_cons_self sl e)
        rw [List.set_set] at t
        have es : (L2.wipe σ vs).set v ((L2.wipe σ vs)[v]?.getD none) = L2.wipe σ vs := by
          cases q : (L2.wipe σ vs)[v]? with
          | none => exact List.set_eq_of_length_le (List.getElem?_eq_none_iff.mp q)
          | some x =>
            obtain ⟨hi, ei⟩ := List.getElem?_eq_some_iff.mp q
            show (L2.wipe σ vs).set v x = _
            rw [← ei]; exact List.set_getElem_self hi
        rw [es] at t
        exact t
    obtain ⟨ρ', e, t⟩ := RelE.unwipe h2 fun i hi sl q => by
      by_cases z : v = i
      · subst z
        by_cases hl : v < ρ.length
        · rw [List.getElem?_set_self hl] at q
          rw [← Option.some.inj q]; exact fun w => w
        · rw [List.getElem?_eq_none (by simpa using hl)] at q; cases q
      · rw [List.getElem?_set_ne z] at q
        exact n i (List.mem_cons_of_mem _ hi) sl q
    refine ⟨ρ', ?_, t⟩
    rw [e, List.reverse_cons]
    have ap : ∀ (us : List Nat) (τ : List Sl), wipeD (τ.set v .no) us = wipeD τ (us ++ [v]) := fun us τ => by
      induction us with
      | nil => rfl
      | cons u us ih => show (wipeD (τ.set v .no) us).set u .no = (wipeD τ (us ++ [v])).set u .no; rw [ih]
    exact ap _ _
def del (H : Hp) (x : Addr) : Hp := fun a => if a = x then none else H a
theorem del_same {H : Hp} {x : Addr} : del H x x = none := if_pos rfl
theorem del_ne {H : Hp} {x a : Addr} (h : a ≠ x) : del H x a = H a := if_neg h
theorem upd_del {H : Hp} {x : Addr} {o : HO} : upd (del H x) x o = upd H x o := by
  funext a
  by_cases e : a = x
  · subst e; rw [upd_same, upd_same]
  · rw [upd_ne e, upd_ne e, del_ne e]
theorem upd_self {H : Hp} {x : Addr} {o : HO} (h : H x = some o) : upd H x o = H := by
  funext a
  by_cases e : a = x
  · subst e; rw [upd_same, h]
  · rw [upd_ne e]
/-- a thing of the frame is taken away -/
theorem RelE.unframe {x : Addr} {u : HO} (hx : M0 x = some u) : ∀ {ρ : List Sl} {σ : L2.St} {M : Hp}, RelE c b F M0 ρ σ M → RelE c b F (del M0 x) ρ σ (del M x)
  | [], σ, M, h => ⟨h.1, by rw [h.2.1], fun a xs q => by
    by_cases z : a = x
    · rw [z, del_same] at q; cases q
    · rw [del_ne z] at q; exact h.2.2 a xs q⟩
  | s1 :: ρ, σ, M, h => by
    obtain ⟨v, σr, e, h⟩ := h
    refine ⟨v, σr, e, ?_⟩
    have own : ∀ sl : Sl, (∃ a o M', v = some (.ref a) ∧ ObR c F sl o ∧ F a = none ∧ M' a = none ∧ M = upd M' a o ∧ RelE c b F M0 ρ σr M') →
        ∃ a o M', v = some (.ref a) ∧ ObR c F sl o ∧ F a = none ∧ M' a = none ∧ del M x = upd M' a o ∧ RelE c b F (del M0 x) ρ σr M' := fun sl h => by
      obtain ⟨a, o, M', e1, r, f, m, e2, t⟩ := h
      have ne : a ≠ x := fun z => by
        subst z
        have := t.sub _ _ hx
        rw [m] at this; cases this
      refine ⟨a, o, del M' x, e1, r, f, by rw [del_ne ne]; exact m, ?_, RelE.unframe hx t⟩
      rw [e2]
      funext y
      by_cases ey : y = x
      · subst ey; rw [del_same, upd_ne ne.symm, del_same]
      · rw [del_ne ey]
        by_cases ea : y = a
        · subst ea; rw [upd_same, upd_same]
        · rw [upd_ne ea, upd_ne ea, del_ne ey]
    cases s1 with
    | no => exact RelE.unframe hx h
    | sh d => exact ⟨h.1, RelE.unframe hx h.2⟩
    | bx => exact ⟨h.1, RelE.unframe hx h.2⟩
    | ol ds => exact own (.ol ds) h
    | ok ks ds => exact own (.ok ks ds) h
    | ot ks ds => exact own (.ot ks ds) h
    | oi n fs ds => exact own (.oi n fs ds) h
    | od y t0 =>
      obtain ⟨Mo, M', e1, r, d, e2, t⟩ := h
      have mx : Mo x = none := d.mn (t.sub _ _ hx)
      refine ⟨Mo, del M' x, e1, r, fun a o q => ?_, ?_, RelE.unframe hx t⟩
      · by_cases z : a = x
        · rw [z]; exact del_same
        · rw [del_ne z]; exact d a o q
      · rw [e2]
        funext a
        by_cases z : a = x
        · rw [z, del_same, hh_n mx, del_same]
        · rw [del_ne z]
          cases q : Mo a with
          | some o => rw [hh_m q, hh_m q]
          | none => rw [hh_n q, hh_n q, del_ne z]
    | gh y t0 =>
      obtain ⟨Mo, M', r, d, e2, t⟩ := h
      have mx : Mo x = none := d.mn (t.sub _ _ hx)
      refine ⟨Mo, del M' x, r, fun a o q => ?_, ?_, RelE.unframe hx t⟩
      · by_cases z : a = x
        · rw [z]; exact del_same
        · rw [del_ne z]; exact d a o q
      · rw [e2]
        funext a
        by_cases z : a = x
        · rw [z, del_same, hh_n mx, del_same]
        · rw [del_ne z]
          cases q : Mo a with
          | some o => rw [hh_m q, hh_m q]
          | none => rw [hh_n q, hh_n q, del_ne z]
/-- a new thing p lies in the frame for a while -/
theorem Rel.lay {ρ : List Sl} {σ : L2.St} {p : Addr} {o : HO} (R : Rel c b ρ σ F M M0) (f : F p = none) (m : M p = none) (hu : ∀ xs, o ≠ .tup xs := by intro xs z; cases z) : Rel c b ρ σ F (upd M p o) (upd M0 p o) := by
  have m0 : M0 p = none := by
    cases q : M0 p with
    | none => rfl
    | some u => rw [R.env.sub _ _ q] at m; cases m
  refine ⟨R.dj.updM f, RelE.frame hu R.env (.inl m), fun a q => ?_, Lk.lay R.lk m0⟩
  obtain ⟨da, ns, n, h1, h2, h3⟩ := R.box a q
  exact ⟨da, ns, n, by rw [upd_ne (ne_of_none h1 m0)]; exact h1, h2, h3⟩
theorem Rel.unlay {ρ : List Sl} {σ : L2.St} {p : Addr} {o : HO} (R : Rel c b ρ σ F M M0) (h : M0 p = some o) (nb : b ≠ some p) (hlk : Lk.lk b F (del M0 p)) : Rel c b ρ σ F (del M p) (del M0 p) := by
  refine ⟨fun a u q => R.dj a u ?_, R.env.unframe h, fun a q => ?_, hlk⟩
  · by_cases e : a = p
    · subst e; rw [del_same] at q; cases q
    · rw [del_ne e] at q; exact q
  · obtain ⟨da, ns, n, h1, h2, h3⟩ := R.box a q
    have e : a ≠ p := fun e => nb (by rw [← e]; exact q)
    exact ⟨da, ns, n, by rw [del_ne e]; exact h1, h2, h3⟩
end
theorem wipe_idem (τ : L2.St) : ∀ us : List Nat, L2.wipe (L2.wipe τ us) us = L2.wipe τ us
  | [] => rfl
  | u :: us => by
    show (L2.wipe ((L2.wipe τ us).set u none) us).set u none = (L2.wipe τ us).set u none
    by_cases hu : u ∈ us
    · rw [wipe_in hu, wipe_idem τ us]
    · rw [wipe_out hu, wipe_idem τ us, List.set_set]
def wLcL (vs : List Nat) (wg : WG) (wt : WT) (we : WE) : List D → List Sl → List D → (List D → List Sl → Prop) → Prop
  | [], ρ, acc, Q => Q acc ρ
  | d :: ds, ρ, acc, Q => wg d ρ fun ρ1 => wt ρ1 fun k ρ2 => match k with
    | true => we ρ2 fun y ρ3 => noOwnB ρ3 vs = true ∧ wLcL vs wg wt we ds (wipeD ρ3 vs) (acc ++ [y]) Q
    | false => noOwnB ρ2 vs = true ∧ wLcL vs wg wt we ds (wipeD ρ2 vs) acc Q
def wLc (vs : List Nat) (wi : WA) (wg : WG) (wt : WT) (we : WE) : List Sl → (Sl → List Sl → Prop) → Prop := fun ρ Q => wi ρ fun ds ρ1 => ds.length ≤ sizeLine ∧ noOwnB ρ1 vs = true ∧
  wLcL vs wg wt we ds (wipeD ρ1 vs) [] fun acc ρ2 => noOwnB ρ2 vs = true ∧ Q (.ol acc) (wipeD ρ2 vs.reverse)
def wYes : WT := fun ρ Q => Q true ρ
theorem snt_yes {c : Cy} : Snt c tYes wYes := fun {b ρ σ F M M0} R Qd Q hw k => k true ρ F M M0 hw R.aft
theorem snf_lc_at {c : Cy} {vs : List Nat} {wi : TI} {g : TG} {tt : TT} {te : TE} {w : WA} {wg : WG} {wt : WT} {we : WE} {is : List Nat} (his : ∀ i ∈ is, i ∈ vs) {b : Option Addr} {ρ : List Sl} {σ : L2.St} {F M M0 : Hp} (R : Rel c b ρ σ F M M0) (hi : SniAt c wi w b ρ σ F M M0) (hg : Sng c g wg is) (ht : Snt c tt wt) (he : Snd c te we)
    (Qd : Sl → List Sl → Prop) (Q : VK) (hw : wLc vs w wg wt we ρ Qd) (k : ∀ sl ρ' a o F' M' M0', Qd sl ρ' → Aft c b F M M0 ρ' σ F' M' M0' → isShal sl → ObR c F' sl o → F' a = none → M' a = none → Q (.ref a) (HH F' (upd M' a o))) : tLc wi g tt te vs σ (HH F M) Q := by
  refine hi _ _ hw fun ds ρ1 J F1 M1 M01 q A it => ?_
  obtain ⟨hlen, hno, q⟩ := q
  intro p hp
  obtain ⟨hpf, hpm⟩ := hh_none hp
  have nbp : b ≠ some p := fun e => by
    obtain ⟨_, _, _, h1, _⟩ := A.rel.box p e
    rw [A.rel.env.sub _ _ h1] at hpm; cases hpm
  refine ⟨fun i m H' => m = ds.length - i ∧ i ≤ ds.length ∧ ∃ (ρ' : List Sl) (F' M' M0' : Hp) (acc : List D) (us : List V), H' = HH F' (upd M' p (.lst us)) ∧ F' p = none ∧ M' p = none ∧ Same F1 F' ∧ Ext b (HH F1 M1) (HH F' M') ∧
      Rel c b ρ' (L2.wipe σ vs) F' M' M0' ∧ MR b M01 M0' ∧ DrL c F' us acc ∧ acc.length ≤ i ∧ wLcL vs wg wt we (ds.drop i) ρ' acc fun acc ρ2 => noOwnB ρ2 vs = true ∧ Qd (.ol acc) (wipeD ρ2 vs.reverse), ⟨ds.length, by simp, Nat.zero_le _, wipeD ρ1 vs, F1, M1, M01, [], [], hh_updM, hpf, hpm, Same.refl _, Ext.refl _ _,
      ⟨A.rel.dj, A.rel.env.wipe (noOwn_of hno), A.rel.box, A.rel.lk⟩, MR.refl _ _, .nil, Nat.zero_le _, q⟩, ?_⟩
  rintro i m H' ⟨rfl, hil, ρ', F', M', M0', acc, us, rfl, fp, mp, s, x, R', mr, dr, hal, hw'⟩
  by_cases hlt : i < ds.length
  · have ed : ds.drop i = ds[i] :: ds.drop (i + 1) := List.drop_eq_getElem_cons hlt
    rw [ed] at hw'
    have hd : ds[i]? = some ds[i] := List.getElem?_eq_getElem hlt
    have L := R'.lay (o := .lst us) fp mp
    refine .inr ⟨((it F' _ s L.dj L.env.nt i).1 _ hd).1, fun H2 => i + 1 ≤ ds.length ∧ ∃ (ρ' : List Sl) (F' M' M0' : Hp) (acc : List D) (us : List V), H2 = HH F' (upd M' p (.lst us)) ∧ F' p = none ∧ M' p = none ∧ Same F1 F' ∧ Ext b (HH F1 M1) (HH F' M') ∧
      Rel c b ρ' (L2.wipe σ vs) F' M' M0' ∧ MR b M01 M0' ∧ DrL c F' us acc ∧ acc.length ≤ i + 1 ∧ wLcL vs wg wt we (ds.drop (i + 1)) ρ' acc fun acc ρ2 => noOwnB ρ2 vs = true ∧ Qd (.ol acc) (wipeD ρ2 vs.reverse), fun H2 n2 => ⟨ds.length - (i + 1), by omega, rfl, n2.1, n2.2⟩, fun y H3 hy => ?_⟩
    obtain ⟨F3, rfl, s3, dj3, r3⟩ := ((it F' _ s L.dj L.env.nt i).1 _ hd).2 y H3 hy
    have A3 := L.grow s3 dj3
    -- what is to be shown of any later state
    have back : ∀ {F4 M4 M04 : Hp} {ρ4 : List Sl}, Same F' F4 → Ext b (HH F' (upd M' p (.lst us))) (HH F4 M4) → Rel c b ρ4 (L2.wipe σ vs) F4 M4 M04 → MR b (upd M0' p (.lst us)) M04 →
        M4 p = some (.lst us) ∧ F4 p = none ∧ Same F1 F4 ∧ Ext b (HH F1 M1) (HH F4 (del M4 p)) ∧ Rel c b ρ4 (L2.wipe σ vs) F4 (del M4 p) (del M04 p) ∧ MR b M01 (del M04 p) := fun {F4 M4 M04 ρ4} s4 x4 R4 m4 => by
      have e0 : M04 p = some (.lst us) := by rw [m4 p nbp, upd_same]
      have e1 := R4.env.sub _ _ e0
      have e2 := R4.dj _ _ e1
      have mr' : MR b M01 (del M04 p) := fun a na => by
        by_cases e : a = p
        · subst e
          rw [del_same]
          cases z : M01 a with
          | none => rfl
          | some u => rw [A.rel.env.sub _ _ z] at hpm; cases hpm
        · rw [del_ne e, m4 a na, upd_ne e, mr a na]
      refine ⟨e1, e2, s.trans s4, fun a o na qa => ?_, R4.unlay e0 nbp (A.rel.lkM (s.trans s4) mr'), mr'⟩
      have nap : a ≠ p := fun z => by rw [z, hp] at qa; cases qa
      have q1 : HH F' (upd M' p (.lst us)) a = some o := by rw [← hh_updM, upd_ne nap]; exact x a o na qa
      have q2 := x4 a o na q1
      rcases hh_some q2 with z | ⟨z1, z2⟩
      · exact hh_m (by rw [del_ne nap]; exact z)
      · rw [hh_n (by rw [del_ne nap]; exact z1)]; exact z2
    refine hg A3.rel r3 _ _ hw' fun ρ4 σ4 F4 M4 M04 q4 s4 x4 R4 m4 wz => ⟨(wz vs his).trans (wipe_idem σ vs), ?_⟩
    refine ht R4 _ _ q4 fun kk ρ5 F5 M5 M05 q5 A5 => ?_
    have sA := (s3.trans s4).trans A5.same
    have xA := (A3.ext.trans x4).trans A5.ext
    have mA := m4.trans A5.mr
    -- the slots of the block are forgotten
    have wr : ∀ {F6 M6 M06 : Hp} {ρ6 : List Sl}, Rel c b ρ6 σ4 F6 M6 M06 → noOwnB ρ6 vs = true → Rel c b (wipeD ρ6 vs) (L2.wipe σ vs) F6 M6 M06 := fun {F6 M6 M06 ρ6} R6 n6 => by
      have t := R6.env.wipe (noOwn_of n6)
      have e : L2.wipe σ4 vs = L2.wipe σ vs := by
        exact (wz vs his).trans (wipe_idem σ vs)
      rw [e] at t
      exact ⟨R6.dj, t, R6.box, R6.lk⟩
    cases kk with
    | true =>
      rw [if_pos rfl]
      refine he A5.rel _ _ q5 fun d ρ6 z F6 M6 M06 q6 A6 r6 => ?_
      obtain ⟨e1, e2, b3, b4, b5, b6⟩ := back (sA.trans A6.same) (xA.trans A6.ext) (wr A6.rel q6.1) (mA.trans A6.mr)
      refine ⟨us, hh_m e1, ?_, hlt, wipeD ρ6 vs, F6, del M6 p, del M06 p, acc ++ [d], us ++ [z], ?_, e2, del_same, b3, b4, b5, b6, (dr.up (sA.trans A6.same)).append (.cons r6 .nil), ?_, q6.2⟩
      · rw [dr.length]; omega
      · rw [hh_updM, upd_del]
      · rw [List.length_append, List.length_singleton]; omega
    | false =>
      rw [if_neg Bool.false_ne_true]
      obtain ⟨e1, e2, b3, b4, b5, b6⟩ := back sA xA (wr A5.rel q5.1) mA
      refine ⟨hlt, wipeD ρ5 vs, F5, del M5 p, del M05 p, acc, us, ?_, e2, del_same, b3, b4, b5, b6, dr.up sA, by omega, q5.2⟩
      rw [upd_del, upd_self e1]
  · have e : i = ds.length := by omega
    subst e
    rw [List.drop_length] at hw'
    refine .inl ⟨(it F' _ s (R'.dj.updM fp) (R'.lay (o := .lst us) fp mp).env.nt _).2 rfl, ?_⟩
    obtain ⟨hn2, hq⟩ := hw'
    obtain ⟨ρ2, e2, t2⟩ := R'.env.unwipe (noOwn_of hn2)
    subst e2
    exact k _ _ p _ F' M' M0' hq ⟨A.same.trans s, A.ext.trans x, ⟨R'.dj, t2, R'.box, R'.lk⟩, A.mr.trans mr⟩ trivial ⟨us, rfl, dr⟩ fp mp
theorem snf_lc {c : Cy} {vs : List Nat} {wi : TI} {g : TG} {tt : TT} {te : TE} {w : WA} {wg : WG} {wt : WT} {we : WE} {is : List Nat} (his : ∀ i ∈ is, i ∈ vs) (hi : Sni c wi w) (hg : Sng c g wg is) (ht : Snt c tt wt) (he : Snd c te we) : Snf c (tLc wi g tt te vs) (wLc vs w wg wt we) := fun {b ρ σ F M M0} R Qd Q hw k => snf_lc_at his R (hi R) hg ht he Qd Q hw k
structure DTs (X : Cx) (ifs : List Expr) (t : TT) (w : WT) : Prop where
  pe : PTs X ifs t
  sn : Snt (cy X) t w
section
variable {X : Cx}
theorem dts_nil : DTs X [] tYes wYes := ⟨pts_nil, snt_yes⟩
theorem df_lc {elt tg iter : Expr} {ifs : List Expr} {scope : Scope} {own : List (Str × Nat)} {pos : Pos} {wi : TI} {g : TG} {tt : TT} {te : TE} {w : WA} {wg : WG} {wt : WT} {we : WE} {is : List Nat} (hc : X.calm = true) (hN : X.N.Nodup) (hi : DI X tg iter wi w) (ok : BlkOk X.N X.env.scope scope own)
    (hg0 : DG (X.blk {} (fun _ => none) scope (compEnvC scope [] 0 X.env) []) tg g wg is) (ht0 : DTs (X.blk {} (fun _ => none) scope (compEnvC scope [] 0 X.env) []) ifs tt wt) (he0 : DE (X.blk {} (fun _ => none) scope (compEnvC scope [] 0 X.env) []) elt te we)
    (hg : ∀ (s : Shared) (H : Hp) (C : Addr) (cl : List (Str × Addr)) (fp : List Addr), DG (X.blk s H scope (compEnvC scope cl C X.env) fp) tg g wg is) (ht : ∀ (s : Shared) (H : Hp) (C : Addr) (cl : List (Str × Addr)) (fp : List Addr), DTs (X.blk s H scope (compEnvC scope cl C X.env) fp) ifs tt wt)
    (he : ∀ (s : Shared) (H : Hp) (C : Addr) (cl : List (Str × Addr)) (fp : List Addr), DE (X.blk s H scope (compEnvC scope cl C X.env) fp) elt te we) (his : ∀ i ∈ is, i ∈ own.map (·.2) := by decide) (hs : ∀ x, foldedSetIterable iter X.env x = pure x := by intro _; rfl) :
    DF X (.ListComp elt [⟨tg, iter, ifs, 0⟩] scope pos) (tLc wi g tt te (own.map (·.2))) (wLc (own.map (·.2)) w wg wt we) :=
  ⟨pe_lc hc hN hi.pi ok (fun s H C cl fp => (hg s H C cl fp).pg) (fun s H C cl fp => (ht s H C cl fp).pe) (fun s H C cl fp => (he s H C cl fp).pe) hs,
    snf_lc (c := cy X) his hi.sn hg0.sn ht0.sn he0.sn⟩
theorem ds_setLc {i : Nat} {y : Str} {py : Pos} {elt tg iter : Expr} {ifs : List Expr} {scope : Scope} {own : List (Str × Nat)} {pos spos : Pos} {wi : TI} {g : TG} {tt : TT} {te : TE} {w : WA} {wg : WG} {wt : WT} {we : WE} {is : List Nat} (hc : X.calm = true) (hN : X.N.Nodup) (hy : X.N[i]? = some y) (hyl : X.env.scope.names.lookup y = some .local)
    (hsw : swapsWith (.ListComp elt [⟨tg, iter, ifs, 0⟩] scope pos) (some (.Name y py)) spos.line X.env = pure true) (hi : DI X tg iter wi w) (ok : BlkOk X.N X.env.scope scope own)
    (hg0 : DG (X.blk {} (fun _ => none) scope (compEnvC scope [] 0 X.env) []) tg g wg is) (ht0 : DTs (X.blk {} (fun _ => none) scope (compEnvC scope [] 0 X.env) []) ifs tt wt) (he0 : DE (X.blk {} (fun _ => none) scope (compEnvC scope [] 0 X.env) []) elt te we)
    (hg : ∀ (s : Shared) (H : Hp) (C : Addr) (cl : List (Str × Addr)) (fp : List Addr), DG (X.blk s H scope (compEnvC scope cl C X.env) fp) tg g wg is) (ht : ∀ (s : Shared) (H : Hp) (C : Addr) (cl : List (Str × Addr)) (fp : List Addr), DTs (X.blk s H scope (compEnvC scope cl C X.env) fp) ifs tt wt)
    (he : ∀ (s : Shared) (H : Hp) (C : Addr) (cl : List (Str × Addr)) (fp : List Addr), DE (X.blk s H scope (compEnvC scope cl C X.env) fp) elt te we) (his : ∀ i ∈ is, i ∈ own.map (·.2) := by decide) (hs : ∀ x, foldedSetIterable iter X.env x = pure x := by intro _; rfl) :
    DS X (.Assign [.Name y py] (.ListComp elt [⟨tg, iter, ifs, 0⟩] scope pos) spos) (tAsg (tLc wi g tt te (own.map (·.2))) (gName i)) (wAsg (wFz (wLc (own.map (·.2)) w wg wt we)) (wSt i)) :=
  ⟨ps_setLc hc hN hy hyl hsw hi.pi ok (fun s H C cl fp => (hg s H C cl fp).pg) (fun s H C cl fp => (ht s H C cl fp).pe) (fun s H C cl fp => (he s H C cl fp).pe) hs,
    sns_asg (df_lc (pos := pos) hc hN hi ok hg0 ht0 he0 hg ht he his hs).de.sn (sng_name i)⟩
end
def ArgsD (c : Cy) (b : Option Addr) (F : Hp) : List Sl → List V → Prop
  | [], vs => vs = []
  | s :: r, vs => ∃ v vr, vs = v :: vr ∧ (match s with
    | .sh d => Dr c F v d
    | .bx => ∃ a, b = some a ∧ v = .ref a
    | _ => False) ∧ ArgsD c b F r vr
/-- a def's promise, of data alone -/
abbrev WFn := List Sl → (D → Prop) → Prop
def spF (c : Cy) (wf : WFn) : Sp := fun vs H Q _ => ∃ (b : Option Addr) (F M : Hp) (as : List Sl) (Qd : D → Prop), H = HH F M ∧ Dj F M ∧ ((∀ a, b = some a → Box F M a) ∧ NT M) ∧ ArgsD c b F as vs ∧ wf as Qd ∧
  ∀ d v F' M', Qd d → Same F F' → Dj F' M' → (∀ a, b = some a → Box F' M' a) → MR b M M' → Dr c F' v d → Q v (HH F' M')
def startD (N : List Str) (as : List Sl) : List Sl := as ++ List.replicate (N.length - as.length) .no
section
variable {c : Cy} {b : Option Addr} {F M M0 : Hp}
theorem ArgsD.length : ∀ {as : List Sl} {vs : List V}, ArgsD c b F as vs → vs.length = as.length
  | [], vs, h => by rw [show vs = [] from h]; rfl
  | s :: r, vs, h => by
    obtain ⟨v, vr, rfl, _, t⟩ := h
    rw [List.length_cons, List.length_cons, ArgsD.length t]
theorem rel_nos (nt : NT M) : ∀ (n : Nat), RelE c b F M (List.replicate n .no) (List.replicate n none) M
  | 0 => ⟨rfl, rfl, nt⟩
  | n + 1 => ⟨none, List.replicate n none, rfl, rel_nos nt n⟩
theorem ArgsD.rel {n : Nat} (nt : NT M) : ∀ {as : List Sl} {vs : List V}, ArgsD c b F as vs → RelE c b F M (as ++ List.replicate n .no) (vs.map some ++ List.replicate n none) M
  | [], vs, h => by rw [show vs = [] from h]; exact rel_nos nt n
  | s :: r, vs, h => by
    obtain ⟨v, vr, rfl, q, t⟩ := h
    refine ⟨some v, vr.map some ++ List.replicate n none, rfl, ?_⟩
    cases s with
    | sh d => exact ⟨⟨v, rfl, q⟩, ArgsD.rel nt t⟩
    | bx => obtain ⟨a, e1, e2⟩ := q; exact ⟨⟨a, e1, by rw [e2]⟩, ArgsD.rel nt t⟩
    | _ => exact q.elim
/-- behind a call -/
theorem Rel.after {ρ : List Sl} {σ : L2.St} {F' M' : Hp} (R : Rel c b ρ σ F M M0) (s : Same F F') (dj : Dj F' M') (bx : ∀ a, b = some a → Box F' M' a) (mr : MR b M M') : ∃ M0', Aft c b F M M0 ρ σ F' M' M0' := by
  have key : ∃ M0', RelE c b F M0' ρ σ M' ∧ MR b M0 M0' ∧ ∀ a, b = some a → M0' a = M' a := by
    cases b with
    | none =>
      have e : M' = M := funext fun a => mr a (fun z => nomatch z)
      rw [e]
      exact ⟨M0, R.env, MR.refl _ _, fun a z => nomatch z⟩
    | some a =>
      obtain ⟨da, ns, n, h1, h2, h3⟩ := bx a rfl
      obtain ⟨_, _, _, k1, _⟩ := R.box a rfl
      have e : M' = upd M a (.lst [.ref da, .int n]) := by
        funext x
        by_cases z : x = a
        · rw [z, upd_same, h1]
        · rw [upd_ne z]; exact mr x fun q => z (Option.some.inj q).symm
      refine ⟨upd M0 a (.lst [.ref da, .int n]), ?_, fun x q => upd_ne fun z => q (by rw [z]), fun x q => ?_⟩
      · rw [e]; exact RelE.frame (fun xs z => by cases z) R.env (.inr (by rw [k1]; rfl))
      · rw [← Option.some.inj q, upd_same, h1]
  obtain ⟨M0', t, m, ha⟩ := key
  refine ⟨M0', s, fun a o na q => ?_, ⟨dj, t.leD (.of s) (fun a o q _ => dj a o (t.sub _ _ q)) (fun a o q _ => dj a o q), fun a q => ?_, R.lkM s m⟩, m⟩
  · rcases hh_some q with z | ⟨z1, z2⟩
    · exact hh_m (by rw [mr a na]; exact z)
    · rw [hh_n (by rw [mr a na]; exact z1)]; exact s _ _ z2
  · obtain ⟨da, ns, n, h1, h2, h3⟩ := bx a q
    exact ⟨da, ns, n, by rw [ha a q]; exact h1, h2, h3⟩
end
abbrev WAs := List Sl → (List Sl → List Sl → Prop) → Prop
def Snas (c : Cy) (ta : TA) (w : WAs) : Prop := ∀ {b : Option Addr} {ρ : List Sl} {σ : L2.St} {F M M0 : Hp}, Rel c b ρ σ F M M0 → ∀ (Qd : List Sl → List Sl → Prop) (Q : List V → Hp → Prop), w ρ Qd →
  (∀ as ρ' vs F' M' M0', Qd as ρ' → Aft c b F M M0 ρ' σ F' M' M0' → ArgsD c b F' as vs → Q vs (HH F' M')) → ta σ (HH F M) Q
structure DAs (X : Cx) (es : List Expr) (ta : TA) (w : WAs) : Prop where
  pe : PA X es ta
  sn : Snas (cy X) ta w
theorem ArgsD.up {c : Cy} {b : Option Addr} {F G : Hp} (s : Same F G) : ∀ {as : List Sl} {vs : List V}, ArgsD c b F as vs → ArgsD c b G as vs
  | [], vs, h => h
  | x :: r, vs, h => by
    obtain ⟨v, vr, rfl, q, t⟩ := h
    refine ⟨v, vr, rfl, ?_, ArgsD.up s t⟩
    cases x with
    | sh d => exact Dr.up s q
    | bx => exact q
    | _ => exact q.elim
def asNil : WAs := fun ρ Q => Q [] ρ
def asCons (w : WE) (wr : WAs) : WAs := fun ρ Q => w ρ fun d ρ1 => wr ρ1 fun as ρ2 => Q (.sh d :: as) ρ2
def asBox (i : Nat) (wr : WAs) : WAs := fun ρ Q => ρ[i]? = some .bx ∧ wr ρ fun as ρ2 => Q (.bx :: as) ρ2
section
variable {X : Cx} {e : Expr} {es : List Expr} {te : TE} {t : TA} {w : WE} {wt : WAs} {pos : Pos}
theorem das_nil : DAs X [] tNil asNil := ⟨pa_nil, fun {b ρ σ F M M0} R Qd Q hw k => k [] ρ [] F M M0 hw R.aft rfl⟩
theorem das_cons (ha : DE X e te w) (hr : DAs X es t wt) (hs : starEach (e :: es) X.env = (false, eval e X.env) :: starEach es X.env := by rfl) : DAs X (e :: es) (tCons te t) (asCons w wt) :=
  ⟨pa_cons ha.pe hr.pe hs, fun {b ρ σ F M M0} R Qd Q hw k => by
    refine ha.sn R _ _ hw fun d ρ1 v F1 M1 M01 q1 A1 r1 => ?_
    exact hr.sn A1.rel _ _ q1 fun as ρ2 vs F2 M2 M02 q2 A2 r2 => k (.sh d :: as) ρ2 (v :: vs) F2 M2 M02 q2 (A1.trans A2) ⟨v, vs, rfl, r1.up A2.same, r2⟩⟩
theorem das_box (i : Nat) {x : Str} {pos : Pos} (hr : DAs X es t wt) (hN : X.N[i]? = some x := by rfl) (hv : Vis X.env.scope x := by first | exact Or.inl rfl | exact Or.inr (Or.inl rfl) | exact Or.inr (Or.inr rfl)) (hd : (x == ("__debug__" : Str)) = false := by decide)
    (hcd : (x == ("__classdict__" : Str)) = false := by decide) (hs : starEach (.Name x pos :: es) X.env = (false, eval (.Name x pos) X.env) :: starEach es X.env := by rfl) : DAs X (.Name x pos :: es) (tCons (tVar i) t) (asBox i wt) :=
  ⟨pa_cons (pe_var hN hv hd hcd) hr.pe hs, fun {b ρ σ F M M0} R Qd Q hw k => by
    obtain ⟨e, hw⟩ := hw
    obtain ⟨a, h1, h2⟩ := R.env.getB e
    refine ⟨.ref a, h2, ?_⟩
    exact hr.sn R _ _ hw fun as ρ2 vs F2 M2 M02 q2 A2 r2 => k (.bx :: as) ρ2 (.ref a :: vs) F2 M2 M02 q2 A2 ⟨.ref a, vs, rfl, ⟨a, h1, rfl⟩, r2⟩⟩
def wCall (wf : WFn) (wa : WAs) : WE := fun ρ Q => wa ρ fun as ρ1 => wf as fun d => Q d ρ1
theorem snd_call {c : Cy} {E : XK} {wf : WFn} (ha : Snas c t wt) : Snd c (tCall (spF c wf) [] E t) (wCall wf wt) := fun {b ρ σ F M M0} R Qd Q hw k => by
  refine ha R _ _ hw fun as ρ1 vs F1 M1 M01 q1 A1 r1 => ?_
  rw [List.append_nil]
  refine ⟨b, F1, M1, as, _, rfl, A1.rel.dj, ⟨fun a z => ?_, A1.rel.env.nt⟩, r1, q1, fun d v F' M' q s dj bx mr r => ?_⟩
  · obtain ⟨da, ns, n, h1, h2, h3⟩ := A1.rel.box a z
    exact ⟨da, ns, n, A1.rel.env.sub _ _ h1, h2, h3⟩
  · obtain ⟨M0', A2⟩ := A1.rel.after s dj bx mr
    exact k d ρ1 v F' M' M0' q (A1.trans A2) r
variable {CX : CXT} {k : Nat} {f : Addr} {fd : FuncData} {ps : List Str} {x : Str} {p : Pos}
theorem de_call {wf : WFn} (G : FnOk X.prog X.w X.K X.mg X.base CX0 k f fd ps (spF (cy X) wf)) (hr : Room k X.A) (hg : Gl X x) (hm : X.mg x = some (.ref f)) (hk : PySem.W.keepIn X.K (.ref f) = true) (hb : Binds X.K fd ps [])
    (ha : DAs X (e :: es) t wt) (hdb : (x == ("__debug__" : Str)) = false := by decide) (he : starEach (e :: es) X.env = (false, eval e X.env) :: starEach es X.env := by rfl) (hpl : (backTo pos (starEach es X.env)).any (·.1) = false := by rfl) :
    DE X (.Call (.Name x p) (e :: es) [] pos) (tCall (spF (cy X) wf) [] E0 t) (wCall wf wt) := ⟨pe_call G hr hg hm hk hb .nil pass0 ha.pe hdb he hpl, snd_call ha.sn⟩
end
section
variable {P : Program} {w : World} {K : PySem.W.Frag} {mg : Str → Option Value} {base : Heap}
/-- THE RULE: a def's promise of data by its body's term -/
theorem fun_okD {x qual : Str} {st : Stmt} {f : Addr} {fd : FuncData} {N ps : List Str} {k : Nat} {wf : WFn} (F : Fun K x qual st f fd) (S : FnScope N ps (defScope st)) (len : ∀ as Qd, wf as Qd → as.length = ps.length)
    (hbody : ∀ (cdv : Value) (A : Around) (outer : List Env) (s : Shared) (H : Hp) (E : XK), Room k (A.deeper (envOfC qual (defScope st) s.heap.objs.size f cdv)) →
      letI := Lk.top
      ∃ t ws, DSs (cxOf CX0 P w K mg base N qual (defScope st) f cdv A outer s H E).nox (defBody st) t ws ∧ ∀ as Qd, wf as Qd → ws (startD N as) { nx := fun _ => Qd .non, rt := fun d _ => Qd d }) :
    FnOk P w K mg base CX0 (k + 1) f fd ps (spF ⟨K, mg⟩ wf) := by
  refine F.ok S (fun vs H Q E h => ?_) (fun cdv A outer s H vs Q E hr h => ?_)
  · obtain ⟨b, F, M, as, Qd, _, _, _, ar, hw, _⟩ := h
    rw [ar.length, len as Qd hw]
  · letI := Lk.top
    obtain ⟨b, F, M, as, Qd, rfl, dj, bx, ar, hw, hq⟩ := h
    obtain ⟨t, ws, hd, hp⟩ := hbody cdv A outer s (HH F M) E hr
    refine ⟨t, hd.ps, ?_⟩
    have R : Rel ⟨K, mg⟩ b (startD N as) (L2.start N vs) F M M := by
      refine ⟨dj, ?_, bx.1, trivial⟩
      unfold startD L2.start
      rw [ar.length]
      exact ar.rel bx.2
    refine hd.sn R _ _ (hp as Qd hw) ⟨fun ρ' σ' F' M' M0' e s' R' m' => ?_, fun _ _ _ _ _ z => z.elim, fun _ _ _ _ _ z => z.elim, fun d v ρ' σ' F' M' M0' e s' R' m' r => ?_⟩
    rotate_left
    · obtain ⟨F2, s2, eh, dj2⟩ := R'.env.frzAll R'.dj
      rw [eh]
      exact hq d v F2 M0' e (s'.trans s2) dj2 (fun a z => (R'.box a z).leD (.of s2)) m' (r.up s2)
    obtain ⟨F2, s2, eh, dj2⟩ := R'.env.frzAll R'.dj
    show Q .non (HH F' M')
    rw [eh]
    exact hq .non .non F2 M0' e (s'.trans s2) dj2 (fun a z => (R'.box a z).leD (.of s2)) m' (by simp only [Dr])
end
end DL
namespace DL
open PySem PySem.Spec PyProof.Rows L2
variable [Lk]
section
variable {c : Cy} {X : Cx}
theorem Dr.int_of {F : Hp} {v : V} {i : Int} (h : Dr c F v (.int i)) : v = .int i := by simpa only [Dr] using h
theorem Dr.str_of {F : Hp} {v : V} {i : Str} (h : Dr c F v (.str i)) : v = .str i := by simpa only [Dr] using h
theorem Dr.bl_of {F : Hp} {v : V} {i : Bool} (h : Dr c F v (.bl i)) : v = .bl i := by simpa only [Dr] using h
theorem Dr.non_of {F : Hp} {v : V} (h : Dr c F v .non) : v = .non := by simpa only [Dr] using h
theorem Dr.of_int {F : Hp} {i : Int} : Dr c F (.int i) (.int i) := by simp only [Dr]
theorem Dr.of_str {F : Hp} {i : Str} : Dr c F (.str i) (.str i) := by simp only [Dr]
theorem Dr.of_bl {F : Hp} {i : Bool} : Dr c F (.bl i) (.bl i) := by simp only [Dr]
theorem Dr.of_non {F : Hp} : Dr c F .non .non := by simp only [Dr]
theorem Rk.int_of {b : Option Addr} {F M : Hp} {v : V} {i : Int} (h : Rk c b F M v (.int i)) : v = .int i := Dr.int_of (c := c) (F := F) h
theorem Rk.str_of {b : Option Addr} {F M : Hp} {v : V} {i : Str} (h : Rk c b F M v (.str i)) : v = .str i := Dr.str_of (c := c) (F := F) h
theorem Rk.bl_of {b : Option Addr} {F M : Hp} {v : V} {i : Bool} (h : Rk c b F M v (.bl i)) : v = .bl i := Dr.bl_of (c := c) (F := F) h
theorem Rk.non_of {b : Option Addr} {F M : Hp} {v : V} (h : Rk c b F M v .non) : v = .non := Dr.non_of (c := c) (F := F) h
theorem Rk.tup_of {b : Option Addr} {F M : Hp} {v : V} {ds : List D} (h : Rk c b F M v (.tup ds)) : ∃ a vs, v = .ref a ∧ F a = some (.tup vs) ∧ DrL c F vs ds := by
  have h : Dr c F v (.tup ds) := h
  simpa only [Dr] using h
theorem Rk.emt_of {b : Option Addr} {F M : Hp} {v : V} (h : Rk c b F M v .emt) : ∃ a, v = .ref a ∧ SqT c.K F a [] := by
  have h : Dr c F v .emt := h
  simpa only [Dr] using h
theorem Rk.scr_of {b : Option Addr} {F M : Hp} {v : V} {ds : List D} (h : Rk c b F M v (.scr ds)) : ∃ a vs, v = .ref a ∧ SqL c.K F a vs ∧ DrL c F vs ds := by
  have h : Dr c F v (.scr ds) := h
  simpa only [Dr] using h
def dI2 (g : Int → Int → D) : D → D → (D → Prop) → Prop
  | .int i, .int j, Q => Q (g i j)
  | _, _, _ => False
def vU (C : Int → Int → Prop) (g : Int → Int → D) : D → D → (D → Prop) → Prop
  | .int i, .int j, Q => C i j ∧ Q (g i j)
  | _, _, _ => False
theorem rop_I0 {g : Int → Int → V} {gd : Int → Int → D} (h : ∀ i j F, Dr c F (g i j) (gd i j)) : Rop c (rI0 g) (dI2 gd) := fun {b F M x y d1 d2} Qd Q dj r1 r2 hw k => by
  cases d1 with
  | int i =>
    cases d2 with
    | int j => exact ⟨i, j, r1.int_of, r2.int_of, k _ _ F hw (Same.refl _) dj (fun _ f _ => f) (h i j F)⟩
    | _ => exact hw.elim
  | _ => exact hw.elim
theorem rop_I {C : Int → Int → Prop} {g : Int → Int → V} {gd : Int → Int → D} (h : ∀ i j F, Dr c F (g i j) (gd i j)) : Rop c (rI C g) (vU C gd) := fun {b F M x y d1 d2} Qd Q dj r1 r2 hw k => by
  cases d1 with
  | int i =>
    cases d2 with
    | int j => exact ⟨i, j, r1.int_of, r2.int_of, hw.1, k _ _ F hw.2 (Same.refl _) dj (fun _ f _ => f) (h i j F)⟩
    | _ => exact hw.elim
  | _ => exact hw.elim
abbrev vP := dI2 fun i j => D.int (i - j)
abbrev vQ := vU CMul fun i j => D.int (i * j)
abbrev vR := vU (fun _ j => 0 < j) fun i j => D.int (i % j)
abbrev vS := vU CDiv fun i j => D.int (i / j)
abbrev vT := vU CPow fun i j => D.int (i ^ j.toNat)
abbrev dLt := dI2 fun i j => D.bl (decide (i < j))
abbrev dLe := dI2 fun i j => D.bl (decide (i ≤ j))
abbrev dGt := dI2 fun i j => D.bl (decide (j < i))
abbrev dGe := dI2 fun i j => D.bl (decide (j ≤ i))
theorem rop_sub : Rop c (rI0 fun i j => .int (i - j)) vP := rop_I0 fun _ _ _ => .of_int
theorem rop_mul : Rop c (rI CMul fun i j => .int (i * j)) vQ := rop_I fun _ _ _ => .of_int
theorem rop_mod : Rop c (rI (fun _ j => 0 < j) fun i j => .int (i % j)) vR := rop_I fun _ _ _ => .of_int
theorem rop_fdiv : Rop c (rI CDiv fun i j => .int (i / j)) vS := rop_I fun _ _ _ => .of_int
theorem rop_pow : Rop c (rI CPow fun i j => .int (i ^ j.toNat)) vT := rop_I fun _ _ _ => .of_int
theorem rop_lt : Rop c (rI0 fun i j => .bl (decide (i < j))) dLt := rop_I0 fun _ _ _ => .of_bl
theorem rop_gt : Rop c (rI0 fun i j => .bl (decide (j < i))) dGt := rop_I0 fun _ _ _ => .of_bl
theorem rop_ge : Rop c (rI0 fun i j => .bl (decide (j ≤ i))) dGe := rop_I0 fun _ _ _ => .of_bl
/-- + -/
def vV : D → D → (D → Prop) → Prop
  | .int i, .int j, Q => Q (.int (i + j))
  | .str s, .str t, Q => s.length + t.length ≤ sizeLine ∧ Q (.str (s ++ t))
  | .lst a, .lst b, Q => a.length + b.length ≤ sizeLine ∧ Q (.lst (a ++ b))
  | _, _, _ => False
def rAddU : R2 := fun x y H Q => rI0 (fun i j => .int (i + j)) x y H Q ∨ (fun x y H Q => ∃ i j, x = .str i ∧ y = .str j ∧ i.length + j.length ≤ sizeLine ∧ Q (.str (i ++ j)) H) x y H Q ∨ rCat x y H Q
theorem op_addU : OpR X (binaryOp .Add) rAddU := OpR.or op_add (OpR.or op_add_str op_cat)
theorem Rk.lst_of {b : Option Addr} {F M : Hp} {v : V} {ds : List D} (h : Rk c b F M v (.lst ds)) : ∃ a vs, v = .ref a ∧ b ≠ some a ∧ HH F M a = some (.lst vs) ∧ DrL c F vs ds := h
theorem rop_add : Rop c rAddU vV := fun {b F M x y d1 d2} Qd Q dj r1 r2 hw k => by
  cases d1 with
  | int i =>
    cases d2 with
    | int j => exact .inl ⟨i, j, r1.int_of, r2.int_of, k _ _ F hw (Same.refl _) dj (fun _ f _ => f) .of_int⟩
    | _ => exact hw.elim
  | str i =>
    cases d2 with
    | str j => exact .inr (.inl ⟨i, j, r1.str_of, r2.str_of, hw.1, k _ _ F hw.2 (Same.refl _) dj (fun _ f _ => f) .of_str⟩)
    | _ => exact hw.elim
  | lst ds =>
    cases d2 with
    | lst es =>
      obtain ⟨a, vs, rfl, _, h1, q1⟩ := r1.lst_of
      obtain ⟨a', vs', rfl, _, h2, q2⟩ := r2.lst_of
      refine .inr (.inr ⟨a, a', vs, vs', rfl, rfl, h1, h2, by rw [q1.length, q2.length]; exact hw.1, fun p hp => ?_⟩)
      obtain ⟨hf, hm⟩ := hh_none hp
      rw [hh_updF hm]
      have s : Same F (upd F p (.lst (vs ++ vs'))) := Same.updF hf
      refine k _ _ _ hw.2 s (dj.updF hm) (fun x f m => ?_) ?_
      · by_cases e : x = p
        · rw [e, hm] at m; cases m
        · rw [upd_ne e]; exact f
      · simp only [Dr]
        exact ⟨p, _, rfl, upd_same, (q1.append q2).up s⟩
    | _ => exact hw.elim
  | _ => exact hw.elim
mutual
def toPy : D → PyData
  | .non => .none
  | .bl b => .bool b
  | .int i => .int i
  | .str s => .str s
  | .lst xs => .list (toPyL xs)
  | .tup xs => .tuple (toPyL xs)
  | .scr xs => .list (toPyL xs)
  | .emt => .none
  | .fn _ => .none
  | .ad _ => .none
  | .dk _ _ => .none
  | .dt _ _ => .none
  | .ins _ _ _ => .none
def toPyL : List D → List PyData
  | [] => []
  | d :: ds => toPy d :: toPyL ds
end
mutual
/-- data that == tells apart: no dicts, no instances, texts of signs -/
def okD : D → Bool
  | .non => true
  | .bl _ => true
  | .int _ => true
  | .str s => PyData.strOk s
  | .lst xs => okDL xs
  | .tup xs => okDL xs
  | _ => false
def okDL : List D → Bool
  | [] => true
  | d :: ds => okD d && okDL ds
end
mutual
def depD : D → Nat
  | .lst xs => depDL xs + 1
  | .tup xs => depDL xs + 1
  | _ => 0
def depDL : List D → Nat
  | [] => 0
  | d :: ds => max (depD d) (depDL ds)
end
mutual
theorem okD_lay : ∀ (d : D), okD d = true → (toPy d).canLay0 = true
  | .non, _ => by simp only [toPy, PyData.canLay0]
  | .bl _, _ => by simp only [toPy, PyData.canLay0]
  | .int _, _ => by simp only [toPy, PyData.canLay0]
  | .str s, h => by simpa only [toPy, PyData.canLay0, okD] using h
  | .lst xs, h => by simp only [toPy, PyData.canLay0]; exact okDL_lay xs (by simpa only [okD] using h)
  | .tup xs, h => by simp only [toPy, PyData.canLay0]; exact okDL_lay xs (by simpa only [okD] using h)
  | .scr _, h => by simp [okD] at h
  | .emt, h => by simp [okD] at h
  | .fn _, h => by simp [okD] at h
  | .ad _, h => by simp [okD] at h
  | .dk _ _, h => by simp [okD] at h
  | .dt _ _, h => by simp [okD] at h
  | .ins _ _ _, h => by simp [okD] at h
theorem okDL_lay : ∀ (ds : List D), okDL ds = true → PyData.canLayAll0 (toPyL ds) = true
  | [], _ => by simp only [toPyL, PyData.canLayAll0]
  | d :: ds, h => by
    simp only [okDL, Bool.and_eq_true] at h
    simp only [toPyL, PyData.canLayAll0, Bool.and_eq_true]
    exact ⟨okD_lay d h.1, okDL_lay ds h.2⟩
end
mutual
theorem depD_py : ∀ (d : D), okD d = true → (toPy d).depth = depD d
  | .non, _ => by simp only [toPy, PyData.depth, depD]
  | .bl _, _ => by simp only [toPy, PyData.depth, depD]
  | .int _, _ => by simp only [toPy, PyData.depth, depD]
  | .str s, h => by simp only [toPy, PyData.depth, depD]
  | .lst xs, h => by simp only [toPy, PyData.depth, depD, depDL_py xs (by simpa only [okD] using h)]
  | .tup xs, h => by simp only [toPy, PyData.depth, depD, depDL_py xs (by simpa only [okD] using h)]
  | .scr _, h => by simp [okD] at h
  | .emt, h => by simp [okD] at h
  | .fn _, h => by simp [okD] at h
  | .ad _, h => by simp [okD] at h
  | .dk _ _, h => by simp [okD] at h
  | .dt _ _, h => by simp [okD] at h
  | .ins _ _ _, h => by simp [okD] at h
theorem depDL_py : ∀ (ds : List D), okDL ds = true → PyData.depthAll (toPyL ds) = depDL ds
  | [], _ => by simp only [toPyL, PyData.depthAll, depDL]
  | d :: ds, h => by
    simp only [okDL, Bool.and_eq_true] at h
    simp only [toPyL, PyData.depthAll, depDL, depD_py d h.1, depDL_py ds h.2]
end
mutual
theorem Dr.dp {K : PySem.W.Frag} {F H : Hp} (s : Same F H) : ∀ (d : D) {v : V}, okD d = true → Dr c F v d → Dp K H v (toPy d)
  | .non, v, _, h => by rw [h.non_of, toPy]; exact .non
  | .bl _, v, _, h => by rw [h.bl_of, toPy]; exact .bl _
  | .int _, v, _, h => by rw [h.int_of, toPy]; exact .int _
  | .str _, v, _, h => by rw [h.str_of, toPy]; exact .str _
  | .lst xs, v, ok, h => by
    simp only [Dr] at h
    obtain ⟨a, vs, rfl, q, r⟩ := h
    rw [toPy]
    exact .lst (SqL.of (s _ _ q)) (DrL.dp s xs (by simpa only [okD] using ok) r)
  | .tup xs, v, ok, h => by
    simp only [Dr] at h
    obtain ⟨a, vs, rfl, q, r⟩ := h
    rw [toPy]
    exact .tup (SqT.of (s _ _ q)) (DrL.dp s xs (by simpa only [okD] using ok) r)
  | .scr _, v, h, _ => by simp [okD] at h
  | .emt, v, h, _ => by simp [okD] at h
  | .fn _, v, h, _ => by simp [okD] at h
  | .ad _, v, h, _ => by simp [okD] at h
  | .dk _ _, v, h, _ => by simp [okD] at h
  | .dt _ _, v, h, _ => by simp [okD] at h
  | .ins _ _ _, v, h, _ => by simp [okD] at h
theorem DrL.dp {K : PySem.W.Frag} {F H : Hp} (s : Same F H) : ∀ (ds : List D) {vs : List V}, okDL ds = true → DrL c F vs ds → DpAll K H vs (toPyL ds)
  | [], vs, _, h => by rw [h.nil_iff, toPyL]; exact .nil
  | d :: ds, vs, ok, h => by
    obtain ⟨v, vr, rfl, q, r⟩ := h.cons_iff
    simp only [okDL, Bool.and_eq_true] at ok
    rw [toPyL]
    exact .cons (Dr.dp s d ok.1 q) (DrL.dp s ds ok.2 r)
end
theorem Rk.dp {K : PySem.W.Frag} {b : Option Addr} {F M : Hp} {v : V} {d : D} (dj : Dj F M) (ok : okD d = true) (h : Rk c b F M v d) : Dp K (HH F M) v (toPy d) := by
  cases d with
  | lst ds =>
    obtain ⟨a, vs, rfl, _, q, r⟩ := h
    rw [toPy]
    exact .lst (SqL.of q) (DrL.dp dj.same ds (by simpa only [okD] using ok) r)
  | dk _ _ => simp [okD] at ok
  | dt _ _ => simp [okD] at ok
  | ins _ _ _ => simp [okD] at ok
  | scr _ => simp [okD] at ok
  | emt => simp [okD] at ok
  | fn _ => simp [okD] at ok
  | ad _ => simp [okD] at ok
  | non => exact Dr.dp (c := c) dj.same _ ok h
  | bl _ => exact Dr.dp (c := c) dj.same _ ok h
  | int _ => exact Dr.dp (c := c) dj.same _ ok h
  | str _ => exact Dr.dp (c := c) dj.same _ ok h
  | tup _ => exact Dr.dp (c := c) dj.same _ ok h
def shD (d : D) : Prop := okD d = true ∧ depD d ≤ 64
theorem shD.shaped {d : D} (h : shD d) : SeqAt.shaped (toPy d) = true := by
  show ((toPy d).canLay0 && decide ((toPy d).depth ≤ 64)) = true
  rw [Bool.and_eq_true]
  exact ⟨okD_lay d h.1, decide_eq_true (by rw [depD_py d h.1]; exact h.2)⟩
mutual
/-- Python's == on data without dicts -/
def eqD : D → D → Bool
  | .non, .non => true
  | .bl a, .bl b => a == b
  | .bl a, .int j => (if a then 1 else 0) == j
  | .int i, .bl b => i == (if b then 1 else 0)
  | .int i, .int j => i == j
  | .str x, .str y => x == y
  | .lst xs, .lst ys => eqDL xs ys
  | .tup xs, .tup ys => eqDL xs ys
  | _, _ => false
def eqDL : List D → List D → Bool
  | [], [] => true
  | x :: xs, y :: ys => eqD x y && eqDL xs ys
  | _, _ => false
end
mutual
theorem eqD_py : ∀ (d e : D), okD d = true → okD e = true → PyData.eqv (toPy d) (toPy e) = eqD d e := fun d e h1 h2 => by
  cases d <;> cases e <;> first
    | (simp [okD] at h1; done)
    | (simp [okD] at h2; done)
    | (simp only [toPy, PyData.eqv, eqD]; done)
    | (simp only [toPy, PyData.eqv, eqD]; exact eqDL_py _ _ (by simpa only [okD] using h1) (by simpa only [okD] using h2))
theorem eqDL_py : ∀ (ds es : List D), okDL ds = true → okDL es = true → PyData.eqvAll (toPyL ds) (toPyL es) = eqDL ds es
  | [], [], _, _ => by simp only [toPyL, PyData.eqvAll, eqDL]
  | [], _ :: _, _, _ => by simp only [toPyL, PyData.eqvAll, eqDL]
  | _ :: _, [], _, _ => by simp only [toPyL, PyData.eqvAll, eqDL]
  | d :: ds, e :: es, h1, h2 => by
    simp only [okDL, Bool.and_eq_true] at h1 h2
    simp only [toPyL, PyData.eqvAll, eqDL, eqD_py d e h1.1 h2.1, eqDL_py ds es h1.2 h2.2]
end
def rEqU (K : PySem.W.Frag) : R2 := fun x y H Q => rEq x y H Q ∨ rEqD K x y H Q
def rNeU (K : PySem.W.Frag) : R2 := fun x y H Q => rNe x y H Q ∨ rNeD K x y H Q
theorem op_eqU (hu : X.A.units + 64 < cLine) : OpR X (compareOp .Eq) (rEqU X.K) := OpR.or op_eq (op_eqD hu)
theorem op_neU (hu : X.A.units + 64 < cLine) : OpR X (compareOp .NotEq) (rNeU X.K) := OpR.or op_ne (op_neD hu)
def dEqB (g : Bool → Bool) : D → D → (D → Prop) → Prop
  | .int i, .int j, Q => Q (.bl (g (decide (i = j))))
  | .str i, .str j, Q => Q (.bl (g (decide (i = j))))
  | .bl i, .bl j, Q => Q (.bl (g (decide (i = j))))
  | .non, .non, Q => Q (.bl (g true))
  | .non, .int _, Q => Q (.bl (g false))
  | .int _, .non, Q => Q (.bl (g false))
  | .str _, .int _, Q => Q (.bl (g false))
  | .int _, .str _, Q => Q (.bl (g false))
  | d, e, Q => (shD d ∧ shD e) ∧ Q (.bl (g (eqD d e)))
abbrev dEq := dEqB id
abbrev dNe := dEqB not
theorem rop_eqG {g : Bool → Bool} {K : PySem.W.Frag} {r1 r2 : R2} (h1 : ∀ x y H (Q : VK), scal x y = true → Q (.bl (g (decide (x = y)))) H → r1 x y H Q) (h2 : ∀ x y H (Q : VK) d e, Dp K H x d → Dp K H y e → SeqAt.shaped d = true → SeqAt.shaped e = true → Q (.bl (g (PyData.eqv d e))) H → r2 x y H Q) :
    Rop c (fun x y H Q => r1 x y H Q ∨ r2 x y H Q) (dEqB g) := fun {b F M x y d1 d2} Qd Q dj q1 q2 hw k => by
  have deep : (shD d1 ∧ shD d2) ∧ Qd (.bl (g (eqD d1 d2))) → r1 x y (HH F M) Q ∨ r2 x y (HH F M) Q := fun ⟨⟨a, b⟩, q⟩ =>
    .inr (h2 x y _ Q _ _ (q1.dp dj a.1) (q2.dp dj b.1) a.shaped b.shaped (by rw [eqD_py d1 d2 a.1 b.1]; exact k _ _ F q (Same.refl _) dj (fun _ f _ => f) .of_bl))
  cases d1 with
  | int i =>
    cases d2 with
    | int j => rw [q1.int_of, q2.int_of]; exact .inl (h1 _ _ _ _ rfl (by rw [show decide (V.int i = V.int j) = decide (i = j) by simp]; exact k _ _ F hw (Same.refl _) dj (fun _ f _ => f) .of_bl))
    | non => rw [q1.int_of, q2.non_of]; exact .inl (h1 _ _ _ _ rfl (by rw [show decide (V.int i = V.non) = false by simp]; exact k _ _ F hw (Same.refl _) dj (fun _ f _ => f) .of_bl))
    | str j => rw [q1.int_of, q2.str_of]; exact .inl (h1 _ _ _ _ rfl (by rw [show decide (V.int i = V.str j) = false by simp]; exact k _ _ F hw (Same.refl _) dj (fun _ f _ => f) .of_bl))
    | _ => exact deep hw
  | str i =>
    cases d2 with
    | str j => rw [q1.str_of, q2.str_of]; exact .inl (h1 _ _ _ _ rfl (by rw [show decide (V.str i = V.str j) = decide (i = j) by simp]; exact k _ _ F hw (Same.refl _) dj (fun _ f _ => f) .of_bl))
    | int j => rw [q1.str_of, q2.int_of]; exact .inl (h1 _ _ _ _ rfl (by rw [show decide (V.str i = V.int j) = false by simp]; exact k _ _ F hw (Same.refl _) dj (fun _ f _ => f) .of_bl))
    | _ => exact deep hw
  | bl i =>
    cases d2 with
    | bl j => rw [q1.bl_of, q2.bl_of]; exact .inl (h1 _ _ _ _ rfl (by rw [show decide (V.bl i = V.bl j) = decide (i = j) by simp]; exact k _ _ F hw (Same.refl _) dj (fun _ f _ => f) .of_bl))
    | _ => exact deep hw
  | non =>
    cases d2 with
    | non => rw [q1.non_of, q2.non_of]; exact .inl (h1 _ _ _ _ rfl (by rw [show decide (V.non = V.non) = true by simp]; exact k _ _ F hw (Same.refl _) dj (fun _ f _ => f) .of_bl))
    | int j => rw [q1.non_of, q2.int_of]; exact .inl (h1 _ _ _ _ rfl (by rw [show decide (V.non = V.int j) = false by simp]; exact k _ _ F hw (Same.refl _) dj (fun _ f _ => f) .of_bl))
    | _ => exact deep hw
  | _ => exact deep hw
theorem rop_eq : Rop (cy X) (rEqU X.K) dEq := rop_eqG (g := id) (fun x y H Q h q => ⟨h, q⟩) (fun x y H Q d e a b s t q => ⟨d, e, a, b, s, t, q⟩)
theorem rop_ne : Rop (cy X) (rNeU X.K) dNe := rop_eqG (g := not) (fun x y H Q h q => ⟨h, q⟩) (fun x y H Q d e a b s t q => ⟨d, e, a, b, s, t, q⟩)
def dIsB (g : Bool → Bool) : D → D → (D → Prop) → Prop
  | .bl a, .bl b, Q => Q (.bl (g (decide (a = b))))
  | .non, .non, Q => Q (.bl (g true))
  | _, .non, Q => Q (.bl (g false))
  | _, _, _ => False
abbrev dIs := dIsB id
abbrev jm := dIsB not
theorem ro1_neg : Ro1 c (rU fun i => .int (-i)) (fun d Q => match d with | .int i => Q (.int (-i)) | _ => False) := fun {b F M x d1} Qd Q dj r1 hw k => by
  cases d1 with
  | int i => exact ⟨i, r1.int_of, k _ _ F hw (Same.refl _) dj .of_int⟩
  | _ => exact hw.elim
section
variable {κ : Type} [DecidableEq κ]
def alD : List κ → List D → κ → Option D
  | k :: ks, d :: ds, x => if k = x then some d else alD ks ds x
  | _, _, _ => none
theorem alD_val {F : Hp} : ∀ {ps : List (κ × V)} {ds : List D} {k : κ}, DrL c F (ps.map (·.2)) ds → (∀ d, alD (ps.map (·.1)) ds k = some d → ∃ v, valV ps k = some v ∧ Dr c F v d) ∧ (alD (ps.map (·.1)) ds k = none → valV ps k = none)
  | [], ds, k, h => by
    have e := h.length
    cases ds with
    | nil => exact ⟨fun d z => by simp [alD] at z, fun _ => rfl⟩
    | cons d ds => simp at e
  | p :: ps, ds, k, h => by
    cases ds with
    | nil => have e := h.length; simp at e
    | cons d ds =>
      obtain ⟨v, vr, e, q, r⟩ := h.cons_iff
      have e1 : p.2 = v := by injection e
      have e2 : ps.map (·.2) = vr := by injection e
      subst e1 e2
      have ih := alD_val (k := k) r
      by_cases z : p.1 = k
      · rw [valV_pos z]
        refine ⟨fun d' hd => ⟨p.2, rfl, ?_⟩, fun hn => ?_⟩
        · rw [List.map_cons, alD, if_pos z] at hd
          rw [← Option.some.inj hd]; exact q
        · rw [List.map_cons, alD, if_pos z] at hn; cases hn
      · rw [valV_neg z, List.map_cons, alD, if_neg z]
        exact ih
end
/-- a key -/
def keyD : D → Option Key
  | .int i => some (.inl i)
  | .str s => some (.inr s)
  | _ => none
def keysD : List D → Option (List Key)
  | [] => some []
  | d :: ds => match keyD d, keysD ds with
    | some k, some ks => some (k :: ks)
    | _, _ => none
theorem keyD_v {F : Hp} {v : V} : ∀ {d : D} {k : Key}, keyD d = some k → Dr c F v d → v = kV k
  | .int i, k, e, h => by rw [h.int_of]; cases e; rfl
  | .str i, k, e, h => by rw [h.str_of]; cases e; rfl
  | .non, k, e, _ => nomatch e
  | .bl _, k, e, _ => nomatch e
  | .lst _, k, e, _ => nomatch e
  | .tup _, k, e, _ => nomatch e
  | .scr _, k, e, _ => nomatch e
  | .emt, k, e, _ => nomatch e
  | .fn _, k, e, _ => nomatch e
  | .ad _, k, e, _ => nomatch e
  | .dk _ _, k, e, _ => nomatch e
  | .dt _ _, k, e, _ => nomatch e
  | .ins _ _ _, k, e, _ => nomatch e
theorem keysD_v {F : Hp} : ∀ {ds : List D} {vs : List V} {ks : List Key}, keysD ds = some ks → DrL c F vs ds → vs = ks.map kV
  | [], vs, ks, e, h => by rw [h.nil_iff]; cases e; rfl
  | d :: ds, vs, ks, e, h => by
    obtain ⟨v, vr, rfl, q, r⟩ := h.cons_iff
    unfold keysD at e
    cases e1 : keyD d with
    | none => rw [e1] at e; cases e
    | some k =>
      cases e2 : keysD ds with
      | none => rw [e1, e2] at e; cases e
      | some kr =>
        rw [e1, e2] at e; cases e
        rw [keyD_v e1 q, keysD_v e2 r]; rfl
/-- what the dict holds at the key -/
def getD' : D → D → Option (Option D)
  | .dk ks ds, y => (keyD y).map fun k => alD ks ds k
  | .dt ks ds, .tup ys => (keysD ys).map fun k => alD ks ds k
  | _, _ => none
theorem getD_DGet {b : Option Addr} {F M : Hp} {x y : V} {d e : D} {o : Option D} (dj : Dj F M) (r1 : Rk c b F M x d) (r2 : Rk c b F M y e) (h : getD' d e = some o) : ∃ a ov, x = .ref a ∧ DGet (HH F M) a y ov ∧
    (∀ z, o = some z → ∃ v, ov = some v ∧ Dr c F v z) ∧ (o = none → ov = none) := by
  cases d with
  | dk ks ds =>
    obtain ⟨a, ps, rfl, _, q, k, r⟩ := r1
    obtain ⟨kk, hk, e1⟩ := Option.map_eq_some_iff.mp (show (keyD e).map (fun k => alD ks ds k) = some o from h)
    subst k
    have ev : y = kV kk := by
      cases e with
      | int i => rw [r2.int_of]; cases hk; rfl
      | str i => rw [r2.str_of]; cases hk; rfl
      | _ => cases hk
    have al := alD_val (c := c) (k := kk) r
    refine ⟨a, valV ps kk, rfl, .inl ⟨ps, kk, q, ev, rfl⟩, fun z hz => al.1 z (by rw [← hz]; exact e1), fun hn => al.2 (by rw [← hn]; exact e1)⟩
  | dt ks ds =>
    obtain ⟨a, ps, rfl, _, q, k, r⟩ := r1
    cases e with
    | tup ys =>
      obtain ⟨kk, hk, e1⟩ := Option.map_eq_some_iff.mp (show (keysD ys).map (fun k => alD ks ds k) = some o from h)
      subst k
      obtain ⟨bb, vs, rfl, hb, rb⟩ := r2.tup_of
      have ev := keysD_v hk rb
      have al := alD_val (c := c) (k := kk) r
      refine ⟨a, valV ps kk, rfl, .inr ⟨ps, kk, bb, q, rfl, by rw [← ev]; exact dj.f hb, rfl⟩, fun z hz => al.1 z (by rw [← hz]; exact e1), fun hn => al.2 (by rw [← hn]; exact e1)⟩
    | _ => cases h
  | _ => cases h
def rIxD : R2 := fun x y H Q => ∃ a v, x = .ref a ∧ DGet H a y (some v) ∧ Q v H
theorem ix_dict (hu : X.A.units + 1 < cLine) : IxR X rIxD := by
  intro value slice pins s σ H x y v u Q I rx ry h hs
  obtain ⟨a, w, rfl, g, q⟩ := h
  cases rx
  have hT := dict_typeIs I g
  have h₂ : wpAny (model X.prog X.w) X.A (getItem (.ref a) u) (EP X pins σ Q) X.xe s := d_getItem hu I g ry fun w' s' I' rw' => ⟨w, H, I', rw', q⟩
  unfold subscriptTail
  refine wpAny_bind ?_
  rw [getitemInPython_of_ne hT.not_modules]
  refine wpAny_bind (wpAny_specialOf hT PySem.F.slot_dict_getitem.lookup ?_)
  have fin : wpAny (model X.prog X.w) X.A (subscripted slice false (.ref a) u) (fun r s₃ => wpAny (model X.prog X.w) X.A (letTemporaryGo value (.ref a) r >>= fun _ => pure r) (EP X pins σ Q) X.xe s₃) X.xe s := by
    rw [hs]
    exact wpAny_operating (wpAny_mono h₂ (fun r s₃ h₃ => wpAny_bind (wpAny_letTemporaryGo (wpAny_pure h₃))) fun _ _ x => x)
  first
    | exact wpAny_pure (wpAny_bind fin)
    | exact wpAny_bind (wpAny_pure (wpAny_bind fin))
    | exact wpAny_bind fin
def rIxU (K : PySem.W.Frag) : R2 := fun x y H Q => rIx K x y H Q ∨ rIxD x y H Q
theorem ix_U (hu : X.A.units + 1 < cLine) : IxR X (rIxU X.K) := IxR.or ix_seq (ix_dict hu)
def dIx : D → D → (D → Prop) → Prop
  | .lst ds, .int i, Q => ∃ d, atI ds i = some d ∧ Q d
  | .tup ds, .int i, Q => ∃ d, atI ds i = some d ∧ Q d
  | .scr ds, .int i, Q => ∃ d, atI ds i = some d ∧ Q d
  | .str z, .int i, Q => z.length ≤ sizeLine ∧ ∃ n, atI z.cps.toList i = some n ∧ Q (.str ⟨#[n]⟩)
  | x, y, Q => ∃ d, getD' x y = some (some d) ∧ Q d
theorem atI_drl {F : Hp} {vs : List V} {ds : List D} {i : Int} {d : D} (r : DrL c F vs ds) (h : atI ds i = some d) : ∃ v, atI vs i = some v ∧ Dr c F v d := by
  unfold atI at h ⊢
  rw [r.length]
  cases e : ixN ds.length i with
  | none => rw [e] at h; cases h
  | some j =>
    rw [e] at h
    obtain ⟨v, h1, h2⟩ := r.get (i := j) h
    exact ⟨v, h1, h2⟩
theorem rop_ix : Rop (cy X) (rIxU X.K) dIx := fun {b F M x y d1 d2} Qd Q dj q1 q2 hw k => by
  have dict : (∃ d, getD' d1 d2 = some (some d) ∧ Qd d) → rIxU X.K x y (HH F M) Q := fun ⟨d, e, q⟩ => by
    obtain ⟨a, ov, e1, g, h1, _⟩ := getD_DGet dj q1 q2 e
    obtain ⟨v, e2, r⟩ := h1 d rfl
    subst e2
    exact .inr ⟨a, v, e1, g, k _ _ F q (Same.refl _) dj (fun _ f _ => f) r⟩
  cases d1 with
  | lst ds =>
    cases d2 with
    | int i =>
      obtain ⟨d, e, q⟩ := hw
      obtain ⟨a, vs, rfl, _, h1, r⟩ := q1.lst_of
      obtain ⟨v, hv, rv⟩ := atI_drl r e
      exact .inl (.inl ⟨a, vs, i, v, rfl, q2.int_of, SqL.of h1, hv, k _ _ F q (Same.refl _) dj (fun _ f _ => f) rv⟩)
    | _ => exact dict hw
  | tup ds =>
    cases d2 with
    | int i =>
      obtain ⟨d, e, q⟩ := hw
      obtain ⟨a, vs, rfl, h1, r⟩ := q1.tup_of
      obtain ⟨v, hv, rv⟩ := atI_drl r e
      exact .inl (.inr (.inl ⟨a, vs, i, v, rfl, q2.int_of, SqT.of (dj.f h1), hv, k _ _ F q (Same.refl _) dj (fun _ f _ => f) rv⟩))
    | _ => exact dict hw
  | emt => exact dict hw
  | fn _ => exact dict hw
  | ad _ => exact dict hw
  | scr ds =>
    cases d2 with
    | int i =>
      obtain ⟨d, e, q⟩ := hw
      obtain ⟨a, vs, rfl, h1, r⟩ := q1.scr_of
      obtain ⟨v, hv, rv⟩ := atI_drl r e
      exact .inl (.inl ⟨a, vs, i, v, rfl, q2.int_of, dj.same.seq h1, hv, k _ _ F q (Same.refl _) dj (fun _ f _ => f) rv⟩)
    | _ => exact dict hw
  | str z =>
    cases d2 with
    | int i =>
      obtain ⟨hz, n, e, q⟩ := hw
      exact .inl (.inr (.inr ⟨z, i, n, q1.str_of, q2.int_of, hz, e, k _ _ F q (Same.refl _) dj (fun _ f _ => f) .of_str⟩))
    | _ => exact dict hw
  | non => exact dict (by cases d2 <;> exact hw)
  | bl _ => exact dict (by cases d2 <;> exact hw)
  | int _ => exact dict (by cases d2 <;> exact hw)
  | dk _ _ => exact dict (by cases d2 <;> exact hw)
  | dt _ _ => exact dict (by cases d2 <;> exact hw)
  | ins _ _ _ => exact dict (by cases d2 <;> exact hw)
theorem de_ix {a b' : Expr} {ta tb : TE} {wa wb : WE} {pos : Pos} (hu : X.A.units + 1 < cLine) (ha : DP X a ta wa) (hb : DP X b' tb wb) (hs : PlainIx b') : DE X (.Subscript a b' pos) (tOp (rIxU X.K) ta tb) (wOp dIx wa wb) :=
  ⟨pe_ix (ix_U hu) ha.pe hb.pe hs, snd_op rop_ix ha.sn hb.sn⟩
def flatD : D → Bool
  | .non => true
  | .bl _ => true
  | .int _ => true
  | .str _ => true
  | _ => false
theorem flatD_v {F : Hp} {v : V} : ∀ {d : D}, flatD d = true → Dr c F v d → flatV v = true
  | .non, _, h => by rw [h.non_of]; rfl
  | .bl _, _, h => by rw [h.bl_of]; rfl
  | .int _, _, h => by rw [h.int_of]; rfl
  | .str _, _, h => by rw [h.str_of]; rfl
  | .lst _, e, _ => nomatch e
  | .tup _, e, _ => nomatch e
  | .scr _, e, _ => nomatch e
  | .emt, e, _ => nomatch e
  | .fn _, e, _ => nomatch e
  | .ad _, e, _ => nomatch e
  | .dk _ _, e, _ => nomatch e
  | .dt _ _, e, _ => nomatch e
  | .ins _ _ _, e, _ => nomatch e
theorem flatDL_v {F : Hp} : ∀ {ds : List D} {vs : List V}, ds.all flatD = true → DrL c F vs ds → vs.all flatV = true
  | [], vs, _, h => by rw [h.nil_iff]; rfl
  | d :: ds, vs, e, h => by
    obtain ⟨v, vr, rfl, q, r⟩ := h.cons_iff
    rw [List.all_cons, Bool.and_eq_true] at e
    rw [List.all_cons, flatD_v e.1 q, flatDL_v e.2 r]; rfl
theorem eqV_D {F : Hp} {u v : V} {d e : D} (h1 : flatD d = true) (h2 : flatD e = true) (q1 : Dr c F u d) (q2 : Dr c F v e) : eqV u v = eqD d e := by
  cases d with
  | non => rw [q1.non_of]; cases e with
    | non => rw [q2.non_of]; simp only [eqD]; rfl
    | bl _ => rw [q2.bl_of]; simp only [eqD]; rfl
    | int _ => rw [q2.int_of]; simp only [eqD]; rfl
    | str _ => rw [q2.str_of]; simp only [eqD]; rfl
    | _ => cases h2
  | bl _ => rw [q1.bl_of]; cases e with
    | non => rw [q2.non_of]; simp only [eqD]; rfl
    | bl _ => rw [q2.bl_of]; simp only [eqD]; rfl
    | int _ => rw [q2.int_of]; simp only [eqD]; rfl
    | str _ => rw [q2.str_of]; simp only [eqD]; rfl
    | _ => cases h2
  | int _ => rw [q1.int_of]; cases e with
    | non => rw [q2.non_of]; simp only [eqD]; rfl
    | bl _ => rw [q2.bl_of]; simp only [eqD]; rfl
    | int _ => rw [q2.int_of]; simp only [eqD]; rfl
    | str _ => rw [q2.str_of]; simp only [eqD]; rfl
    | _ => cases h2
  | str _ => rw [q1.str_of]; cases e with
    | non => rw [q2.non_of]; simp only [eqD]; rfl
    | bl _ => rw [q2.bl_of]; simp only [eqD]; rfl
    | int _ => rw [q2.int_of]; simp only [eqD]; rfl
    | str _ => rw [q2.str_of]; simp only [eqD]; rfl
    | _ => cases h2
  | _ => cases h1
theorem inV_D {F : Hp} {x : V} {d : D} (hd : flatD d = true) (q : Dr c F x d) : ∀ {ds : List D} {vs : List V}, ds.all flatD = true → DrL c F vs ds → inV x vs = ds.any fun z => eqD z d
  | [], vs, _, h => by rw [h.nil_iff]; rfl
  | e :: ds, vs, f, h => by
    obtain ⟨v, vr, rfl, qe, r⟩ := h.cons_iff
    rw [List.all_cons, Bool.and_eq_true] at f
    have ih := inV_D hd q f.2 r
    unfold inV at ih ⊢
    rw [List.any_cons, List.any_cons, ih, eqV_D f.1 hd qe q]
theorem any_py {d : D} (hd : okD d = true) : ∀ (ds : List D), okDL ds = true → (toPyL ds).any (fun z => PyData.eqv z (toPy d)) = ds.any fun z => eqD z d
  | [], _ => by simp only [toPyL, List.any_nil]
  | e :: ds, h => by
    simp only [okDL, Bool.and_eq_true] at h
    simp only [toPyL, List.any_cons, any_py hd ds h.2, eqD_py e d h.1 hd]
def rInDict (g : Bool → Bool) : R2 := fun x y H Q => ∃ a o, y = .ref a ∧ DGet H a x o ∧ Q (.bl (g o.isSome)) H
theorem op_notInDict (hu : X.A.units + 1 < cLine) : OpR X (compareOp .NotIn) (rInDict not) := by
  intro pins s σ H x y v u Q I rx ry h
  obtain ⟨a, o, rfl, g, q⟩ := h
  cases ry
  exact d_notIn hu I g rx fun s' I' => ⟨.bl _, H, I', rfl, q⟩
/-- x in a list, a tuple, a dict, a text -/
def dInB (g : Bool → Bool) : D → D → (D → Prop) → Prop
  | x, .lst ds, Q => ((flatD x = true ∧ ds.all flatD = true) ∨ (shD x ∧ shD (.lst ds))) ∧ Q (.bl (g (ds.any fun z => eqD z x)))
  | x, .tup ds, Q => (flatD x = true ∧ ds.all flatD = true) ∧ Q (.bl (g (ds.any fun z => eqD z x)))
  | .str s, .str z, Q => ∃ n, s = ⟨#[n]⟩ ∧ Q (.bl (g (decide (n ∈ z.cps.toList))))
  | x, y, Q => ∃ o, getD' y x = some o ∧ Q (.bl (g o.isSome))
def rInG (g : Bool → Bool) (rf rd : R2) : R2 := fun x y H Q => rf x y H Q ∨ rd x y H Q ∨ rInDict g x y H Q ∨ (fun x y H Q => ∃ (n : Nat) (z : Str), x = .str ⟨#[n]⟩ ∧ y = .str z ∧ Q (.bl (g (decide (n ∈ z.cps.toList)))) H) x y H Q
theorem rop_inG {g : Bool → Bool} {rf rd : R2} (hf : ∀ (x : V) (p : Addr) (xs : List V) (H : Hp) (Q : VK), (SqL X.K H p xs ∨ SqT X.K H p xs) → flatV x = true → xs.all flatV = true → Q (.bl (g (inV x xs))) H → rf x (.ref p) H Q)
    (hd : ∀ (x y : V) (H : Hp) (Q : VK) d ds, Dp X.K H x d → Dp X.K H y (.list ds) → SeqAt.shaped d = true → SeqAt.shaped (.list ds) = true → Q (.bl (g (ds.any fun z => PyData.eqv z d))) H → rd x y H Q) : Rop (cy X) (rInG g rf rd) (dInB g) := fun {b F M x y d1 d2} Qd Q dj q1 q2 hw k => by
  have fin : ∀ {t : Bool}, Qd (.bl t) → Q (.bl t) (HH F M) := fun q => k _ _ F q (Same.refl _) dj (fun _ f _ => f) .of_bl
  have dict : (∃ o, getD' d2 d1 = some o ∧ Qd (.bl (g o.isSome))) → rInG g rf rd x y (HH F M) Q := fun ⟨o, e, q⟩ => by
    obtain ⟨a, ov, e1, g1, h1, h2⟩ := getD_DGet dj q2 q1 e
    have es : o.isSome = ov.isSome := by
      cases o with
      | none => rw [h2 rfl]; rfl
      | some z => obtain ⟨v, hv, _⟩ := h1 z rfl; rw [hv]; rfl
    exact .inr (.inr (.inl ⟨a, ov, e1, g1, by rw [← es]; exact fin q⟩))
  have flat : ∀ {a : Addr} {vs : List V} {ds : List D}, y = .ref a → (SqL X.K (HH F M) a vs ∨ SqT X.K (HH F M) a vs) → DrL (cy X) F vs ds → flatD d1 = true → ds.all flatD = true → Qd (.bl (g (ds.any fun z => eqD z d1))) → rInG g rf rd x y (HH F M) Q := fun {a vs ds} e hs r f1 f2 q => by
    subst e
    have q1' : Dr (cy X) F x d1 := by cases d1 <;> first | exact q1 | cases f1
    exact .inl (hf _ _ _ _ _ hs (flatD_v f1 q1') (flatDL_v f2 r) (by rw [inV_D f1 q1' f2 r]; exact fin q))
  cases d2 with
  | lst ds =>
    have hw : ((flatD d1 = true ∧ ds.all flatD = true) ∨ (shD d1 ∧ shD (.lst ds))) ∧ Qd (.bl (g (ds.any fun z => eqD z d1))) := by cases d1 <;> exact hw
    obtain ⟨hc, q⟩ := hw
    obtain ⟨a, vs, e, _, h1, r⟩ := q2.lst_of
    rcases hc with ⟨f1, f2⟩ | ⟨s1, s2⟩
    · exact flat e (.inl (SqL.of h1)) r f1 f2 q
    · have ok2 : okDL ds = true := by simpa only [okD] using s2.1
      refine .inr (.inl (hd _ _ _ _ (toPy d1) (toPyL ds) (q1.dp dj s1.1) ?_ s1.shaped ?_ ?_))
      · have := q2.dp (K := X.K) dj s2.1; rwa [toPy] at this
      · have := s2.shaped; rwa [toPy] at this
      · rw [any_py s1.1 ds ok2]; exact fin q
  | tup ds =>
    have hw : (flatD d1 = true ∧ ds.all flatD = true) ∧ Qd (.bl (g (ds.any fun z => eqD z d1))) := by cases d1 <;> exact hw
    obtain ⟨⟨f1, f2⟩, q⟩ := hw
    obtain ⟨a, vs, e, h1, r⟩ := q2.tup_of
    exact flat e (.inr (SqT.of (dj.f h1))) r f1 f2 q
  | str z =>
    cases d1 with
    | str s =>
      obtain ⟨n, e, q⟩ := hw
      subst e
      exact .inr (.inr (.inr ⟨n, z, q1.str_of, q2.str_of, fin q⟩))
    | _ => exact dict hw
  | non => exact dict (by cases d1 <;> exact hw)
  | bl _ => exact dict (by cases d1 <;> exact hw)
  | int _ => exact dict (by cases d1 <;> exact hw)
  | scr _ => exact dict (by cases d1 <;> exact hw)
  | emt => exact dict (by cases d1 <;> exact hw)
  | fn _ => exact dict (by cases d1 <;> exact hw)
  | ad _ => exact dict (by cases d1 <;> exact hw)
  | dk _ _ => exact dict (by cases d1 <;> exact hw)
  | dt _ _ => exact dict (by cases d1 <;> exact hw)
  | ins _ _ _ => exact dict (by cases d1 <;> exact hw)
abbrev dNotIn := dInB not
def rNotInU (K : PySem.W.Frag) : R2 := rInG not (rIn K true) (rNotInD K)
theorem op_notInU (hu : X.A.units + 65 < cLine) : OpR X (compareOp .NotIn) (rNotInU X.K) := OpR.or op_notIn_seq (OpR.or (op_notInD hu) (OpR.or (op_notInDict (by omega)) op_notIn_sign))
theorem rop_notIn : Rop (cy X) (rNotInU X.K) dNotIn := rop_inG (g := not) (fun x p xs H Q h f1 f2 q => ⟨p, xs, rfl, h, f1, f2, by rw [if_pos rfl]; exact q⟩) (fun x y H Q d ds a b s t q => ⟨d, ds, a, b, s, t, q⟩)
end
end DL
namespace DL
open PySem PySem.Spec PyProof.Rows L2
variable [Lk]
/-- as FnOk, where no repr is under way; nothing is raised -/
structure FnG (P : Program) (w : World) (K : PySem.W.Frag) (mg : Str → Option Value) (base : Heap) (k : Nat) (f : Addr) (fd : FuncData) (ps : List Str) (sp : Sp) : Prop where
  len : ∀ vs H Q E, sp vs H Q E → vs.length = ps.length
  run : ∀ (A : Around) (outer : List Env) (s : Shared) (H : Hp) (args : Args) (us : List Value) (vs : List V) (Q : VK),
    Room k A → A.guards = some [] → Env0 P w K mg base A outer s H → BindsTo s fd args (ps.zip us) → Vals vs us → sp vs H Q E0 →
    codeAny (model P w) A (.call (.ref f) args) (fun r s' => ∃ u, r = .ok (.ret u) ∧ CE outer P w H s Q u s') s
theorem FnG.of {P : Program} {w : World} {K : PySem.W.Frag} {mg : Str → Option Value} {base : Heap} {k : Nat} {f : Addr} {fd : FuncData} {ps : List Str} {sp : Sp} (h : FnOk P w K mg base CX0 k f fd ps sp) : FnG P w K mg base k f fd ps sp := by
  refine ⟨h.len, fun A outer s H args us vs Q hr _ e0 hb hv hs => ?_⟩
  refine codeAny_mono (h.run A outer s H args us vs Q E0 hr e0 hb hv hs) fun r s' q => ?_
  match r, q with
  | .ok (.ret u), q => exact ⟨u, rfl, q⟩
theorem FnG.mono {P : Program} {w : World} {K : PySem.W.Frag} {mg : Str → Option Value} {base : Heap} {j k : Nat} {f : Addr} {fd : FuncData} {ps : List Str} {sp : Sp} (h : FnG P w K mg base j f fd ps sp) (hjk : j ≤ k) : FnG P w K mg base k f fd ps sp :=
  ⟨h.len, fun A outer s H args us vs Q hr => h.run A outer s H args us vs Q (hr.mono hjk)⟩
section
variable {P : Program} {w : World} {K : PySem.W.Frag} {mg : Str → Option Value} {base : Heap}
/-- a def of the text by its body, no repr under way -/
theorem fnG_of {x qual : Str} {st : Stmt} {f : Addr} {fd : FuncData} {N ps : List Str} {k : Nat} {sp : Sp} (F : Fun K x qual st f fd) (S : FnScope N ps (defScope st)) (len : ∀ vs H Q E, sp vs H Q E → vs.length = ps.length)
    (body : ∀ (cdv : Value) (A : Around) (outer : List Env) (s : Shared) (H : Hp) (vs : List V) (Q : VK), Room k (A.deeper (envOfC qual (defScope st) s.heap.objs.size f cdv)) → (A.deeper (envOfC qual (defScope st) s.heap.objs.size f cdv)).guards = some [] → sp vs H Q E0 →
      ∃ t, PSs (cxOf CX0 P w K mg base N qual (defScope st) f cdv A outer s H E0).nox (defBody st) t ∧ t { nx := fun _ H' => Q .non H', rt := Q } (L2.start N vs) H) : FnG P w K mg base (k + 1) f fd ps sp := by
  obtain ⟨oc, od, kV, doc, pm, an, cdv, ct, osl, rfl, look, hcode⟩ := F.ex
  refine ⟨len, fun A outer s H args us vs Q hr hgd e0 hb rv hsp => ?_⟩
  have hlen := len vs H Q E0 hsp
  have kin : K.In s.heap := e0.mod.kin.keeps fun y o q => (e0.bs y o q).1
  have lim : s.heap.NoLimit := e0.mod.nolimit.keeps fun y o q => (e0.bs y o q).1
  have kinds : ∀ y ∈ ps.zip us, (defScope st).names.lookup y.1 = some .local ∨
      ((defScope st).names.lookup y.1 = some .cell ∧ ((cellsFrom (s.heap.objs.size + 1) (defScope st).names []).lookup y.1).isSome = true) := by
    rintro ⟨n, v⟩ hy
    have hn := (List.of_mem_zip hy).1
    exact (S.par n hn).elim (fun q => .inl q) fun q => .inr ⟨q, PySem.W.cellsFrom_some _ _ _ (.inl q)⟩
  refine codeAny_call_function hr.depth (kin _ _ look) rfl S.co S.gen rfl
    (PySem.W.codeRec_of kin hcode) (hb _ _ _ _ ?_)
  refine wpAny_newFunctionEnv_cells S.kind kinds
    fun env he s1 x => ?_
  subst he
  refine ⟨lim.keeps x.toInCall.keep, codeAny_func ?_⟩
  obtain ⟨t, ht, hq⟩ := body cdv A outer s H vs Q (hr.deeper _) hgd hsp
  have I0 := inv_start (CX := CX0) (E := E0) (P := P) (w := w) (mg := mg) (base := base) (f := f) (cd := cdv) (qual := qual) (A := A) (outer := outer) S hr.hd e0 hlen rv x
  refine wpAny_mono (ht.run [] s1 _ H _ (I0.wish _) hq) (fun fl s' hs => ?_)
    fun _ _ z => z.elim
  match fl, hs with
  | .ret u, ⟨v, σ', H', J, r, q⟩ => exact ⟨u, rfl, v, H', J.os, J.bare, J.base, J.hok, r, q⟩
  | .next, ⟨σ', H', J, q⟩ => exact ⟨.none, rfl, .non, H', J.os, J.bare, J.base, J.hok, rfl, q⟩
  | .brk, ⟨_, _, _, q⟩ => exact q.elim
  | .cont, ⟨_, _, _, q⟩ => exact q.elim
end
section
variable {X : Cx} {k : Nat} {f : Addr} {fd : FuncData} {ps : List Str} {sp : Sp} {x : Str} {p pos : Pos} {e : Expr} {es : List Expr} {t : TA}
theorem peG_call (G : FnG X.prog X.w X.K X.mg X.base k f fd ps sp) (hr : Room k X.A) (hgd : X.A.guards = some []) (hg : Gl X x) (hm : X.mg x = some (.ref f)) (hk : PySem.W.keepIn X.K (.ref f) = true) (hb : Binds X.K fd ps [])
    (ha : PA X (e :: es) t) (hdb : (x == ("__debug__" : Str)) = false := by decide) (he : starEach (e :: es) X.env = (false, eval e X.env) :: starEach es X.env := by rfl) (hpl : (backTo pos (starEach es X.env)).any (·.1) = false := by rfl) :
    PE X (.Call (.Name x p) (e :: es) [] pos) (tCall sp [] E0 t) := by
  refine ⟨fun pins s σ H Q I h => wpAny_Call_Name_kw (ld_glob I hg hm ?_ hdb)⟩
  refine PySem.W.callWith_K (h₀ := X.base) I.ok.mod.kin hk
    (thn (ha.run pos pins s σ H _ I h) fun us s1 ⟨vs, H1, I1, r, q⟩ => ⟨I1.kIn, ?_⟩) he hpl
  have q : sp (vs ++ []) H1 Q E0 := q
  rw [List.append_nil] at q
  have hl : (us ++ []).length = ps.length := by
    rw [List.append_nil, ← r.length]
    exact G.len _ _ _ _ q
  have hb1 := hb s1 us I1.kIn hl
  rw [List.append_nil] at hb1
  refine wpAny_call (codeAny_mono (G.run X.A X.stack s1 H1 ⟨us, []⟩ us vs Q hr hgd I1.env0 hb1 r q) ?_)
  rintro res s' ⟨u, rfl, hq⟩
  exact I1.after hq
end
section
variable {P : Program} {w : World} {K : PySem.W.Frag} {mg : Str → Option Value} {base : Heap}
/-- what a body's reading over data asks at its start -/
theorem start_rel {N : List Str} {b : Option Addr} {F M : Hp} {as : List Sl} {vs : List V} (dj : Dj F M) (bx : (∀ a, b = some a → Box F M a) ∧ NT M) (ar : ArgsD ⟨K, mg⟩ b F as vs) (hl : Lk.lk b F M) : Rel ⟨K, mg⟩ b (startD N as) (L2.start N vs) F M M := by
  refine ⟨dj, ?_, bx.1, hl⟩
  unfold startD L2.start
  rw [ar.length]
  exact ar.rel bx.2
theorem fin_rt {c : Cy} {b : Option Addr} {F M : Hp} {Q : VK} {Qd : D → Prop} (hq : ∀ d v F' M', Qd d → Same F F' → Dj F' M' → (∀ a, b = some a → Box F' M' a) → MR b M M' → Dr c F' v d → Q v (HH F' M')) :
    Fin c b F M { nx := fun _ => Qd .non, rt := fun d _ => Qd d } { nx := fun _ H' => Q .non H', rt := Q } := by
  refine ⟨fun ρ' σ' F' M' M0' e s' R' m' => ?_, fun _ _ _ _ _ z => z.elim, fun _ _ _ _ _ z => z.elim, fun d v ρ' σ' F' M' M0' e s' R' m' r => ?_⟩
  rotate_left
  · obtain ⟨F2, s2, eh, dj2⟩ := R'.env.frzAll R'.dj
    rw [eh]
    exact hq d v F2 M0' e (s'.trans s2) dj2 (fun a z => (R'.box a z).leD (.of s2)) m' (r.up s2)
  obtain ⟨F2, s2, eh, dj2⟩ := R'.env.frzAll R'.dj
  show Q .non (HH F' M')
  rw [eh]
  exact hq .non .non F2 M0' e (s'.trans s2) dj2 (fun a z => (R'.box a z).leD (.of s2)) m' .of_non
theorem fun_okG {x qual : Str} {st : Stmt} {f : Addr} {fd : FuncData} {N ps : List Str} {k : Nat} {wf : WFn} (F : Fun K x qual st f fd) (S : FnScope N ps (defScope st)) (len : ∀ as Qd, wf as Qd → as.length = ps.length)
    (hbody : ∀ (cdv : Value) (A : Around) (outer : List Env) (s : Shared) (H : Hp), Room k (A.deeper (envOfC qual (defScope st) s.heap.objs.size f cdv)) → (A.deeper (envOfC qual (defScope st) s.heap.objs.size f cdv)).guards = some [] →
      letI := Lk.top
      ∃ t ws, DSs (cxOf CX0 P w K mg base N qual (defScope st) f cdv A outer s H E0).nox (defBody st) t ws ∧ ∀ as Qd, wf as Qd → ws (startD N as) { nx := fun _ => Qd .non, rt := fun d _ => Qd d }) :
    FnG P w K mg base (k + 1) f fd ps (spF ⟨K, mg⟩ wf) := by
  refine fnG_of F S (fun vs H Q E h => ?_) (fun cdv A outer s H vs Q hr hgd h => ?_)
  · obtain ⟨b, F, M, as, Qd, _, _, _, ar, hw, _⟩ := h
    rw [ar.length, len as Qd hw]
  · obtain ⟨b, F, M, as, Qd, rfl, dj, bx, ar, hw, hq⟩ := h
    letI := Lk.top
    obtain ⟨t, ws, hd, hp⟩ := hbody cdv A outer s (HH F M) hr hgd
    exact ⟨t, hd.ps, hd.sn (start_rel dj bx ar trivial) _ _ (hp as Qd hw) (fin_rt hq)⟩
end
/-- the law's promise: a list of at most 63 ints, True -/
def spLaw (K : PySem.W.Frag) : Sp := fun vs H Q _ => ∃ (a : Addr) (ns : List Int), vs = [.ref a] ∧ SqL K H a (ns.map V.int) ∧ ns.length ≤ 63 ∧ ∀ H', Q (.bl true) H'
theorem ints_vals {ns : List Int} : ∀ {us : List Value}, IntsAre us ns → Vals (ns.map V.int) us := by
  induction ns with
  | nil => intro us h; cases h; exact .nil
  | cons n ns ih => intro us h; cases h with | cons _ t r => exact .cons ⟨t, rfl⟩ (ih r)
theorem lawG_call {P : Program} {w : World} {K : PySem.W.Frag} {mg mb : Str → Option Value} {k : Nat} {fa a : Addr} {fd : FuncData} {x : Str} {s₁ : Shared} {vs : List Value} {ns : List Int}
    (KX : K.In s₁.heap) (hns : s₁.heap.Ns mainGlobals mg) (hb : s₁.heap.Ns builtinsNs mb) (hbb : ∀ x : Str, x ≠ "__name__" → mb x = bootBuiltins x) (hlim : s₁.heap.NoLimit) (hg : s₁.gens = #[])
    (ha : s₁.heap.get? a = some { cls := .type "list", data := .seq vs.toArray }) (hi : IntsAre vs ns) (hl : ns.length ≤ 63) (hr : Room k callerA)
    (F : ∀ base : Heap, K.In base → base.Ns mainGlobals mg → FnG P w K mg base k fa fd [x] (spLaw K)) (hbind : ∀ (s : Shared) (u : Value), BindsTo s fd ⟨[u], []⟩ [(x, u)]) :
    codeAny (model P w) callerA (.call (.ref fa) ⟨[.ref a], []⟩) (fun r s' => r = .ok (.ret (.bool true)) ∧ OldK s₁.heap s'.heap ∧ s'.os = s₁.os ∧ AllBare s'.gens) s₁ := by
  have rv := ints_vals hi
  have hz : ns.length ≤ sizeLine := Nat.le_trans hl (by decide)
  -- what may be tracked: the script alone
  have main : ∀ H : Hp, (∀ b u, H b = some u → b = a ∧ ∃ o xs, u = .frz o (.lst xs)) → SqL K H a (ns.map V.int) → HOk P w H s₁.heap → ((H a).isSome = true → K.lookup a = none) →
      codeAny (model P w) callerA (.call (.ref fa) ⟨[.ref a], []⟩) (fun r s' => r = .ok (.ret (.bool true)) ∧ OldK s₁.heap s'.heap ∧ s'.os = s₁.os ∧ AllBare s'.gens) s₁ := by
    intro H only hS hok hK
    have isDict : ∀ {b : Addr} {o : Obj} {es : Array DictEntry} {ep : Nat}, s₁.heap.get? b = some o → o.data = .dict es ep → H b = none := by
      intro b o es ep e d
      cases q : H b with
      | none => rfl
      | some u =>
        rw [(only b u q).1, ha] at e
        cases e
        exact absurd (show Data.seq vs.toArray _ = Data.dict es ep from d) (fun z => nomatch z)
    have ns2 : ∀ {b : Addr} {m : Str → Option Value}, s₁.heap.Ns b m → (hidT s₁.heap H).Ns b m := by
      rintro b m ⟨o, es, ep, e, d, r⟩
      exact ⟨o, es, ep, hidT_get e (isDict e d), d, r⟩
    have kin2 : K.In (hidT s₁.heap H) := by
      intro b o e
      refine hidT_get (KX b o e) ?_
      cases q : H b with
      | none => rfl
      | some u =>
        have eb := (only b u q).1
        rw [eb] at q e
        rw [hK (by rw [q]; rfl)] at e
        cases e
    have hM : Mod K mg (hidT s₁.heap H) := by
      obtain ⟨mc, l1, l2⟩ := hlim
      exact ⟨kin2, ns2 hns, ⟨mb, ns2 hb, hbb⟩, ⟨mc, ns2 l1, l2⟩⟩
    have noFr : ∀ b : Addr, b ∉ frs ([] : List Env) := fun b z => by cases z
    have e0 : Env0 P w K mg (hidT s₁.heap H) callerA [] s₁ H :=
      ⟨rfl, hM, fun b o e => of_hidT e, Nat.le_of_eq (hidT_size _ _), trivial, fun b z => absurd z (noFr b), hok, .of_eq hg⟩
    refine codeAny_mono ((F _ kin2 (ns2 hns)).run callerA [] s₁ H ⟨[.ref a], []⟩ [.ref a] [.ref a] (fun v _ => v = .bl true) hr rfl e0 (hbind s₁ (.ref a)) (.cons rfl .nil) ⟨a, ns, rfl, hS, hl, fun _ => rfl⟩) ?_
    rintro r s' ⟨u, rfl, v, H', os, bare, un, hok', r', q⟩
    have q : v = .bl true := q
    subst q
    have eu : u = Value.bool true := r'
    subst eu
    refine ⟨rfl, OldK.of_keep fun b o e => ?_, os, bare⟩
    cases q : H b with
    | none => exact un.keep b o e q (noFr b) (by simp)
    | some u =>
      obtain ⟨_, ob, xs, rfl⟩ := only b u q
      have k1 := (hok b _ q).1
      have k2 := (hok' b _ (un.frzs b ob _ q)).1
      rw [e] at k1
      cases k1
      exact k2
  cases hk : K.lookup a with
  | some o =>
    have e := KX a o hk
    rw [ha] at e
    cases e
    refine main (fun _ => none) (fun b u z => nomatch z) ?_ (fun b u z => nomatch z) (fun z => nomatch z)
    refine .inr ⟨_, vs.toArray, _, hk, rfl, rfl, rfl, ?_, by simpa using rv⟩
    rw [List.size_toArray, ← rv.length, List.length_map]
    exact hz
  | none =>
    refine main (upd (fun _ => none) a (.frz { cls := .type "list", data := .seq vs.toArray } (.lst (ns.map V.int)))) (fun b u z => ?_) (.inl (.inr ⟨_, upd_same⟩)) (fun b u z => ?_) (fun _ => hk)
    · by_cases e : b = a
      · subst e
        rw [upd_same] at z
        exact ⟨rfl, _, _, (Option.some.inj z).symm⟩
      · rw [upd_ne e] at z; cases z
    · by_cases e : b = a
      · subst e
        rw [upd_same] at z
        cases z
        exact ⟨ha, by rw [List.length_map]; exact hz, vs, _, rv, ha⟩
      · rw [upd_ne e] at z; cases z
theorem walkG {l : PySem.W.OpenLaw} {k : Nat} {q : Program} {loose : List Str} {XP : (Str → Option Value) → Heap → Prop} {YP : World → Heap → Prop} {d : DefRec} {K : Params → PySem.W.Frag} {x : Str}
    (hn : l.most = some 63) (hdf : d.params.defaults = []) (hr : Room k callerA) (hY : ∀ (w : World) (h : Heap), YP w h → (K w.params).In h)
    (F : ∀ (w : World) (mg : Str → Option Value) (fa : Addr) (h : Heap), (K w.params).In h → h.Ns mainGlobals mg → mg d.name = some (.ref fa) →
      ∃ fd : FuncData, (∀ (s : Shared) (u : Value), BindsTo s fd ⟨[u], []⟩ [(x, u)]) ∧
        ∀ base : Heap, (K w.params).In base → base.Ns mainGlobals mg → FnG l.prog w (K w.params) mg base k fa fd [x] (spLaw (K w.params))) :
    PySem.W.WalkO q loose XP YP l.row.toRowW d [] (fun f vs => PySem.call f vs) := by
  refine Att.attach_call hn hdf fun w s₀ s₁ mg mb fa o pm cd doc a vs ns G Y ho hd hcd hmg hobj hints hlen hg => ?_
  have kin := hY w _ Y
  obtain ⟨fd, hb, hF⟩ := F w mg fa _ kin G.T.g hmg
  exact lawG_call kin G.T.g G.T.b G.T.builtins G.T.nolimit hg hobj hints hlen hr hF hb
end DL
namespace DL
open PySem PySem.Spec PyProof.Rows L2
variable [Lk]
section
variable {c : Cy} {X : Cx} {e a a' : Expr} {te ta tb : TE} {w wa wb : WE} {x : Str} {p pos : Pos}
theorem de_b1 {id : String} {r : List V → Hp → VK → Prop} {wr : D → (D → Prop) → Prop} (hc : CallR X (.builtin id) r) (hr : Ro1 (cy X) (fun x H Q => r [x] H Q) wr) (hg : Gl X x) (hm : X.mg x = none) (hv : bootBuiltins x = some (.builtin id)) (ha : DP X a ta wa)
    (hn : x ≠ "__name__" := by decide) (hdb : (x == ("__debug__" : Str)) = false := by decide) (he : starEach (a :: []) X.env = (false, eval a X.env) :: starEach [] X.env := by rfl) (hpl : (backTo pos (starEach [] X.env)).any (·.1) = false := by rfl) :
    DE X (.Call (.Name x p) [a] [] pos) (tCB r (tCons ta tNil)) (wUn wr wa) := ⟨pe_callB hc hg hm hv (pa_cons ha.pe pa_nil he) hn hdb he hpl, fun {b ρ σ F M M0} R Qd Q hw k => snd_un (c := cy X) hr ha.sn R Qd Q hw k⟩
theorem de_t1 {T : String} {r : List V → Hp → VK → Prop} {wr : D → (D → Prop) → Prop} (hc : CallR X (.type T) r) (hr : Ro1 (cy X) (fun x H Q => r [x] H Q) wr) (hg : Gl X x) (hm : X.mg x = none) (hv : bootBuiltins x = some (.type T)) (ha : DP X a ta wa)
    (hn : x ≠ "__name__" := by decide) (hdb : (x == ("__debug__" : Str)) = false := by decide) (he : starEach (a :: []) X.env = (false, eval a X.env) :: starEach [] X.env := by rfl) (hpl : (backTo pos (starEach [] X.env)).any (·.1) = false := by rfl) :
    DE X (.Call (.Name x p) [a] [] pos) (tCB r (tCons ta tNil)) (wUn wr wa) := ⟨pe_callTy hc hg hm hv (pa_cons ha.pe pa_nil he) hn hdb he hpl, fun {b ρ σ F M M0} R Qd Q hw k => snd_un (c := cy X) hr ha.sn R Qd Q hw k⟩
/-- len -/
def vW : D → (D → Prop) → Prop
  | .lst ds, Q => Q (.int ds.length)
  | .tup ds, Q => Q (.int ds.length)
  | .scr ds, Q => Q (.int ds.length)
  | .str z, Q => z.length ≤ sizeLine ∧ Q (.int z.length)
  | .dk ks _, Q => Q (.int ks.length)
  | _, _ => False
theorem call_lenR : CallR X (.builtin "len") (fun xs H Q => ∃ a kvs, xs = [V.ref a] ∧ Rd H a (.dK kvs) ∧ Q (.int kvs.length) H) := by
  intro pins s σ H xs us Q I r h
  obtain ⟨a, kvs, rfl, ha, q⟩ := h
  obtain ⟨u, rfl, ru⟩ := vals1 r
  cases ru
  exact d_len I ha fun t s' I' => ⟨.int kvs.length, H, I', ⟨t, rfl⟩, q⟩
def rLenU (K : PySem.W.Frag) : List V → Hp → VK → Prop := fun xs H Q => (∃ x n, xs = [x] ∧ LenV K x H n ∧ Q (.int n) H) ∨ ∃ a kvs, xs = [V.ref a] ∧ Rd H a (.dK kvs) ∧ Q (.int kvs.length) H
theorem call_lenU : CallR X (.builtin "len") (rLenU X.K) := CallR.or call_len call_lenR
theorem ro1_len : Ro1 (cy X) (fun x H Q => rLenU X.K [x] H Q) vW := fun {b F M x d1} Qd Q dj r1 hw k => by
  cases d1 with
  | lst ds =>
    obtain ⟨a, vs, rfl, _, h, r⟩ := r1.lst_of
    exact .inl ⟨_, ds.length, rfl, .inl ⟨vs, SqL.of h, by rw [r.length]⟩, k _ _ F hw (Same.refl _) dj .of_int⟩
  | tup ds =>
    obtain ⟨a, vs, rfl, h, r⟩ := r1.tup_of
    exact .inl ⟨_, ds.length, rfl, .inr ⟨vs, SqT.of (dj.f h), by rw [r.length]⟩, k _ _ F hw (Same.refl _) dj .of_int⟩
  | scr ds =>
    obtain ⟨a, vs, rfl, h, r⟩ := r1.scr_of
    exact .inl ⟨_, ds.length, rfl, .inl ⟨vs, dj.same.seq h, by rw [r.length]⟩, k _ _ F hw (Same.refl _) dj .of_int⟩
  | str z => rw [r1.str_of]; exact .inl ⟨_, z.length, rfl, ⟨hw.1, rfl⟩, k _ _ F hw.2 (Same.refl _) dj .of_int⟩
  | dk ks ds =>
    obtain ⟨a, ps, rfl, _, h, e, r⟩ := r1
    refine .inr ⟨a, ps, rfl, h, ?_⟩
    have el : ps.length = ks.length := by rw [← e, List.length_map]
    rw [el]
    exact k _ _ F hw (Same.refl _) dj .of_int
  | _ => exact hw.elim
/-- int(n), int(flag) -/
def vX : D → (D → Prop) → Prop
  | .int i, Q => Q (.int i)
  | .bl b, Q => Q (.int (if b then 1 else 0))
  | _, _ => False
theorem ro1_int : Ro1 (cy X) (fun x H Q => (∃ i, [x] = [V.int i] ∧ Q (.int i) H) ∨ ∃ k, [x] = [V.bl k] ∧ Q (.int (if k then 1 else 0)) H) vX := fun {b F M x d1} Qd Q dj r1 hw k => by
  cases d1 with
  | int i => rw [r1.int_of]; exact .inl ⟨i, rfl, k _ _ F hw (Same.refl _) dj .of_int⟩
  | bl i => rw [r1.bl_of]; exact .inr ⟨i, rfl, k _ _ F hw (Same.refl _) dj .of_int⟩
  | _ => exact hw.elim
/-- sum, max, min of a list of ints -/
def jc : D → (D → Prop) → Prop
  | .lst ds, Q => ∃ ns : List Int, ds = ns.map D.int ∧ Q (.int ns.sum)
  | _, _ => False
theorem Rk.ints {b : Option Addr} {F M : Hp} {v : V} {ns : List Int} (h : Rk c b F M v (.lst (ns.map D.int))) : ∃ a, v = .ref a ∧ HH F M a = some (.lst (ns.map V.int)) := by
  obtain ⟨a, vs, rfl, _, q, r⟩ := h.lst_of
  rw [r.ints] at q
  exact ⟨a, rfl, q⟩
abbrev jh := dI2 fun i j => D.int (if j > i then j else i)
abbrev ji := dI2 fun i j => D.int (if j < i then j else i)
/-- a new list, frozen -/
theorem new_lst {F M : Hp} {vs : List V} {ds : List D} {p : Addr} {Q : VK} {Qd : D → Prop} (dj : Dj F M) (r : DrL c F vs ds) (hp : HH F M p = none) (q : Qd (.lst ds)) (k : ∀ d v F', Qd d → Same F F' → Dj F' M → Dr c F' v d → Q v (HH F' M)) :
    Q (.ref p) (upd (HH F M) p (.lst vs)) := by
  obtain ⟨hf, hm⟩ := hh_none hp
  rw [hh_updF hm]
  refine k _ _ _ q (Same.updF hf) (dj.updF hm) ?_
  simp only [Dr]
  exact ⟨p, vs, rfl, upd_same, r.up (Same.updF hf)⟩
/-- list(x): a list or tuple -/
def jb : D → (D → Prop) → Prop
  | .lst ds, Q => Q (.lst ds)
  | .tup ds, Q => Q (.lst ds)
  | .scr ds, Q => Q (.lst ds)
  | .emt, Q => Q (.lst [])
  | _, _ => False
theorem ro1_list : Ro1 (cy X) (fun x H Q => ∃ p ys, [x] = [V.ref p] ∧ (SqL X.K H p ys ∨ SqT X.K H p ys) ∧ ∀ l, H l = none → Q (.ref l) (upd H l (.lst ys))) jb := fun {b F M x d1} Qd Q dj r1 hw k => by
  cases d1 with
  | lst ds =>
    obtain ⟨a, vs, rfl, _, h, r⟩ := r1.lst_of
    exact ⟨a, vs, rfl, .inl (SqL.of h), fun l hl => new_lst dj r hl hw k⟩
  | tup ds =>
    obtain ⟨a, vs, rfl, h, r⟩ := r1.tup_of
    exact ⟨a, vs, rfl, .inr (SqT.of (dj.f h)), fun l hl => new_lst dj r hl hw k⟩
  | scr ds =>
    obtain ⟨a, vs, rfl, h, r⟩ := r1.scr_of
    exact ⟨a, vs, rfl, .inl (dj.same.seq h), fun l hl => new_lst dj r hl hw k⟩
  | emt =>
    obtain ⟨a, rfl, h⟩ := r1.emt_of
    exact ⟨a, [], rfl, .inr ((LeD.of dj.same).seqT h), fun l hl => new_lst dj .nil hl hw k⟩
  | _ => exact hw.elim
/-- repr, where none is under way -/
def rRepr (K : PySem.W.Frag) : List V → Hp → VK → Prop := fun xs H Q => ∃ x d, xs = [x] ∧ Dp K H x d ∧ d.showable = true ∧ d.hasDict = false ∧ d.depth ≤ 60 ∧ d.shown.length ≤ sizeLine ∧ Q (.str d.shown) H
theorem call_repr (hgd : X.A.guards = some []) (hu : X.A.units + 64 < cLine) : CallR X (.builtin "repr") (rRepr X.K) := by
  intro pins s σ H xs us Q I r h
  obtain ⟨x, d, rfl, hd, hs, hn, hdp, hz, q⟩ := h
  obtain ⟨u, rfl, ru⟩ := vals1 r
  have fin : ∀ (h' : Heap) (t : Tok) (tk : Nat), (∀ b o, s.heap.get? b = some o → h'.get? b = some o) → EP X pins σ Q (.str d.shown t) { s with heap := h', toks := tk } := fun h' t tk hk => ⟨.str d.shown, H, I.kept hk, ⟨t, rfl⟩, q⟩
  cases hd with
  | non => cases ru; exact PySem.P.repr_of_none (fin _ _ _ fun _ _ e => e)
  | bl b => cases ru; exact PySem.P.repr_of_bool (fin _ _ _ fun _ _ e => e)
  | int i =>
    obtain ⟨t, rfl⟩ := ru
    exact PySem.P.repr_of_int (by simpa [PyData.showable] using hs) (fin _ _ _ fun _ _ e => e)
  | str z =>
    obtain ⟨t, rfl⟩ := ru
    exact PySem.P.repr_of_str (fin _ _ _ fun _ _ e => e) (by simpa only [PyData.shown] using hz)
  | lst h1 h2 =>
    obtain ⟨as, hr⟩ := Dp.reads I _ _ u (.lst h1 h2) ru
    cases ru
    exact repr_of_reads' hr hs (PyData.noDict_hsm hn) hgd (by omega) (fun _ _ e => e) (fun h' t tk hk => fin h' t tk hk) hz
  | tup h1 h2 =>
    obtain ⟨as, hr⟩ := Dp.reads I _ _ u (.tup h1 h2) ru
    cases ru
    exact repr_of_reads' hr hs (PyData.noDict_hsm hn) hgd (by omega) (fun _ _ e => e) (fun h' t tk hk => fin h' t tk hk) hz
/-- data that repr shows -/
structure Shw (d : D) : Prop where
  ok : okD d = true
  dep : depD d ≤ 60
  sh : (toPy d).showable = true
  sz : (toPy d).shown.length ≤ sizeLine
def dRepr : D → (D → Prop) → Prop := fun d Q => Shw d ∧ Q (.str (toPy d).shown)
theorem ro1_repr : Ro1 (cy X) (fun x H Q => rRepr X.K [x] H Q) dRepr := fun {b F M x d1} Qd Q dj r1 hw k => by
  obtain ⟨s, q⟩ := hw
  exact ⟨x, toPy d1, rfl, r1.dp dj s.ok, s.sh, PyData.hasDict_of_canLay _ (okD_lay d1 s.ok), by rw [depD_py d1 s.ok]; exact s.dep, s.sz, k _ _ F q (Same.refl _) dj .of_str⟩
def wM1 (wr : D → D → (D → Prop) → Prop) (wa wb : WE) : WE := fun ρ Q => wa ρ fun d1 ρ1 => (∃ s, d1 = .str s) ∧ wb ρ1 fun d2 ρ2 => wr d1 d2 fun d => Q d ρ2
abbrev WO := List Sl → (Option Int → List Sl → Prop) → Prop
def woNone : WO := fun ρ Q => Q none ρ
def woSome (w : WE) : WO := fun ρ Q => w ρ fun d ρ1 => match d with
  | .int i => Q (some i) ρ1
  | _ => False
/-- x[lo:hi] of data -/
def cutD {α : Type} (xs : List α) (lo hi : Option Int) : List α := (xs.drop (HT.sIx xs.length 0 lo)).take (HT.sIx xs.length xs.length hi - HT.sIx xs.length 0 lo)
def jd (lo hi : Option Int) : D → (D → Prop) → Prop
  | .lst ds, Q => Q (.lst (cutD ds lo hi))
  | .str z, Q => z.length ≤ sizeLine ∧ Q (.str (cutS z lo hi))
  | _, _ => False
def wCut (w : WE) (wl wh : WO) : WE := fun ρ Q => w ρ fun d ρ1 => wl ρ1 fun lo ρ2 => wh ρ2 fun hi ρ3 => jd lo hi d fun d' => Q d' ρ3
def jg : D → (Bool → Prop) → Prop
  | .non, Q => Q false
  | .bl b, Q => Q b
  | .int i, Q => Q (i != 0)
  | .str z, Q => z.length ≤ sizeLine ∧ Q ((z.length : Int) != 0)
  | .lst ds, Q => Q (!ds.isEmpty)
  | .tup ds, Q => Q (!ds.isEmpty)
  | _, _ => False
def wTru (w : WE) : WT := fun ρ Q => w ρ fun d ρ1 => jg d fun k => Q k ρ1
theorem DrL.empty {F : Hp} {vs : List V} {ds : List D} (r : DrL c F vs ds) : vs.isEmpty = ds.isEmpty := by
  cases ds with
  | nil => rw [r.nil_iff]; rfl
  | cons d ds => obtain ⟨v, vr, rfl, _⟩ := r.cons_iff; rfl
theorem dt_truth (h : DP X e te w) (he : ∀ whole, isTrue e X.env whole = (do let v ← whole; standAt e.pos; holding [v] (truthy v)) := by intro _; rfl) : DT X e (fun σ H Q => te σ H fun x H' => ∃ k, TruV X.K x H' k ∧ Q k H') (wTru w) :=
  ⟨pt_truth h.pe he, fun {b ρ σ F M M0} R Qd Q hw k => by
    refine h.sn R _ _ hw fun d ρ1 v F1 M1 M01 q A r => ?_
    cases d with
    | non => rw [r.non_of]; exact ⟨false, rfl, k _ _ _ _ _ q A⟩
    | bl j => rw [r.bl_of]; exact ⟨j, rfl, k _ _ _ _ _ q A⟩
    | int i => rw [r.int_of]; exact ⟨_, rfl, k _ _ _ _ _ q A⟩
    | str z => rw [r.str_of]; exact ⟨_, ⟨q.1, rfl⟩, k _ _ _ _ _ q.2 A⟩
    | lst ds =>
      obtain ⟨a, vs, rfl, _, hq, rl⟩ := r.lst_of
      exact ⟨!vs.isEmpty, .inl ⟨vs, SqL.of hq, rfl⟩, by rw [rl.empty]; exact k _ _ _ _ _ q A⟩
    | tup ds =>
      obtain ⟨a, vs, rfl, hq, rl⟩ := r.tup_of
      exact ⟨!vs.isEmpty, .inr (.inl ⟨vs, SqT.of (A.rel.dj.f hq), rfl⟩), by rw [rl.empty]; exact k _ _ _ _ _ q A⟩
    | _ => exact q.elim⟩
def signsD (z : Str) : List D := z.cps.toList.map fun n => D.str ⟨#[n]⟩
def wItS (w : WE) : WA := fun ρ Q => w ρ fun d ρ1 => match d with
  | .str z => Q (signsD z) ρ1
  | _ => False
/-- name.append(e) -/
def wApp (i : Nat) (w : WE) : WS := fun ρ E => match ρ[i]? with
  | some (.ol _) => w ρ fun d ρ1 => match ρ1[i]? with
    | some (.ol ds) => ds.length < sizeLine ∧ E.nx (ρ1.set i (.ol (ds ++ [d])))
    | _ => False
  | _ => False
/-- an own slot keeps its address -/
theorem Rel.ownL {b : Option Addr} {ρ : List Sl} {σ : L2.St} {F M M0 : Hp} {i : Nat} {ds : List D} (R : Rel c b ρ σ F M M0) (e : ρ[i]? = some (.ol ds)) :
    ∃ a vs, σ[i]? = some (some (.ref a)) ∧ DrL c F vs ds ∧ F a = none ∧ HH F M a = some (.lst vs) ∧ ∀ ds' vs', DrL c F vs' ds' → Rel c b (ρ.set i (.ol ds')) σ F (upd M a (.lst vs')) M0 := by
  obtain ⟨a, o, M', h1, h2, h3, h4, h5, h6, h7, h8⟩ := R.env.own e trivial
  obtain ⟨vs, rfl, r⟩ := h2
  refine ⟨a, vs, h1, r, h3, hh_m (by rw [h5]; exact upd_same), fun ds' vs' r' => ⟨R.dj.updM h3, ?_, R.box, R.lk⟩⟩
  have t := h8 (.ol ds') (.lst vs') trivial ⟨vs', rfl, r'⟩
  rw [h5, upd_upd]
  exact t
theorem Rel.fixed {b : Option Addr} {ρ' : List Sl} {σ : L2.St} {F M M0 F' M' M0' : Hp} {i : Nat} {a : Addr} {ds' : List D} (_ : Aft c b F M M0 ρ' σ F' M' M0') (h : σ[i]? = some (some (.ref a))) (R : Rel c b ρ' σ F' M' M0') (e : ρ'[i]? = some (.ol ds')) :
    ∃ vs, DrL c F' vs ds' ∧ F' a = none ∧ HH F' M' a = some (.lst vs) ∧ ∀ ds' vs', DrL c F' vs' ds' → Rel c b (ρ'.set i (.ol ds')) σ F' (upd M' a (.lst vs')) M0' := by
  obtain ⟨a', vs, h1, h2, h3, h4, h5⟩ := R.ownL e
  rw [h] at h1
  have ea : a = a' := by injection h1 with h1; injection h1 with h1; injection h1
  subst ea
  exact ⟨vs, h2, h3, h4, h5⟩
theorem sns_app {i : Nat} (he : Snd c te w) : Sns c (tDrop (tBM c.K "list" rAppend (tVar i) (tCons te tNil))) (wApp i w) := fun {b ρ σ F M M0} R E Dn hw f => by
  unfold wApp at hw
  cases e0 : ρ[i]? with
  | none => simp only [e0] at hw
  | some s0 =>
    simp only [e0] at hw
    cases s0 with
    | ol ds0 =>
      obtain ⟨a, vs0, h1, h2, h3, h4, h5⟩ := R.ownL e0
      refine ⟨.ref a, h1, .inl ⟨rfl, vs0, SqL.of h4⟩, ?_⟩
      refine he R _ _ hw fun d ρ1 v F1 M1 M01 q A r => ?_
      cases e1 : ρ1[i]? with
      | none => simp only [e1] at q
      | some sl =>
        simp only [e1] at q
        cases sl with
        | ol ds =>
          obtain ⟨vs, k2, k3, k4, k5⟩ := A.rel.fixed A h1 e1
          refine ⟨a, vs, v, rfl, rfl, k4, by rw [k2.length]; exact q.1, ?_⟩
          rw [hh_updM]
          exact f.nx _ _ F1 _ M01 q.2 A.same (k5 (ds ++ [d]) (vs ++ [v]) (k2.append (.cons r .nil))) A.mr
        | _ => exact q.elim
    | _ => exact hw.elim
theorem ds_append {i : Nat} {xn : Str} {np apos cpos spos : Pos} (he : DE X e te w) (hN : X.N[i]? = some xn := by rfl) (hv : Vis X.env.scope xn := by first | exact Or.inl rfl | exact Or.inr (Or.inl rfl) | exact Or.inr (Or.inr rfl))
    (hd : (xn == ("__debug__" : Str)) = false := by decide) (hcd : (xn == ("__classdict__" : Str)) = false := by decide)
    (hbase : attributeBase (.Name xn np) "append" X.env (eval (.Name xn np) X.env) = eval (.Name xn np) X.env := by rfl)
    (hfew : ((backTo cpos (starEach (e :: []) X.env)).all (fun x => !x.1) && (backToKw cpos (keywordEach [] X.env)).all (fun x => x.1.isSome)
      && decide ((e :: []).length + ([] : List Keyword).length + (if ([] : List Keyword).isEmpty then 0 else 1) < 30)) = true := by rfl)
    (hline : (apos.endLine == cpos.line) = true := by rfl) (hs : starEach (e :: []) X.env = (false, eval e X.env) :: starEach [] X.env := by rfl) (hplain : (backTo cpos (starEach [] X.env)).any (·.1) = false := by rfl)
    (hsw : swapsWith (.Call (.Attribute (.Name xn np) "append" apos) [e] [] cpos) none spos.line X.env = pure false := by rfl) :
    DS X (.Expr (.Call (.Attribute (.Name xn np) "append" apos) [e] [] cpos) spos) (tDrop (tBM X.K "list" rAppend (tVar i) (tCons te tNil))) (wApp i w) :=
  ⟨ps_expr (pe_bm PySem.F.plainAttrs_list PySem.F.slot_list_append PySem.F.type_list_append mt_append (pe_var hN hv hd hcd) (pa_cons he.pe pa_nil hs) hbase hfew hline hs hplain) hsw, sns_app (c := cy X) he.sn⟩
end
end DL
namespace DL
open PySem PySem.Spec PyProof.Rows L2
variable [Lk]
theorem hu65 {A : Around} {k : Nat} (hr : Room k A) : A.units + 65 < cLine := by have := hr.un; omega
def dNeg : D → (D → Prop) → Prop := fun d Q => match d with | .int i => Q (.int (-i)) | _ => False
section
variable {c : Cy} {X : Cx} {e a b' : Expr} {te ta tb : TE} {w wa wb : WE} {pos : Pos}
theorem ro1_dNeg : Ro1 c (rU fun i => .int (-i)) dNeg := ro1_neg
theorem Rel.bx {b : Option Addr} {ρ : List Sl} {σ : L2.St} {F M M0 : Hp} {i : Nat} (R : Rel c b ρ σ F M M0) (e : ρ[i]? = some .bx) :
    ∃ (x da : Addr) (ns : List Int) (n : Int), b = some x ∧ σ[i]? = some (some (.ref x)) ∧ HH F M x = some (.lst [.ref da, .int n]) ∧ F da = some (.lst (ns.map V.int)) ∧ 0 ≤ n ∧ (M0 x).isSome = true ∧ M x = some (.lst [.ref da, .int n]) := by
  obtain ⟨x, h1, h2⟩ := R.env.getB e
  obtain ⟨da, ns, n, q1, q2, q3⟩ := R.box x h1
  have q4 := R.env.sub _ _ q1
  exact ⟨x, da, ns, n, h1, h2, hh_m q4, q2, q3, by rw [q1]; rfl, q4⟩
/-- box[1], box[0] -/
def wBx1 (i : Nat) : WE := fun ρ Q => ρ[i]? = some .bx ∧ ∀ n : Int, 0 ≤ n → Q (.int n) ρ
def wBx0 (i : Nat) : WE := fun ρ Q => ρ[i]? = some .bx ∧ ∀ ns : List Int, Q (.lst (ns.map D.int)) ρ
theorem snd_bx1 {i : Nat} : Snd (cy X) (tOp (rIxU X.K) (tVar i) (tC (.int 1))) (wBx1 i) := fun {b ρ σ F M M0} R Qd Q hw k => by
  obtain ⟨x, da, ns, n, h1, h2, h3, h4, h5, h6⟩ := R.bx hw.1
  exact ⟨.ref x, h2, .inl (.inl ⟨x, _, 1, .int n, rfl, rfl, SqL.of h3, rfl, k _ ρ _ F M M0 (hw.2 n h5) R.aft .of_int⟩)⟩
theorem snd_bx0 {i : Nat} : Snd (cy X) (tOp (rIxU X.K) (tVar i) (tC (.int 0))) (wBx0 i) := fun {b ρ σ F M M0} R Qd Q hw k => by
  obtain ⟨x, da, ns, n, h1, h2, h3, h4, h5, h6⟩ := R.bx hw.1
  refine ⟨.ref x, h2, .inl (.inl ⟨x, _, 0, .ref da, rfl, rfl, SqL.of h3, rfl, k _ ρ _ F M M0 (hw.2 ns) R.aft ?_⟩)⟩
  simp only [Dr]
  exact ⟨da, _, rfl, h4, .of_ints ns⟩
theorem de_bx1 (i : Nat) {x : Str} {np p1 pos : Pos} {j} (hu : X.A.units + 1 < cLine) (hN : X.N[i]? = some x := by rfl) (hv : Vis X.env.scope x := by first | exact Or.inl rfl | exact Or.inr (Or.inl rfl) | exact Or.inr (Or.inr rfl)) (hd : (x == ("__debug__" : Str)) = false := by decide)
    (hcd : (x == ("__classdict__" : Str)) = false := by decide) : DE X (.Subscript (.Name x np) (.Constant (.int 1) j p1) pos) (tOp (rIxU X.K) (tVar i) (tC (.int 1))) (wBx1 i) :=
  ⟨pe_ix (ix_U hu) (pe_var hN hv hd hcd) pe_int (fun _ _ => rfl), snd_bx1⟩
theorem de_bx0 (i : Nat) {x : Str} {np p1 pos : Pos} {j} (hu : X.A.units + 1 < cLine) (hN : X.N[i]? = some x := by rfl) (hv : Vis X.env.scope x := by first | exact Or.inl rfl | exact Or.inr (Or.inl rfl) | exact Or.inr (Or.inr rfl)) (hd : (x == ("__debug__" : Str)) = false := by decide)
    (hcd : (x == ("__classdict__" : Str)) = false := by decide) : DE X (.Subscript (.Name x np) (.Constant (.int 0) j p1) pos) (tOp (rIxU X.K) (tVar i) (tC (.int 0))) (wBx0 i) :=
  ⟨pe_ix (ix_U hu) (pe_var hN hv hd hcd) pe_int (fun _ _ => rfl), snd_bx0⟩
/-- box[1] = e -/
def wBxPut (i : Nat) (w : WE) : WS := fun ρ E => w ρ fun d ρ1 => ρ1[i]? = some .bx ∧ match d with
  | .int n => 0 ≤ n ∧ E.nx ρ1
  | _ => False
theorem ds_bxPut (i : Nat) {x : Str} {np p1 sp pos : Pos} {j} (he : DE X e te w) (hs : swapsWithSole [.Subscript (.Name x np) (.Constant (.int 1) j p1) sp] e pos.line X.env = pure false := by rfl) (hw : swappedStores [.Subscript (.Name x np) (.Constant (.int 1) j p1) sp] e X.env = pure none := by rfl)
    (h1 : (assignEach [.Subscript (.Name x np) (.Constant (.int 1) j p1) sp] X.env).map (·.2) = [assign (.Subscript (.Name x np) (.Constant (.int 1) j p1) sp) X.env] := by rfl)
    (hN : X.N[i]? = some x := by rfl) (hv : Vis X.env.scope x := by first | exact Or.inl rfl | exact Or.inr (Or.inl rfl) | exact Or.inr (Or.inr rfl)) (hd : (x == ("__debug__" : Str)) = false := by decide)
    (hcd : (x == ("__classdict__" : Str)) = false := by decide) : DS X (.Assign [.Subscript (.Name x np) (.Constant (.int 1) j p1) sp] e pos) (tAsg te (gSub (tVar i) (tC (.int 1)) rSetL)) (wBxPut i w) :=
  ⟨ps_asg he.pe (pg_sub (pe_var hN hv hd hcd) pe_int set_list) hs hw h1, fun {b ρ σ F M M0} R E Dn hw f => by
    refine he.sn R _ _ hw fun d ρ1 v F1 M1 M01 q A r => ?_
    obtain ⟨e1, q⟩ := q
    cases d with
    | int m =>
      obtain ⟨x, da, ns, n, h1, h2, h3, h4, h5, h6, h7⟩ := A.rel.bx e1
      refine ⟨.ref x, h2, x, _, 1, 1, rfl, rfl, h3, rfl, ?_⟩
      rw [r.int_of]
      show Dn.nx σ (upd (HH F1 M1) x (.lst [.ref da, .int m]))
      rw [hh_updM]
      have fx := A.rel.dj _ _ h7
      refine f.nx ρ1 σ F1 _ (upd M01 x (.lst [.ref da, .int m])) q.2 A.same ⟨A.rel.dj.updM fx, RelE.frame (fun xs z => by cases z) A.rel.env (.inr h6), fun y hy => ?_, A.rel.lkM (.refl _) fun y hy => upd_ne fun ey => hy (by rw [ey]; exact h1)⟩ (A.mr.trans fun y hy => ?_)
      · have ey : y = x := by rw [h1] at hy; exact (Option.some.inj hy).symm
        subst ey
        exact ⟨da, ns, m, upd_same, h4, q.1⟩
      · refine upd_ne fun ey => hy ?_
        rw [ey]; exact h1
    | _ => exact q.elim⟩
/-- the draw: if at < len(box[0]): return int(box[0][at]) % many -/
def wDraw (i j k : Nat) : WS := fun ρ E => ρ[i]? = some .bx ∧ ∃ a n : Int, ρ[j]? = some (.sh (.int a)) ∧ ρ[k]? = some (.sh (.int n)) ∧ 0 ≤ a ∧ 0 < n ∧ (∀ r : Int, 0 ≤ r → r < n → E.rt (.int r) ρ) ∧ E.nx ρ
abbrev tBx0 (X : Cx) (i : Nat) : TE := tOp (rIxU X.K) (tVar i) (tC (.int 0))
abbrev tDraw (X : Cx) (i j k : Nat) : TS := tIfS (tTest (tOp (rI0 fun i j => .bl (decide (i < j))) (tVar j) (tCB (rLenU X.K) (tCons (tBx0 X i) tNil)))) (tRet (tOp (rI (fun _ j => 0 < j) fun i j => .int (i % j))
      (tCB (fun xs H Q => (∃ i, xs = [V.int i] ∧ Q (.int i) H) ∨ ∃ k, xs = [V.bl k] ∧ Q (.int (if k then 1 else 0)) H) (tCons (tOp (rIxU X.K) (tBx0 X i) (tVar j)) tNil)) (tVar k))) tNext
theorem ds_drawIf (i j k : Nat) {st : Stmt} {w0 : WS} (h : DS X st (tDraw X i j k) w0) : DS X st (tDraw X i j k) (wDraw i j k) := ⟨h.ps, fun {b ρ σ F M M0} R E Dn hw f => by
  obtain ⟨e1, at', n, e2, e3, h0, hn, q1, q2⟩ := hw
  obtain ⟨x, da, ns, n1, b1, b2, b3, b4, b5, b6, b7⟩ := R.bx e1
  obtain ⟨va, a1, a2⟩ := R.env.get e2
  obtain ⟨vn, n1', n2⟩ := R.env.get e3
  rw [a2.int_of] at a1
  rw [n2.int_of] at n1'
  have hda := SqL.of (K := X.K) (R.dj.f b4)
  have bx0 : ∀ Q : VK, Q (.ref da) (HH F M) → tBx0 X i σ (HH F M) Q := fun Q q => ⟨.ref x, b2, .inl (.inl ⟨x, _, 0, .ref da, rfl, rfl, SqL.of b3, rfl, q⟩)⟩
  refine ⟨.int at', a1, ?_⟩
  refine bx0 _ (.inl ⟨_, ns.length, rfl, .inl ⟨_, hda, by rw [List.length_map]⟩, at', _, rfl, rfl, _, rfl, ?_⟩)
  by_cases hc : at' < ns.length
  · show (if decide (at' < (ns.length : Int)) = true then _ else _)
    rw [if_pos (decide_eq_true hc)]
    refine bx0 _ ⟨.int at', a1, ?_⟩
    have hl : at'.toNat < ns.length := by omega
    refine .inl (.inl ⟨da, _, at', .int ns[at'.toNat], rfl, rfl, hda, ?_, .inl ⟨_, rfl, .int n, n1', _, n, rfl, rfl, hn, ?_⟩⟩)
    · unfold atI ixN
      rw [if_pos h0, if_pos (by rw [List.length_map]; exact hc)]
      show (ns.map V.int)[at'.toNat]? = _
      rw [List.getElem?_map, List.getElem?_eq_getElem hl]; rfl
    · exact f.rt _ _ ρ σ F M M0 (q1 _ (Int.emod_nonneg _ (by omega)) (Int.emod_lt_of_pos _ hn)) (Same.refl _) R (MR.refl _ _) .of_int
  · show (if decide (at' < (ns.length : Int)) = true then _ else _)
    rw [if_neg (by rw [decide_eq_false hc]; exact Bool.false_ne_true)]
    exact f.nx ρ σ F M M0 q2 (Same.refl _) R (MR.refl _ _)⟩
end
section
variable {c : Cy} {b : Option Addr} {F M0 : Hp}
theorem RelE.setBx {x : Addr} (q : b = some x) : ∀ {ρ : List Sl} {σ : L2.St} {M : Hp} {i : Nat} {sl : Sl}, RelE c b F M0 ρ σ M → ρ[i]? = some sl → ¬ isOwn sl → RelE c b F M0 (ρ.set i .bx) (σ.set i (some (.ref x))) M
  | [], σ, M, i, sl, h, e, _ => by simp at e
  | s1 :: ρ, σ, M, 0, sl, h, e, hs => by
    obtain ⟨v, σr, e1, h⟩ := h
    simp at e; subst e; subst e1
    refine ⟨some (.ref x), σr, rfl, ⟨x, q, rfl⟩, ?_⟩
    cases s1 <;> first | exact h | exact h.2 | exact (hs trivial).elim
  | s1 :: ρ, σ, M, i + 1, sl, h, e, hs => by
    obtain ⟨v, σr, e1, h⟩ := h
    subst e1
    have e' : ρ[i]? = some sl := by simpa using e
    refine ⟨v, σr.set i (some (.ref x)), rfl, ?_⟩
    have own : ∀ s2 : Sl, (∃ a o M', v = some (.ref a) ∧ ObR c F s2 o ∧ F a = none ∧ M' a = none ∧ M = upd M' a o ∧ RelE c b F M0 ρ σr M') →
        ∃ a o M', v = some (.ref a) ∧ ObR c F s2 o ∧ F a = none ∧ M' a = none ∧ M = upd M' a o ∧ RelE c b F M0 (ρ.set i .bx) (σr.set i (some (.ref x))) M' := fun s2 h => by
      obtain ⟨a, o, M', k1, k2, k3, k4, k5, t⟩ := h
      exact ⟨a, o, M', k1, k2, k3, k4, k5, RelE.setBx q t e' hs⟩
    cases s1 with
    | no => exact RelE.setBx q h e' hs
    | sh d => exact ⟨h.1, RelE.setBx q h.2 e' hs⟩
    | bx => exact ⟨h.1, RelE.setBx q h.2 e' hs⟩
    | ol ds => exact own (.ol ds) h
    | ok ks ds => exact own (.ok ks ds) h
    | ot ks ds => exact own (.ot ks ds) h
    | oi n fs ds => exact own (.oi n fs ds) h
    | od y t0 =>
      obtain ⟨Mo, M', k1, k2, k3, k4, t⟩ := h
      exact ⟨Mo, M', k1, k2, k3, k4, RelE.setBx q t e' hs⟩
    | gh y t0 =>
      obtain ⟨Mo, M', k2, k3, k4, t⟩ := h
      exact ⟨Mo, M', k2, k3, k4, RelE.setBx q t e' hs⟩
theorem ints_ref {ns : List Int} {x : Addr} {r : List V} (h : ns.map V.int = .ref x :: r) : False := by
  cases ns with
  | nil => cases h
  | cons n ns => cases h
end
section
variable {P : Program} {w : World} {K : PySem.W.Frag} {mg : Str → Option Value} {base : Heap}
def scrD (ns : List Int) : Sl := .sh (.scr (ns.map D.int))
/-- THE LAW: its first statement makes the box; the rest has it -/
theorem law_boxE {x0 qual x : Str} {st : Stmt} {f : Addr} {fd : FuncData} {N : List Str} {k i n : Nat} (FF : Fun K x0 qual st f fd) (S : FnScope N [x] (defScope st)) (hN : N.length = n + 1) (hi : i < n + 1) {y : Str} {py spos : Pos} {e0 : Expr} {rest : List Stmt} (hsp : defBody st = .Assign [.Name y py] e0 spos :: rest)
    (hbody : ∀ (cdv : Value) (A : Around) (outer : List Env) (s : Shared) (H : Hp), Room k (A.deeper (envOfC qual (defScope st) s.heap.objs.size f cdv)) → (A.deeper (envOfC qual (defScope st) s.heap.objs.size f cdv)).guards = some [] →
      letI := Lk.top
      ∃ (t0 : TE) (w0 : WE) (t1 : TS) (w1 : WS), DE (cxOf CX0 P w K mg base N qual (defScope st) f cdv A outer s H E0).nox e0 t0 w0 ∧ DSs (cxOf CX0 P w K mg base N qual (defScope st) f cdv A outer s H E0).nox rest t1 w1 ∧
        (PE (cxOf CX0 P w K mg base N qual (defScope st) f cdv A outer s H E0).nox e0 t0 → PSs (cxOf CX0 P w K mg base N qual (defScope st) f cdv A outer s H E0).nox rest t1 →
          PSs (cxOf CX0 P w K mg base N qual (defScope st) f cdv A outer s H E0).nox (defBody st) (tSeq (tAsg t0 (gName i)) t1)) ∧
        (∀ ns : List Int, w0 (scrD ns :: List.replicate n .no) fun d ρ => ρ = scrD ns :: List.replicate n .no ∧ ∃ ms : List Int, d = .lst [.lst (ms.map D.int), .int 0]) ∧
        ∀ ns : List Int, w1 ((scrD ns :: List.replicate n .no).set i .bx) { nx := fun _ => False, rt := fun d _ => d = .bl true }) :
    FnG P w K mg base (k + 1) f fd [x] (spLaw K) := by
  refine fnG_of FF S (fun vs H Q E h => ?_) (fun cdv A outer s H vs Q hr hgd h => ?_)
  · obtain ⟨a, ns, rfl, _⟩ := h; rfl
  · obtain ⟨a, ns, rfl, hS, hl, hQ⟩ := h
    letI := Lk.top
    obtain ⟨t0, w0, t1, w1, h0, h1, hp, p0, p1⟩ := hbody cdv A outer s H hr hgd
    refine ⟨_, hp h0.pe h1.ps, ?_⟩
    have eH : H = HH H (fun _ => none) := funext fun y => (hh_n rfl).symm
    have eS : startD N [scrD ns] = scrD ns :: List.replicate n .no := by unfold startD; rw [hN]; rfl
    have ar : ArgsD ⟨K, mg⟩ none H [scrD ns] [.ref a] := ⟨_, _, rfl, by show Dr _ _ _ (.scr _); simp only [Dr]; exact ⟨a, _, rfl, hS, .of_ints ns⟩, rfl⟩
    have R := start_rel (N := N) (K := K) (mg := mg) (b := none) (F := H) (M := fun _ => none) (fun x u q => nomatch q) ⟨(fun x q => nomatch q), (fun _ _ z => nomatch z)⟩ ar trivial
    rw [eS] at R
    show t0 (L2.start N [.ref a]) H _
    rw [eH]
    refine h0.sn R _ _ (p0 ns) fun d ρ' v F' M' M0' q AA r => ?_
    obtain ⟨rfl, ms, rfl⟩ := q
    simp only [Dr] at r
    obtain ⟨x, us, rfl, hx, r⟩ := r
    obtain ⟨u1, us, rfl, r1, r⟩ := r.cons_iff
    obtain ⟨u2, us, rfl, r2, r⟩ := r.cons_iff
    have eu := r.nil_iff
    subst eu
    have eu2 := r2.int_of
    subst eu2
    simp only [Dr] at r1
    obtain ⟨da, uu, rfl, hda, r1⟩ := r1
    have euu := r1.ints
    subst euu
    have eM0 : M0' = fun _ => none := funext fun y => AA.mr y (fun z => nomatch z)
    have key : M' = M0' ∧ SqL K F' a (ns.map V.int) := by
      obtain ⟨v0, σr, e1, ⟨⟨y, e2, hy⟩, t⟩⟩ := AA.rel.env
      have nos : ∀ (m : Nat) (τ : L2.St) (N1 : Hp), RelE ⟨K, mg⟩ none F' M0' (List.replicate m .no) τ N1 → N1 = M0' := fun m => by
        induction m with
        | zero => intro τ N1 h; exact h.2.1
        | succ m ih => intro τ N1 h; obtain ⟨_, τr, _, h⟩ := h; exact ih τr N1 h
      refine ⟨nos n σr M' t, ?_⟩
      have e3 : L2.start N [.ref a] = some (.ref a) :: List.replicate n none := by unfold L2.start; rw [hN]; rfl
      rw [e3] at e1
      cases e1
      cases e2
      simp only [Dr] at hy
      obtain ⟨a', vs', ea, hs, hr'⟩ := hy
      cases ea
      rw [hr'.ints] at hs
      exact hs
    obtain ⟨eM', hS'⟩ := key
    rw [eM0] at eM'
    have ndx : da ≠ x := fun z => by
      rw [z, hx] at hda
      cases hda' : ms with
      | nil => rw [hda'] at hda; cases hda
      | cons m ms => rw [hda'] at hda; cases hda
    have eH2 : HH F' M' = HH (del F' x) (upd (fun _ => none) x (.lst [.ref da, .int 0])) := by
      rw [eM', ← hh_updM]
      funext y
      by_cases z : y = x
      · subst z; rw [upd_same, hh_n rfl, hx]
      · rw [upd_ne z, hh_n rfl, hh_n rfl, del_ne z]
    show t1 _ ((L2.start N [.ref a]).set i (some (.ref x))) (HH F' M')
    rw [eH2]
    have hS2 : SqL K (del F' x) a (ns.map V.int) := by
      rcases hS' with q | q
      · rcases q with q | ⟨o, q⟩
        · refine .inl (.inl ?_)
          rw [del_ne fun z => ?_]
          · exact q
          · rw [z, hx] at q
            have q := Option.some.inj q
            injection q with q
            exact ints_ref q.symm
        · refine .inl (.inr ⟨o, ?_⟩)
          rw [del_ne fun z => ?_]
          · exact q
          · rw [z, hx] at q; cases q
      · exact .inr q
    have ar2 : ArgsD ⟨K, mg⟩ (some x) (del F' x) [scrD ns] [.ref a] := ⟨_, _, rfl, by show Dr _ _ _ (.scr _); simp only [Dr]; exact ⟨a, _, rfl, hS2, .of_ints ns⟩, rfl⟩
    have R2 := start_rel (N := N) (K := K) (mg := mg) (b := some x) (F := del F' x) (M := upd (fun _ => none) x (.lst [.ref da, .int 0])) (fun y u q => by
        by_cases z : y = x
        · subst z; exact del_same
        · rw [upd_ne z] at q; cases q) ⟨fun y q => by
        have z : x = y := Option.some.inj q
        subst z
        exact ⟨da, ms, 0, upd_same, by rw [del_ne ndx]; exact hda, Int.le_refl 0⟩, NT.upd NT.emp fun xs z => nomatch z⟩ ar2 trivial
    rw [eS] at R2
    have hns : ∃ sl, (scrD ns :: List.replicate n Sl.no)[i]? = some sl ∧ ¬ isOwn sl := by
      cases i with
      | zero => exact ⟨_, rfl, fun z => z⟩
      | succ j => exact ⟨.no, by rw [List.getElem?_cons_succ, List.getElem?_replicate, if_pos (by omega)], fun z => z⟩
    obtain ⟨sl, e1, e2⟩ := hns
    refine h1.sn ⟨R2.dj, R2.env.setBx (x := x) rfl e1 e2, R2.box, R2.lk⟩ _ _ (p1 ns) ⟨fun _ _ _ _ _ z => z.elim, fun _ _ _ _ _ z => z.elim, fun _ _ _ _ _ z => z.elim, fun d v ρ5 σ5 F' M' M0' e s' R' m' r => ?_⟩
    subst e
    rw [r.bl_of]
    exact hQ _
end
end DL
namespace DL
open PySem PySem.Spec PyProof.Rows L2
variable [Lk]
mutual
/-- small leaves -/
def smD : D → Bool
  | .non => true
  | .bl _ => true
  | .int i => decide (-999999999999 ≤ i) && decide (i ≤ 999999999999)
  | .str s => PyData.strOk s
  | .lst xs => smDL xs
  | .tup xs => smDL xs
  | _ => false
def smDL : List D → Bool
  | [] => true
  | d :: ds => smD d && smDL ds
end
mutual
def szD : D → Nat
  | .int _ => 41
  | .str s => s.cps.size
  | .lst xs => szDL xs
  | .tup xs => szDL xs
  | _ => 0
def szDL : List D → Nat
  | [] => 0
  | d :: ds => szD d + 1 + szDL ds
end
theorem log2_small {i : Int} (h1 : -999999999999 ≤ i) (h2 : i ≤ 999999999999) : i.natAbs.log2 ≤ 40 := by
  have h : i.natAbs < 2 ^ 41 := by
    have e : (2 : Nat) ^ 41 = 2199023255552 := by decide
    omega
  rcases Nat.eq_zero_or_pos i.natAbs with z | z
  · rw [z]; decide
  · have := (Nat.log2_lt (by omega)).mpr h
    omega
mutual
theorem smD_all : ∀ (d : D), smD d = true → okD d = true ∧ (toPy d).showable = true ∧ (toPy d).intsShort 13 = true ∧ (toPy d).weight ≤ szD d
  | .non, _ => ⟨by simp only [okD], by simp only [toPy, PyData.showable], by simp only [toPy, PyData.intsShort], by simp only [toPy, PyData.weight, szD]; omega⟩
  | .bl _, _ => ⟨by simp only [okD], by simp only [toPy, PyData.showable], by simp only [toPy, PyData.intsShort], by simp only [toPy, PyData.weight, szD]; omega⟩
  | .int i, h => by
    simp only [smD, Bool.and_eq_true, decide_eq_true_eq] at h
    have l := log2_small h.1 h.2
    refine ⟨by simp only [okD], by simp only [toPy, PyData.showable, decide_eq_true_eq]; omega, by
      simp only [toPy]
      exact intsShort_of_noneOrInC (lo := -999999999999) (hi := 999999999999) (by decide) (by decide) _ (by simp only [noneOrInC, Bool.and_eq_true, Bool.not_eq_true', decide_eq_false_iff_not]; omega), ?_⟩
    simp only [toPy, PyData.weight, szD]
    split <;> omega
  | .str s, h => ⟨by simpa only [okD, smD] using h, by simp only [toPy, PyData.showable], by simp only [toPy, PyData.intsShort], by simp only [toPy, PyData.weight, szD]; omega⟩
  | .lst xs, h => by
    have q := smDL_all xs (by simpa only [smD] using h)
    exact ⟨by simpa only [okD] using q.1, by simpa only [toPy, PyData.showable] using q.2.1, by simpa only [toPy, PyData.intsShort] using q.2.2.1, by simpa only [toPy, PyData.weight, szD] using q.2.2.2⟩
  | .tup xs, h => by
    have q := smDL_all xs (by simpa only [smD] using h)
    exact ⟨by simpa only [okD] using q.1, by simpa only [toPy, PyData.showable] using q.2.1, by simpa only [toPy, PyData.intsShort] using q.2.2.1, by simpa only [toPy, PyData.weight, szD] using q.2.2.2⟩
  | .scr _, h => by simp [smD] at h
  | .emt, h => by simp [smD] at h
  | .fn _, h => by simp [smD] at h
  | .ad _, h => by simp [smD] at h
  | .dk _ _, h => by simp [smD] at h
  | .dt _ _, h => by simp [smD] at h
  | .ins _ _ _, h => by simp [smD] at h
theorem smDL_all : ∀ (ds : List D), smDL ds = true → okDL ds = true ∧ PyData.showableAll (toPyL ds) = true ∧ PyData.intsShortAll 13 (toPyL ds) = true ∧ PyData.weightAll (toPyL ds) ≤ szDL ds
  | [], _ => ⟨by simp only [okDL], by simp only [toPyL, PyData.showableAll], by simp only [toPyL, PyData.intsShortAll], by simp only [toPyL, PyData.weightAll, szDL]; omega⟩
  | d :: ds, h => by
    simp only [smDL, Bool.and_eq_true] at h
    have q1 := smD_all d h.1
    have q2 := smDL_all ds h.2
    refine ⟨by simp only [okDL, Bool.and_eq_true]; exact ⟨q1.1, q2.1⟩, by simp only [toPyL, PyData.showableAll, Bool.and_eq_true]; exact ⟨q1.2.1, q2.2.1⟩, by simp only [toPyL, PyData.intsShortAll, Bool.and_eq_true]; exact ⟨q1.2.2.1, q2.2.2.1⟩, ?_⟩
    have := q1.2.2.2
    have := q2.2.2.2
    simp only [toPyL, PyData.weightAll, szDL]
    omega
end
theorem Shw.of {d : D} (h : smD d = true) (hd : depD d ≤ 60) (hz : szD d ≤ 1048576) : Shw d := by
  have q := smD_all d h
  refine ⟨q.1, hd, q.2.1, ?_⟩
  exact PyData.shown_fits (B := 13) (by decide) (by decide) (PyData.leavesShort_of_canLay0 13 _ (okD_lay d q.1) q.2.2.1) (by
    have := q.2.2.2
    have e : (2 : Nat) ^ 20 = 1048576 := by decide
    omega)
theorem smDL_of {ds : List D} (h : ∀ d ∈ ds, smD d = true) : smDL ds = true := by
  induction ds with
  | nil => simp only [smDL]
  | cons d ds ih =>
    simp only [smDL, Bool.and_eq_true]
    exact ⟨h d List.mem_cons_self, ih fun x hx => h x (List.mem_cons_of_mem _ hx)⟩
theorem szDL_of {ds : List D} {B : Nat} (h : ∀ d ∈ ds, szD d ≤ B) : szDL ds ≤ ds.length * (B + 1) := by
  induction ds with
  | nil => simp only [szDL]; omega
  | cons d ds ih =>
    have h1 := h d List.mem_cons_self
    have h2 := ih fun x hx => h x (List.mem_cons_of_mem _ hx)
    simp only [szDL, List.length_cons, Nat.add_mul]
    omega
theorem atI_nat {α : Type} {xs : List α} {i : Int} {d : α} (h0 : 0 ≤ i) (h : xs[i.toNat]? = some d) : atI xs i = some d := by
  have hl := (List.getElem?_eq_some_iff.mp h).1
  unfold atI ixN
  rw [if_pos h0, if_pos (by omega)]
  exact h
theorem atI_map {α β : Type} {f : α → β} {xs : List α} {i : Int} (h0 : 0 ≤ i) (h1 : i < xs.length) : ∃ x, x ∈ xs ∧ xs[i.toNat]? = some x ∧ atI (xs.map f) i = some (f x) := by
  have hl : i.toNat < xs.length := by omega
  exact ⟨xs[i.toNat], List.getElem_mem _, List.getElem?_eq_getElem hl, atI_nat h0 (by rw [List.getElem?_map, List.getElem?_eq_getElem hl]; rfl)⟩
theorem wForL_rule {wg : WG} {wb : WS} {E : EnD} (I : List D → List Sl → Prop) (step : ∀ d r ρ, I (d :: r) ρ → ∀ K : List Sl → Prop, (∀ ρ', I r ρ' → K ρ') → wg d ρ fun ρ1 => wb ρ1 { nx := K, ct := K, bk := E.nx, rt := E.rt }) (fin : ∀ ρ, I [] ρ → E.nx ρ) :
    ∀ ds ρ, I ds ρ → wForL wg wb ds ρ E
  | [], ρ, h => fin ρ h
  | d :: ds, ρ, h => step d ds ρ h (fun ρ2 => wForL wg wb ds ρ2 E) fun ρ' h' => wForL_rule I step fin ds ρ' h'
/-- what a comprehension may yield -/
def Outs (R : D → Option D → Prop) : List D → List D → Prop
  | [], ys => ys = []
  | d :: ds, ys => (∃ y r, R d (some y) ∧ ys = y :: r ∧ Outs R ds r) ∨ (R d none ∧ Outs R ds ys)
theorem wLcL_rule {vs : List Nat} {wg : WG} {wt : WT} {we : WE} {ρ : List Sl} (S : D → Prop) (R : D → Option D → Prop)
    (step : ∀ d, S d → ∀ (Kt : D → List Sl → Prop) (Kf : List Sl → Prop), (∀ y, R d (some y) → Kt y ρ) → (R d none → Kf ρ) →
      wg d ρ fun ρ1 => wt ρ1 fun k ρ2 => (k = true → we ρ2 fun y ρ3 => noOwnB ρ3 vs = true ∧ Kt y (wipeD ρ3 vs)) ∧ (k = false → noOwnB ρ2 vs = true ∧ Kf (wipeD ρ2 vs))) : ∀ (ds acc : List D) (Q : List D → List Sl → Prop), (∀ d ∈ ds, S d) → (∀ ys, Outs R ds ys → Q (acc ++ ys) ρ) → wLcL vs wg wt we ds ρ acc Q
  | [], acc, Q, _, h => by
    have := h [] rfl
    rw [List.append_nil] at this
    exact this
  | d :: ds, acc, Q, hS, h => by
    have fix : ∀ (A B : List Sl → Prop), (fun (k : Bool) (ρ2 : List Sl) => (k = true → A ρ2) ∧ (k = false → B ρ2)) = fun (k : Bool) (ρ2 : List Sl) => match k with | true => A ρ2 | false => B ρ2 := fun A B => by funext k ρ2; cases k <;> simp
    have go := step d (hS d List.mem_cons_self) (fun y ρ' => wLcL vs wg wt we ds ρ' (acc ++ [y]) Q) (fun ρ' => wLcL vs wg wt we ds ρ' acc Q) (fun y hy => wLcL_rule S R step ds (acc ++ [y]) Q (fun x hx => hS x (List.mem_cons_of_mem _ hx)) fun ys hys => by
        rw [List.append_assoc]
        exact h (y :: ys) (.inl ⟨y, ys, hy, rfl, hys⟩))
      (fun hy => wLcL_rule S R step ds acc Q (fun x hx => hS x (List.mem_cons_of_mem _ hx)) fun ys hys => h ys (.inr ⟨hy, hys⟩))
    simp only [fix] at go
    exact go
theorem Outs.map {g : D → D} : ∀ {ds ys : List D}, Outs (fun d o => o = some (g d)) ds ys → ys = ds.map g
  | [], ys, h => h
  | d :: ds, ys, h => by
    rcases h with ⟨y, r, e, rfl, h⟩ | ⟨e, _⟩
    · rw [Outs.map h, Option.some.inj e]; rfl
    · cases e
theorem Outs.filter {p : D → Bool} : ∀ {ds ys : List D}, Outs (fun d o => o = if p d = true then some d else none) ds ys → ys = ds.filter p
  | [], ys, h => h
  | d :: ds, ys, h => by
    rcases h with ⟨y, r, e, rfl, h⟩ | ⟨e, h⟩
    · by_cases z : p d = true
      · rw [if_pos z] at e
        rw [List.filter_cons_of_pos z, Outs.filter h, Option.some.inj e]
      · rw [if_neg z] at e; cases e
    · by_cases z : p d = true
      · rw [if_pos z] at e; cases e
      · rw [List.filter_cons_of_neg z, Outs.filter h]
/-- each turn yields one thing of the kind T -/
theorem Outs.all {T : D → Prop} : ∀ {ds ys : List D}, Outs (fun _ o => ∃ y, o = some y ∧ T y) ds ys → ys.length = ds.length ∧ ∀ y ∈ ys, T y
  | [], ys, h => by rw [show ys = [] from h]; exact ⟨rfl, fun y hy => by cases hy⟩
  | d :: ds, ys, h => by
    rcases h with ⟨y, r, ⟨y', e, t⟩, rfl, h⟩ | ⟨⟨y', e, t⟩, _⟩
    · cases e
      obtain ⟨h1, h2⟩ := Outs.all h
      exact ⟨by rw [List.length_cons, List.length_cons, h1], fun z hz => by
        rcases List.mem_cons.mp hz with rfl | hz
        · exact t
        · exact h2 z hz⟩
    · cases e
theorem rangeD_length (lo hi : Int) : (rangeD lo hi).length = (hi - lo).toNat := by unfold rangeD; rw [List.length_map, List.length_range]
theorem rangeD_mem {lo hi : Int} {d : D} (h : d ∈ rangeD lo hi) : ∃ i : Int, d = .int i ∧ lo ≤ i ∧ i < hi := by
  unfold rangeD at h
  obtain ⟨i, hi, rfl⟩ := List.mem_map.mp h
  have := List.mem_range.mp hi
  exact ⟨_, rfl, by omega, by omega⟩
/-- a list whose things are all ints -/
theorem ints_of : ∀ {ds : List D} {P : Int → Prop}, (∀ d ∈ ds, ∃ i, d = .int i ∧ P i) → ∃ ns : List Int, ds = ns.map D.int ∧ (∀ n ∈ ns, P n) ∧ ns.length = ds.length
  | [], P, _ => ⟨[], rfl, (fun n hn => by cases hn), rfl⟩
  | d :: ds, P, h => by
    obtain ⟨i, rfl, hi⟩ := h d List.mem_cons_self
    obtain ⟨ns, rfl, h2, h3⟩ := ints_of (ds := ds) (P := P) fun x hx => h x (List.mem_cons_of_mem _ hx)
    refine ⟨i :: ns, rfl, fun n hn => ?_, by simp⟩
    rcases List.mem_cons.mp hn with rfl | hn
    · exact hi
    · exact h2 n hn
section
variable {ρ : List Sl} {E : EnD} {w1 w2 wb wt' : WS} {wc t u : WT} {w wa wb' wc' : WE} {wl : WA} {was : WAs} {wg : WG} {Qb : Bool → List Sl → Prop} {Qd : D → List Sl → Prop} {Ql : List D → List Sl → Prop} {Qs : Sl → List Sl → Prop} {Qa : List Sl → List Sl → Prop} {i : Nat} {d : D}
theorem zI : wSeq w1 w2 ρ E = w1 ρ { E with nx := fun ρ' => w2 ρ' E } := rfl
theorem x6 : wNext ρ E = E.nx ρ := rfl
theorem x7 : wBreak ρ E = E.bk ρ := rfl
theorem x8 : wCont ρ E = E.ct ρ := rfl
theorem x9 : wRet w ρ E = w ρ fun d ρ1 => E.rt d ρ1 := rfl
theorem xB : wRetN ρ E = E.rt .non ρ := rfl
theorem xD : wDrop w ρ E = w ρ fun _ ρ1 => E.nx ρ1 := rfl
theorem xE : wIf wc w1 w2 ρ E = wc ρ fun k ρ1 => (k = true → w1 ρ1 E) ∧ (k = false → w2 ρ1 E) := by
  unfold wIf
  congr 1
  funext k ρ1
  cases k <;> simp
theorem xF : wAnd t u ρ Qb = t ρ fun k ρ1 => (k = true → u ρ1 Qb) ∧ (k = false → Qb false ρ1) := by
  unfold wAnd
  congr 1
  funext k ρ1
  cases k <;> simp
theorem xG : wOr t u ρ Qb = t ρ fun k ρ1 => (k = true → Qb true ρ1) ∧ (k = false → u ρ1 Qb) := by
  unfold wOr
  congr 1
  funext k ρ1
  cases k <;> simp
theorem xH : wNot t ρ Qb = t ρ fun k ρ1 => Qb (!k) ρ1 := rfl
theorem xI : wTst w ρ Qb = w ρ fun d ρ' => ∃ k, d = .bl k ∧ Qb k ρ' := by
  unfold wTst
  congr 1
  funext d ρ'
  cases d <;> simp
theorem bl2 {d : D} {A B : Prop} : (match d with | .bl true => A | .bl false => B | _ => False) = ∃ k, d = .bl k ∧ (k = true → A) ∧ (k = false → B) := by
  cases d with
  | bl k => cases k <;> simp
  | _ => simp
theorem xJ : wAndV wa wb' ρ Qd = wa ρ fun d ρ1 => ∃ k, d = .bl k ∧ (k = true → wb' ρ1 Qd) ∧ (k = false → Qd (.bl false) ρ1) := by
  unfold wAndV
  congr 1
  funext d ρ1
  exact bl2
theorem xK : wOrV wa wb' ρ Qd = wa ρ fun d ρ1 => ∃ k, d = .bl k ∧ (k = true → Qd (.bl true) ρ1) ∧ (k = false → wb' ρ1 Qd) := by
  unfold wOrV
  congr 1
  funext d ρ1
  exact bl2
theorem xL : wNotV wa ρ Qd = wa ρ fun d ρ1 => ∃ k, d = .bl k ∧ Qd (.bl (!k)) ρ1 := by
  unfold wNotV
  congr 1
  funext d ρ'
  cases d <;> simp
theorem xM : wIfE t wa wb' ρ Qd = t ρ fun k ρ1 => (k = true → wa ρ1 Qd) ∧ (k = false → wb' ρ1 Qd) := by
  unfold wIfE
  congr 1
  funext k ρ1
  cases k <;> simp
theorem xN {wr wr' : D → D → (D → Prop) → Prop} : wChain wr wr' wa wb' wc' ρ Qd = wa ρ fun d1 ρ1 => wb' ρ1 fun d2 ρ2 => wr d1 d2 fun d => ∃ k, d = .bl k ∧ (k = true → wc' ρ2 fun d3 ρ3 => wr' d2 d3 fun d' => Qd d' ρ3) ∧ (k = false → Qd (.bl false) ρ2) := by
  unfold wChain
  congr 1; funext d1 ρ1; congr 1; funext d2 ρ2; congr 1; funext d
  exact bl2
theorem xY : wVar i ρ Qd = match ρ[i]? with
  | some (.sh d) => Qd d ρ
  | some (.gh _ _) => False
  | some .no => False
  | some .bx => False
  | some sl => Qd (obD sl) (ρ.set i (.sh (obD sl)))
  | none => False := rfl
theorem xZ : wPk i ρ Qd = match ρ[i]? with
  | some (.od _ _) => False
  | some (.gh _ _) => False
  | some (.sh d) => Qd d ρ
  | some .no => False
  | some .bx => False
  | some sl => Qd (obD sl) ρ
  | none => False := rfl
theorem qb : wC d ρ Qd = Qd d ρ := rfl
theorem qc {wr : D → D → (D → Prop) → Prop} : wOp wr wa wb' ρ Qd = wa ρ fun d1 ρ1 => wb' ρ1 fun d2 ρ2 => wr d1 d2 fun d => Qd d ρ2 := rfl
theorem qd {wr : D → (D → Prop) → Prop} : wUn wr wa ρ Qd = wa ρ fun d1 ρ1 => wr d1 fun d => Qd d ρ1 := rfl
theorem qf {wr : D → D → (D → Prop) → Prop} : wM1 wr wa wb' ρ Qd = wa ρ fun d1 ρ1 => (∃ s, d1 = .str s) ∧ wb' ρ1 fun d2 ρ2 => wr d1 d2 fun d => Qd d ρ2 := rfl
theorem qg : wTup wl ρ Qd = wl ρ fun ds ρ1 => ds.length ≤ sizeLine ∧ Qd (.tup ds) ρ1 := rfl
theorem qh : wfLst wl ρ Qs = wl ρ fun ds ρ1 => ds.length ≤ sizeLine ∧ Qs (.ol ds) ρ1 := rfl
theorem qi {wf : List Sl → (Sl → List Sl → Prop) → Prop} : wFz wf ρ Qd = wf ρ fun sl ρ1 => Qd (obD sl) ρ1 := rfl
theorem qj : waNil ρ Ql = Ql [] ρ := rfl
theorem qk : waCons w wl ρ Ql = w ρ fun d ρ1 => wl ρ1 fun ds ρ2 => Ql (d :: ds) ρ2 := rfl
theorem ql : asNil ρ Qa = Qa [] ρ := rfl
theorem qm : asCons w was ρ Qa = w ρ fun d ρ1 => was ρ1 fun as ρ2 => Qa (.sh d :: as) ρ2 := rfl
theorem qo : asBox i was ρ Qa = (ρ[i]? = some .bx ∧ was ρ fun as ρ2 => Qa (.bx :: as) ρ2) := rfl
theorem qp {wf : WFn} : wCall wf was ρ Qd = was ρ fun as ρ1 => wf as fun d => Qd d ρ1 := rfl
theorem qr : wAsg w wg ρ E = w ρ fun d ρ1 => wg d ρ1 E.nx := rfl
theorem qt {Q : List Sl → Prop} : wSt i d ρ Q = match ρ[i]? with
  | some _ => Q (ρ.set i (.sh d))
  | none => False := rfl
theorem qu {wf : List Sl → (Sl → List Sl → Prop) → Prop} : wAsgO wf i ρ E = wf ρ fun sl ρ1 => match ρ1[i]? with
  | some _ => E.nx (ρ1.set i sl)
  | none => False := rfl
theorem qv {is : List Nat} {Q : List Sl → Prop} {ds : List D} : wTp is (.tup ds) ρ Q = (ds.length = is.length ∧ wStL is ds ρ Q) := rfl
theorem qA {Q : List Sl → Prop} : wStL [] [] ρ Q = Q ρ := rfl
theorem qB {Q : List Sl → Prop} {r : List Nat} {ds : List D} : wStL (i :: r) (d :: ds) ρ Q = wSt i d ρ fun ρ1 => wStL r ds ρ1 Q := rfl
theorem qC : wFor wl wg wb ρ E = wl ρ fun ds ρ1 => wForL wg wb ds ρ1 E := rfl
theorem qE : wRg1 wl ρ Ql = wl ρ fun ds ρ1 => match ds with
  | [.int j] => (-(2 ^ 62) ≤ j ∧ j < 2 ^ 62) ∧ Ql (rangeD 0 j) ρ1
  | _ => False := rfl
theorem qF : wRg2 wl ρ Ql = wl ρ fun ds ρ1 => match ds with
  | [.int i, .int j] => (-(2 ^ 62) ≤ i ∧ i < 2 ^ 62 ∧ -(2 ^ 62) ≤ j ∧ j < 2 ^ 62) ∧ Ql (rangeD i j) ρ1
  | _ => False := rfl
theorem qG : wItL w ρ Ql = w ρ fun d ρ1 => match d with
  | .lst ds => Ql ds ρ1
  | _ => False := rfl
theorem qH : wItT w ρ Ql = w ρ fun d ρ1 => match d with
  | .tup ds => Ql ds ρ1
  | _ => False := rfl
theorem qI : wItS w ρ Ql = w ρ fun d ρ1 => match d with
  | .str z => Ql (signsD z) ρ1
  | _ => False := rfl
theorem qJ : wApp i w ρ E = match ρ[i]? with
  | some (.ol _) => w ρ fun d ρ1 => match ρ1[i]? with
    | some (.ol ds) => ds.length < sizeLine ∧ E.nx (ρ1.set i (.ol (ds ++ [d])))
    | _ => False
  | _ => False := rfl
theorem qL {Q : Option Int → List Sl → Prop} : woNone ρ Q = Q none ρ := rfl
theorem qM {Q : Option Int → List Sl → Prop} : woSome w ρ Q = w ρ fun d ρ1 => match d with
  | .int i => Q (some i) ρ1
  | _ => False := rfl
theorem qN {w1 w2 : WO} : wCut w w1 w2 ρ Qd = w ρ fun d ρ1 => w1 ρ1 fun lo ρ2 => w2 ρ2 fun hi ρ3 => jd lo hi d fun d' => Qd d' ρ3 := rfl
theorem qO : wBx1 i ρ Qd = (ρ[i]? = some .bx ∧ ∀ n : Int, 0 ≤ n → Qd (.int n) ρ) := rfl
theorem qP : wBx0 i ρ Qd = (ρ[i]? = some .bx ∧ ∀ ns : List Int, Qd (.lst (ns.map D.int)) ρ) := rfl
theorem qQ : wBxPut i w ρ E = w ρ fun d ρ1 => ρ1[i]? = some .bx ∧ match d with
  | .int n => 0 ≤ n ∧ E.nx ρ1
  | _ => False := rfl
theorem vL : wTru w ρ Qb = w ρ fun d ρ1 => jg d fun k => Qb k ρ1 := rfl
theorem vM {vs : List Nat} {we : WE} : wLc vs wl wg t we ρ Qs = wl ρ fun ds ρ1 => ds.length ≤ sizeLine ∧ noOwnB ρ1 vs = true ∧ wLcL vs wg t we ds (wipeD ρ1 vs) [] fun acc ρ2 => noOwnB ρ2 vs = true ∧ Qs (.ol acc) (wipeD ρ2 vs.reverse) := rfl
theorem vN : wYes ρ Qb = Qb true ρ := rfl
theorem vO {wr : D → D → (D → Prop) → Prop} : wAug i wr w ρ E = match ρ[i]? with
  | some (.sh d0) => w ρ fun d ρ1 => wr d0 d fun d' => wSt i d' ρ1 E.nx
  | _ => False := rfl
theorem qR {j k : Nat} : wDraw i j k ρ E = (ρ[i]? = some .bx ∧ ∃ a n : Int, ρ[j]? = some (.sh (.int a)) ∧ ρ[k]? = some (.sh (.int n)) ∧ 0 ≤ a ∧ 0 < n ∧ (∀ r : Int, 0 ≤ r → r < n → E.rt (.int r) ρ) ∧ E.nx ρ) := rfl
end
theorem jq : sizeLine = 16777216 := rfl
theorem je {α : Type} {a : α} {l : List α} : atI (a :: l) 0 = some a := atI_nat (by decide) rfl
theorem jf {α : Type} {a b : α} {l : List α} : atI (a :: b :: l) 1 = some b := atI_nat (by decide) rfl
theorem strOk_small {cs : List Nat} (h : ∀ c ∈ cs, c < 1000) : PyData.strOk ⟨cs.toArray⟩ = true := by
  unfold PyData.strOk
  rw [← Array.all_toList]
  simp only [List.all_eq_true]
  intro c hc
  have := h c hc
  simp
  omega
theorem atI_mem {α : Type} {l : List α} {i : Int} (h0 : 0 ≤ i) (h1 : i < l.length) : ∃ d, d ∈ l ∧ atI l i = some d := by
  have hl : i.toNat < l.length := by omega
  exact ⟨l[i.toNat], List.getElem_mem _, atI_nat h0 (List.getElem?_eq_getElem hl)⟩
theorem vY {ds : List D} {i : Int} {Q : D → Prop} : dIx (.lst ds) (.int i) Q = ∃ d, atI ds i = some d ∧ Q d := rfl
theorem vZ {ds : List D} {i : Int} {Q : D → Prop} : dIx (.tup ds) (.int i) Q = ∃ d, atI ds i = some d ∧ Q d := rfl
theorem ja {ds : List D} {i : Int} {Q : D → Prop} : dIx (.scr ds) (.int i) Q = ∃ d, atI ds i = some d ∧ Q d := rfl
end DL
namespace DL
open PySem PySem.Spec PyProof.Rows L2
variable [Lk]
def lookD : List Str → List D → Str → Option D
  | g :: fs, d :: ds, f => if f = g then some d else lookD fs ds f
  | _, _, _ => none
section
variable {c : Cy} {X : Cx} {e : Expr} {te : TE} {t : TA} {w : WE} {wt : WAs} {pos : Pos}
theorem lookD_v {F : Hp} {f : Str} : ∀ {ps : List (Str × V)} {ds : List D} {d : D}, DrL c F (ps.map (·.2)) ds → lookD (ps.map (·.1)) ds f = some d → ∃ v, ps.lookup f = some v ∧ Dr c F v d
  | [], ds, d, r, h => by cases ds <;> simp [lookD] at h
  | (g, v) :: ps, [], d, r, h => by simp [lookD] at h
  | (g, v) :: ps, d0 :: ds, d, r, h => by
    obtain ⟨u, vr, e, q, t⟩ := r.cons_iff
    simp only [List.map_cons] at e
    cases e
    simp only [List.map_cons, lookD] at h
    by_cases z : f = g
    · rw [if_pos z] at h
      cases h
      exact ⟨v, by rw [z, List.lookup_cons_self], q⟩
    · rw [if_neg z] at h
      obtain ⟨x, h1, h2⟩ := lookD_v t h
      exact ⟨x, by rw [List.lookup_cons, show (f == g) = false by simpa using z]; exact h1, h2⟩
theorem lookup_no {f : Str} : ∀ {ps : List (Str × V)}, f ∉ ps.map (·.1) → ps.lookup f = none
  | [], _ => rfl
  | (g, v) :: ps, h => by
    simp only [List.map_cons, List.mem_cons, not_or] at h
    rw [List.lookup_cons, show (f == g) = false by simpa using h.1]
    exact lookup_no h.2
def wFld (n f : Str) (w : WE) : WE := fun ρ Q => w ρ fun d ρ1 => match d with
  | .ins n' fs ds => n' = n ∧ ∃ d', lookD fs ds f = some d' ∧ Q d' ρ1
  | _ => False
theorem de_fld {n f : Str} {C : Addr} (hm : X.mg n = some (.ref C)) (hc : Cls X.K C) (hn : NoAttr X.K C f) (he : DP X e te w) (hb : attributeBase e f X.env (eval e X.env) = eval e X.env := by rfl) : DE X (.Attribute e f pos) (tFld X.K te f) (wFld n f w) :=
  ⟨pe_fld he.pe hb, fun {b ρ σ F M M0} R Qd Q hw k => by
    refine he.sn R _ _ hw fun d ρ1 v F1 M1 M01 q A r => ?_
    cases d with
    | ins n' fs ds =>
      obtain ⟨rfl, d', hl, q⟩ := q
      obtain ⟨a, C', dx, ps, rfl, _, hH, hg, rfl, rl⟩ := r
      have eC : C' = C := by
        have hg : X.mg n' = some (.ref C') := hg
        rw [hm] at hg
        cases hg; rfl
      subst eC
      obtain ⟨v, h1, h2⟩ := lookD_v rl hl
      exact ⟨a, _, dx, ps, v, rfl, hH, hc, hn, h1, k d' ρ1 v F1 M1 M01 q A h2⟩
    | _ => exact q.elim⟩
def wMeth (n m : Str) (wf : WFn) (w : WE) (wa : WAs) : WE := fun ρ Q => w ρ fun d ρ1 => match d with
  | .ins n' fs ds => (n' = n ∧ m ∉ fs) ∧ wa ρ1 fun as ρ2 => wf (.sh (.ins n' fs ds) :: as) fun r => Q r ρ2
  | _ => False
end
abbrev WFo := List Sl → (D → List Sl → Prop) → Prop
def spO (c : Cy) (wf : WFo) : Sp := fun vs H Q _ => ∃ (b : Option Addr) (F M M1 : Hp) (as : List Sl) (Qd : D → List Sl → Prop), H = HH F M ∧ Rel0 c b as (vs.map some) F M M1 ∧ wf as Qd ∧
  ∀ d v as' F' M' M1', Qd d as' → Same F F' → Rel0 c b as' (vs.map some) F' M' M1' → MR b M1 M1' → Dr c F' v d → Q v (HH F' M')
/-- what is handed back -/
def back : List Sl → List Sl → List Sl → Prop
  | [], _, as' => as' = []
  | a :: as, s :: ρ, s' :: as' => (match a with
    | .od x _ => s' = s ∧ ∃ t, s = .od x t
    | .sh d => s' = .sh d
    | .bx => s' = .bx
    | _ => False) ∧ back as ρ as'
  | _, _, _ => False
section
variable {c : Cy} {b : Option Addr} {F M M0 : Hp}
theorem relE_nos {n : Nat} : ∀ {as : List Sl} {τ : L2.St} {M : Hp}, RelE c b F M0 as τ M → RelE c b F M0 (as ++ List.replicate n .no) (τ ++ List.replicate n none) M
  | [], τ, M, h => by
    obtain ⟨rfl, rfl, nt⟩ := h
    exact rel_nos nt n
  | s1 :: as, τ, M, h => by
    obtain ⟨v, σr, rfl, h⟩ := h
    refine ⟨v, σr ++ List.replicate n none, rfl, ?_⟩
    have own : ∀ s2 : Sl, (∃ a o M', v = some (.ref a) ∧ ObR c F s2 o ∧ F a = none ∧ M' a = none ∧ M = upd M' a o ∧ RelE c b F M0 as σr M') →
        ∃ a o M', v = some (.ref a) ∧ ObR c F s2 o ∧ F a = none ∧ M' a = none ∧ M = upd M' a o ∧ RelE c b F M0 (as ++ List.replicate n .no) (σr ++ List.replicate n none) M' := fun s2 h => by
      obtain ⟨a, o, M', k1, k2, k3, k4, k5, t⟩ := h
      exact ⟨a, o, M', k1, k2, k3, k4, k5, relE_nos t⟩
    cases s1 with
    | no => exact relE_nos h
    | sh d => exact ⟨h.1, relE_nos h.2⟩
    | bx => exact ⟨h.1, relE_nos h.2⟩
    | ol ds => exact own (.ol ds) h
    | ok ks ds => exact own (.ok ks ds) h
    | ot ks ds => exact own (.ot ks ds) h
    | oi n fs ds => exact own (.oi n fs ds) h
    | od y t0 =>
      obtain ⟨Mo, M', k1, k2, k3, k4, t⟩ := h
      exact ⟨Mo, M', k1, k2, k3, k4, relE_nos t⟩
    | gh y t0 =>
      obtain ⟨Mo, M', k2, k3, k4, t⟩ := h
      exact ⟨Mo, M', k2, k3, k4, relE_nos t⟩
/-- the first slot is given up -/
theorem relE_pop {s1 : Sl} {ρ : List Sl} {v : Option V} {σ : L2.St} (h : RelE c b F M0 (s1 :: ρ) (v :: σ) M) (dj : Dj F M) :
    ∃ F' M', Same F F' ∧ HH F M = HH F' M' ∧ Dj F' M' ∧ (∀ a o, F' a = some o → F a = some o ∨ M a = some o) ∧ (∀ a o, M' a = some o → M a = some o) ∧ RelE c b F' M0 ρ σ M' := by
  obtain ⟨v', σr, e, h⟩ := h
  cases e
  have plain : RelE c b F M0 ρ σ M → ∃ F' M', Same F F' ∧ HH F M = HH F' M' ∧ Dj F' M' ∧ (∀ a o, F' a = some o → F a = some o ∨ M a = some o) ∧ (∀ a o, M' a = some o → M a = some o) ∧ RelE c b F' M0 ρ σ M' := fun t =>
    ⟨F, M, Same.refl _, rfl, dj, fun a o q => .inl q, fun a o q => q, t⟩
  have own : ∀ sl : Sl, (∃ a o M', v = some (.ref a) ∧ ObR c F sl o ∧ F a = none ∧ M' a = none ∧ M = upd M' a o ∧ RelE c b F M0 ρ σ M') →
      ∃ F' M', Same F F' ∧ HH F M = HH F' M' ∧ Dj F' M' ∧ (∀ a o, F' a = some o → F a = some o ∨ M a = some o) ∧ (∀ a o, M' a = some o → M a = some o) ∧ RelE c b F' M0 ρ σ M' := fun sl h => by
    obtain ⟨a, o, M', e1, r, f, m, rfl, t⟩ := h
    have dj' : Dj F M' := fun x u q => dj x u (by rw [upd_ne (ne_of_none q m)]; exact q)
    have s : Same F (upd F a o) := Same.updF f
    refine ⟨upd F a o, M', s, hh_freeze m, dj'.updF m, fun x u q => ?_, fun x u q => by rw [upd_ne (ne_of_none q m)]; exact q, t.leD (.of s) (fun x u q z => by rw [upd_ne (ne_of_none (t.sub _ _ q) m)]; exact z) (fun x u q z => by rw [upd_ne (ne_of_none q m)]; exact z)⟩
    by_cases z : x = a
    · rw [z, upd_same] at q
      right; rw [z, upd_same]; exact q
    · rw [upd_ne z] at q; exact .inl q
  cases s1 with
  | no => exact plain h
  | sh d => exact plain h.2
  | bx => exact plain h.2
  | ol ds => exact own (.ol ds) h
  | ok ks ds => exact own (.ok ks ds) h
  | ot ks ds => exact own (.ot ks ds) h
  | oi n fs ds => exact own (.oi n fs ds) h
  | od y t0 =>
    obtain ⟨Mo, M', k1, k2, k3, rfl, t⟩ := h
    have dF : Dj F Mo := OTR.dj t0 k2
    have s : Same F (HH F Mo) := dF.same
    refine ⟨HH F Mo, M', s, by rw [hh_comm k3, hh_assoc], fun a o q => ?_, fun a o q => ?_, fun a o q => k3.f q, t.leD (.of s) (fun y u q z => by rw [hh_n (k3.mn (t.sub _ _ q))]; exact z) (fun y u q z => by rw [hh_n (k3.mn q)]; exact z)⟩
    · rw [hh_n (k3.mn q)]; exact dj a o (k3.f q)
    · rcases hh_some q with z | ⟨_, z⟩
      · exact .inr (hh_m z)
      · exact .inl z
  | gh y t0 =>
    obtain ⟨Mo, M', k2, k3, rfl, t⟩ := h
    have dF : Dj F Mo := OTR.dj (shT t0) k2
    have s : Same F (HH F Mo) := dF.same
    refine ⟨HH F Mo, M', s, by rw [hh_comm k3, hh_assoc], fun a o q => ?_, fun a o q => ?_, fun a o q => k3.f q, t.leD (.of s) (fun y u q z => by rw [hh_n (k3.mn (t.sub _ _ q))]; exact z) (fun y u q z => by rw [hh_n (k3.mn q)]; exact z)⟩
    · rw [hh_n (k3.mn q)]; exact dj a o (k3.f q)
    · rcases hh_some q with z | ⟨_, z⟩
      · exact .inr (hh_m z)
      · exact .inl z
/-- the arguments as they are handed back; all else is given up -/
theorem relE_back : ∀ {as ρ as' : List Sl} {vs : List V} {σ : L2.St} {F G M M2 : Hp} {N0 : Hp}, RelE c b G N0 as (vs.map some) M2 → Same G F → RelE c b F M0 ρ σ M → Dj F M → back as ρ as' →
    ∃ F' M', Same F F' ∧ HH F M = HH F' M' ∧ Dj F' M' ∧ (∀ a o, F' a = some o → F a = some o ∨ M a = some o) ∧ (∀ a o, M' a = some o → M a = some o) ∧ RelE c b F' M0 as' (vs.map some) M'
  | [], ρ, as', vs, σ, F, G, M, M2, N0, h0, sg, h, dj, hb => by
    have e : as' = [] := hb
    subst e
    have ev : vs = [] := by
      have := h0.1
      cases vs with
      | nil => rfl
      | cons => cases this
    subst ev
    obtain ⟨F', s, eh, dj'⟩ := h.frzAll dj
    have key : ∀ a o, F' a = some o → F a = some o ∨ M a = some o := fun a o q => by
      have := dj'.f q
      rw [← eh] at this
      rcases hh_some this with z | ⟨_, z⟩
      · exact .inr z
      · exact .inl z
    exact ⟨F', M0, s, eh, dj', key, h.sub, rfl, rfl, h.nt0⟩
  | a :: as, [], as', vs, σ, F, G, M, M2, N0, h0, sg, h, dj, hb => by cases as' <;> exact hb.elim
  | a :: as, s :: ρ, [], vs, σ, F, G, M, M2, N0, h0, sg, h, dj, hb => hb.elim
  | a :: as, s :: ρ, s' :: as', vs, σ, F, G, M, M2, N0, h0, sg, h, dj, hb => by
    obtain ⟨v0, τ0, e0, h0⟩ := h0
    cases vs with
    | nil => cases e0
    | cons v vs =>
      cases e0
      obtain ⟨hb1, hb⟩ := hb
      have h' := h
      obtain ⟨v1, σr, e1, h1⟩ := h'
      subst e1
      cases a with
      | sh d =>
        have e : s' = .sh d := hb1
        subst e
        obtain ⟨⟨y, ey, hy⟩, h0⟩ := h0
        cases ey
        obtain ⟨F1, M1, s1, eh1, dj1, f1, m1, t1⟩ := relE_pop h dj
        obtain ⟨F2, M3, s2, eh2, dj2, f2, m2, t2⟩ := relE_back h0 (sg.trans s1) t1 dj1 hb
        refine ⟨F2, M3, s1.trans s2, eh1.trans eh2, dj2, fun x o q => ?_, fun x o q => m1 x o (m2 x o q), some v, vs.map some, rfl, ⟨v, rfl, hy.up ((sg.trans s1).trans s2)⟩, t2⟩
        rcases f2 x o q with z | z
        · exact f1 x o z
        · exact .inr (m1 x o z)
      | bx =>
        have e : s' = .bx := hb1
        subst e
        obtain ⟨hy, h0⟩ := h0
        obtain ⟨F1, M1, s1, eh1, dj1, f1, m1, t1⟩ := relE_pop h dj
        obtain ⟨F2, M3, s2, eh2, dj2, f2, m2, t2⟩ := relE_back h0 (sg.trans s1) t1 dj1 hb
        refine ⟨F2, M3, s1.trans s2, eh1.trans eh2, dj2, fun x o q => ?_, fun x o q => m1 x o (m2 x o q), some v, vs.map some, rfl, hy, t2⟩
        rcases f2 x o q with z | z
        · exact f1 x o z
        · exact .inr (m1 x o z)
      | od x t0 =>
        obtain ⟨e, t, e2⟩ := hb1
        subst e e2
        obtain ⟨_, _, ex, _, _, _, h0⟩ := h0
        cases ex
        obtain ⟨Mo, M', k1, k2, k3, k4, tt⟩ := h1
        subst k4
        have djm : Dj F M' := fun y u q => dj y u (k3.f q)
        obtain ⟨F2, M3, s2, eh2, dj2, f2, m2, t2⟩ := relE_back h0 sg tt djm hb
        have dFo : Dj F Mo := OTR.dj t k2
        have d2o : Dj F2 Mo := fun y u q => by
          cases z : F2 y with
          | none => rfl
          | some w =>
            rcases f2 y w z with z | z
            · rw [dFo y u q] at z; cases z
            · rw [k3 y u q] at z; cases z
        have d3o : Dj M3 Mo := fun y u q => by
          cases z : M3 y with
          | none => rfl
          | some w =>
            have := m2 y w z
            rw [k3 y u q] at this; cases this
        refine ⟨F2, HH M3 Mo, s2, ?_, ?_, ?_, ?_, some v, vs.map some, rfl, Mo, M3, rfl, OTR.leD (.of s2) t (fun y u q _ => d2o y u q) k2, d3o, rfl, t2⟩
        · rw [hh_assoc, eh2, hh_assoc]
        · intro y u q
          rcases hh_some q with z | ⟨_, z⟩
          · exact d2o y u z
          · exact dj2 y u z
        · intro y u q
          rcases f2 y u q with z | z
          · exact .inl z
          · exact .inr (k3.f z)
        · intro y u q
          rcases hh_some q with z | ⟨z0, z⟩
          · exact hh_m z
          · rw [hh_n z0]; exact m2 y u z
      | no => exact hb1.elim
      | ol _ => exact hb1.elim
      | ok _ _ => exact hb1.elim
      | ot _ _ => exact hb1.elim
      | oi _ _ _ => exact hb1.elim
      | gh _ _ => exact hb1.elim
end
section
variable {P : Program} {w : World} {K : PySem.W.Frag} {mg : Str → Option Value} {base : Heap}
/-- THE RULE for defs with own arguments -/
theorem fun_okO {x qual : Str} {st : Stmt} {f : Addr} {fd : FuncData} {N ps : List Str} {k : Nat} {wf : WFo} (FF : Fun K x qual st f fd) (S : FnScope N ps (defScope st)) (len : ∀ as Qd, wf as Qd → as.length = ps.length)
    (hbody : ∀ (cdv : Value) (A : Around) (outer : List Env) (s : Shared) (H : Hp) (E : XK), Room k (A.deeper (envOfC qual (defScope st) s.heap.objs.size f cdv)) →
      letI := Lk.top
      ∃ t ws, DSs (cxOf CX0 P w K mg base N qual (defScope st) f cdv A outer s H E).nox (defBody st) t ws ∧
        ∀ as Qd, wf as Qd → ws (startD N as) { nx := fun ρ => ∃ as', back as ρ as' ∧ Qd .non as', rt := fun d ρ => ∃ as', back as ρ as' ∧ Qd d as' }) :
    FnOk P w K mg base CX0 (k + 1) f fd ps (spO ⟨K, mg⟩ wf) := by
  refine FF.ok S (fun vs H Q E h => ?_) (fun cdv A outer s H vs Q E hr h => ?_)
  · obtain ⟨b, F, M, M1, as, Qd, _, R, hw, _⟩ := h
    have := R.env.length
    rw [List.length_map] at this
    rw [this, len as Qd hw]
  · obtain ⟨b, F, M, M1, as, Qd, rfl, R, hw, hq⟩ := h
    letI := Lk.top
    obtain ⟨t, ws, hd, hp⟩ := hbody cdv A outer s (HH F M) E hr
    refine ⟨t, hd.ps, ?_⟩
    have el : vs.length = as.length := by
      have := R.env.length
      rw [List.length_map] at this
      exact this
    have R0 : Rel ⟨K, mg⟩ b (startD N as) (L2.start N vs) F M M1 := by
      refine ⟨R.dj, ?_, R.box, trivial⟩
      unfold startD L2.start
      rw [el]
      exact relE_nos R.env
    have fin : ∀ d v ρ' σ' F' M' M0', (∃ as', back as ρ' as' ∧ Qd d as') → Same F F' → Rel ⟨K, mg⟩ b ρ' σ' F' M' M0' → MR b M1 M0' → Dr ⟨K, mg⟩ F' v d → Q v (HH F' M') := fun d v ρ' σ' F' M' M0' ⟨as', hb, q⟩ s' R' m' r => by
      obtain ⟨F2, M3, s2, eh, dj2, _, _, t2⟩ := relE_back R.env s' R'.env R'.dj hb
      rw [eh]
      exact hq d v as' F2 M3 M0' q (s'.trans s2) ⟨dj2, t2, fun a z => (R'.box a z).leD (.of s2)⟩ m' (r.up s2)
    exact hd.sn R0 _ _ (hp as Qd hw) ⟨fun ρ' σ' F' M' M0' e s' R' m' => fin .non .non ρ' σ' F' M' M0' e s' R' m' .of_non, fun _ _ _ _ _ z => z.elim, fun _ _ _ _ _ z => z.elim, fin⟩
end
section
variable {c : Cy} {b : Option Addr} {F M0 : Hp}
theorem ArgsD.relE {as : List Sl} {vs : List V} (h : ArgsD c b F as vs) (M : Hp) (nt : NT M) : RelE c b F M as (vs.map some) M := by
  have := h.rel (M := M) (n := 0) nt
  simpa using this
theorem argsD_only {G : Hp} : ∀ {as : List Sl} {vs : List V} {τ : L2.St} {M : Hp}, ArgsD c b G as vs → RelE c b F M0 as τ M → M = M0
  | [], vs, τ, M, _, h => h.2.1
  | s1 :: as, vs, τ, M, h0, h => by
    obtain ⟨v, vr, _, q, t⟩ := h0
    obtain ⟨v', σr, _, h⟩ := h
    cases s1 with
    | sh d => exact argsD_only t h.2
    | bx => exact argsD_only t h.2
    | _ => exact q.elim
variable {t : TA} {wt : WAs}
def wMake (n : Str) (wf : WFo) (wa : WAs) : WE := fun ρ Q => wa ρ fun as ρ1 => ∀ x, wf (.od x (.ins n [] []) :: as) fun r as' => ∃ t, as' = .od x t :: as ∧ r = .non ∧ Q (otD t) ρ1
theorem snd_make {n : Str} {C : Addr} {wf : WFo} {E : XK} (hm : c.mg n = some (.ref C)) (ha : Snas c t wt) : Snd c (tMake C (spO c wf) [] E t) (wMake n wf wt) := fun {b ρ σ F M M0} R Qd Q hw k => by
  refine ha R _ _ hw fun as ρ1 vs F1 M1 M01 q A ar => ?_
  intro x dx hx hdx ne
  rw [List.append_nil]
  obtain ⟨fx, mx⟩ := hh_none hx
  obtain ⟨fdx, mdx⟩ := hh_none hdx
  have sF : Same F1 (upd F1 dx (.own x)) := Same.updF fdx
  have dj1 : Dj (upd F1 dx (.own x)) M1 := A.rel.dj.updF mdx
  have djo : Dj M1 (upd emp x (.ins C dx [])) := fun a o z => by
    by_cases e : a = x
    · rw [e]; exact mx
    · rw [upd_ne e] at z; cases z
  have eH : upd (upd (HH F1 M1) dx (.own x)) x (.ins C dx []) = HH (upd F1 dx (.own x)) (HH M1 (upd emp x (.ins C dx []))) := by
    rw [hh_updF mdx, hh_updM]
    congr 1
    rw [← hh_updM, hh_emp]
  refine ⟨b, upd F1 dx (.own x), HH M1 (upd emp x (.ins C dx [])), M1, .od (.ref x) (.ins n [] []) :: as, _, eH, ⟨?_, ?_, fun a z => ?_⟩, q (.ref x), fun d v as' F' M' M1' h s R' mr r => ?_⟩
  · intro a o z
    rcases hh_some z with z | ⟨_, z⟩
    · by_cases e : a = x
      · rw [e, upd_ne (fun z => ne z.symm)]; exact fx
      · rw [upd_ne e] at z; cases z
    · exact dj1 a o z
  · refine ⟨some (.ref x), vs.map some, rfl, _, M1, rfl, ?_, djo, rfl, (ar.up sF).relE M1 A.rel.env.nt⟩
    simp only [OTR]
    exact ⟨x, C, dx, [], emp, rfl, hm, rfl, by simp [OTRL], by rw [upd_ne (fun z => ne z.symm)]; exact fx, rfl, rfl⟩
  · obtain ⟨da, ns, m, h1, h2, h3⟩ := A.rel.box a z
    exact ⟨da, ns, m, A.rel.env.sub _ _ h1, sF _ _ h2, h3⟩
  · obtain ⟨t, rfl, rfl, q⟩ := h
    refine ⟨r.non_of, ?_⟩
    obtain ⟨v1, σr, e1, Mo, M2, e2, k2, k3, rfl, tt⟩ := R'.env
    cases e1
    cases e2
    have e3 := argsD_only ar tt
    subst e3
    have dF : Dj F' Mo := OTR.dj t k2
    have s2 : Same F' (HH F' Mo) := dF.same
    have r2 : Dr c (HH F' Mo) (.ref x) (otD t) := OTR.frz s2 t (fun a o z => hh_m z) k2
    have dj2 : Dj (HH F' Mo) M2 := fun a o z => by
      rw [hh_n (k3.mn z)]
      exact R'.dj a o (k3.f z)
    obtain ⟨M0', A2⟩ := A.rel.after ((sF.trans s).trans s2) dj2 (fun a z => (R'.box a z).leD (.of s2)) mr
    rw [hh_comm k3, hh_assoc]
    exact k _ ρ1 (.ref x) _ M2 M0' q (A.trans A2) r2
end
section
variable {X : Cx} {e : Expr} {es : List Expr} {te : TE} {t : TA} {w : WE} {wt : WAs} {p pos : Pos} {k : Nat} {f C : Addr} {fd : FuncData} {ps : List Str} {n : Str}
theorem de_make {wf : WFo} (Mm : Mk X.K C f) (G : FnOk X.prog X.w X.K X.mg X.base CX0 k f fd ps (spO (cy X) wf)) (hr : Room (k + 1) X.A) (hg : Gl X n) (hm : X.mg n = some (.ref C)) (hb : Binds X.K fd ps []) (ha : DAs X (e :: es) t wt)
    (hdb : (n == ("__debug__" : Str)) = false := by decide) (he : starEach (e :: es) X.env = (false, eval e X.env) :: starEach es X.env := by rfl) (hpl : (backTo pos (starEach es X.env)).any (·.1) = false := by rfl) :
    DE X (.Call (.Name n p) (e :: es) [] pos) (tMake C (spO (cy X) wf) [] E0 t) (wMake n wf wt) := ⟨pe_make Mm G hr hg hm hb .nil pass0 ha.pe hdb he hpl, snd_make hm ha.sn⟩
/-- name.f = e, a new field of an own object -/
theorem putF_new {f : Str} {v : V} : ∀ {ps : List (Str × V)}, f ∉ ps.map (·.1) → putF f v ps = ps ++ [(f, v)]
  | [], _ => rfl
  | (g, u) :: ps, h => by
    simp only [List.map_cons, List.mem_cons, not_or] at h
    show (if g = f then _ else _) = _
    rw [if_neg (fun z => h.1 z.symm), putF_new h.2]; rfl
theorem OTRL.snoc {c : Cy} {F : Hp} {t : OT} {v : V} {M2 : Hp} (r : OTR c F t v M2) : ∀ {ts : List OT} {vs : List V} {M1 : Hp}, OTRL c F ts vs M1 → Dj M1 M2 → OTRL c F (ts ++ [t]) (vs ++ [v]) (HH M1 M2)
  | [], vs, M1, h, d => by
    simp only [OTRL] at h
    obtain ⟨rfl, rfl⟩ := h
    rw [emp_hh]
    simp only [List.nil_append, OTRL]
    exact ⟨v, [], M2, emp, rfl, r, ⟨rfl, rfl⟩, fun a o q => rfl, (emp_hh _).symm⟩
  | t0 :: ts, vs, M1, h, d => by
    simp only [OTRL] at h
    obtain ⟨v0, vr, A, B, rfl, r0, r1, d0, rfl⟩ := h
    simp only [List.cons_append, OTRL]
    exact ⟨v0, vr ++ [v], A, HH B M2, rfl, r0, OTRL.snoc r r1 (dj_l d), dj_hh d0 (dj_sym (dj_r d)), hh_swap (dj_r d)⟩
def wFldN (i : Nat) (n f : Str) (w : WE) : WS := fun ρ E => w ρ fun d ρ1 => match ρ1[i]? with
  | some (.od x (.ins n' fs ts)) => (n' = n ∧ f ∉ fs ∧ fs.length < 1000) ∧ E.nx (ρ1.set i (.od x (.ins n' (fs ++ [f]) (ts ++ [.sh d]))))
  | _ => False
theorem ds_fldN (i : Nat) {xn f : Str} {np pos' : Pos} (hm : X.mg n = some (.ref C)) (hc : Cls X.K C) (hn : NoAttr X.K C f) (hv : DE X e te w)
    (hs : swapsWith e (some (.Attribute (.Name xn np) f pos')) pos.line X.env = pure false := by rfl) (hN : X.N[i]? = some xn := by rfl) (hvis : Vis X.env.scope xn := by first | exact Or.inl rfl | exact Or.inr (Or.inl rfl) | exact Or.inr (Or.inr rfl))
    (hd : (xn == ("__debug__" : Str)) = false := by decide) (hcd : (xn == ("__classdict__" : Str)) = false := by decide) : DS X (.Assign [.Attribute (.Name xn np) f pos'] e pos) (sFld X.K (tVar i) te f) (wFldN i n f w) :=
  ⟨ps_fld (pe_var hN hvis hd hcd) hv.pe hs, fun {b ρ σ F M M0} R E Dn hw fin => by
    refine hv.sn R _ _ hw fun d ρ1 y F1 M1 M01 q A r => ?_
    cases e1 : ρ1[i]? with
    | none => simp only [e1] at q
    | some sl =>
      simp only [e1] at q
      cases sl with
      | od x t0 =>
        cases t0 with
        | ins n' fs ts =>
          obtain ⟨⟨rfl, hf, hl⟩, q⟩ := q
          obtain ⟨Mo, M', h1, h2, h3, h4, h5, h6, h7⟩ := A.rel.env.ownT e1
          have h2' := h2
          simp only [OTR] at h2
          obtain ⟨a, C', dx, ps, M2, rfl, hg, rfl, rl, fa, ma, rfl⟩ := h2
          have eC : C' = C := by
            have hg : X.mg n' = some (.ref C') := hg
            rw [hm] at hg
            cases hg; rfl
          subst eC
          have hH : HH F1 M1 a = some (.ins C' dx ps) := hh_m (by rw [h4]; exact hh_m upd_same)
          refine ⟨.ref a, h1, a, C', dx, ps, rfl, hH, hc, hn, by rw [← List.length_map (f := (·.1))]; exact hl, ?_⟩
          rw [putF_new hf, hh_updM]
          have eM : upd M1 a (.ins C' dx (ps ++ [(f, y)])) = HH M' (upd M2 a (.ins C' dx (ps ++ [(f, y)]))) := by rw [h4, hh_updM, upd_upd]
          rw [eM]
          have djn : Dj M' (upd M2 a (.ins C' dx (ps ++ [(f, y)]))) := fun u o z => by
            by_cases e : u = a
            · rw [e]; exact h3 a _ upd_same
            · rw [upd_ne e] at z; exact h3 u o (by rw [upd_ne e]; exact z)
          have rn : OTR (cy X) F1 (.ins n' (ps.map (·.1) ++ [f]) (ts ++ [.sh d])) (.ref a) (upd M2 a (.ins C' dx (ps ++ [(f, y)]))) := by
            simp only [OTR]
            refine ⟨a, C', dx, ps ++ [(f, y)], M2, rfl, hg, by simp, ?_, fa, ma, rfl⟩
            have := OTRL.snoc (t := .sh d) (v := y) (M2 := emp) (by simp only [OTR]; exact ⟨r, trivial⟩) rl (fun _ _ z => nomatch z)
            rw [hh_emp] at this
            simpa using this
          have t2 := h7 _ _ rn djn
          refine fin.nx _ σ F1 _ M01 q A.same ⟨fun u o z => ?_, t2, A.rel.box, A.rel.lk⟩ A.mr
          rcases hh_some z with z | ⟨_, z⟩
          · exact OTR.dj _ rn u o z
          · exact A.rel.dj u o (by rw [h4]; exact (h3.f z))
        | _ => exact q.elim
      | _ => exact q.elim⟩
end
end DL
namespace DL
open PySem PySem.Spec PyProof.Rows L2
variable [Lk]
section
variable {c : Cy} {X : Cx}
def kD : Key → D
  | .inl i => .int i
  | .inr s => .str s
def pairD (p : Key × D) : D := .tup [kD p.1, p.2]
theorem kD_v {F : Hp} {v : V} : ∀ {k : Key}, Dr c F v (kD k) → v = kV k
  | .inl i, h => by rw [Dr.int_of (i := i) h]; rfl
  | .inr s, h => by rw [Dr.str_of (i := s) h]; rfl
theorem merge_new : ∀ (more acc : List (Key × V)), (acc.map (·.1) ++ more.map (·.1)).Nodup → mergeK acc more = acc ++ more
  | [], acc, _ => by rw [List.append_nil]; rfl
  | (k, v) :: more, acc, h => by
    have hk : k ∉ acc.map (·.1) := fun z => by
      rw [List.map_cons, List.nodup_append] at h
      exact h.2.2 k z k List.mem_cons_self rfl
    have e : putK acc k v = acc ++ [(k, v)] := putK_new v (by
      cases q : valV acc k with
      | none => rfl
      | some u =>
        exact absurd (valV_in q) hk)
    show mergeK (putK acc k v) more = _
    rw [e, merge_new more _ (by simpa using h), List.append_assoc]; rfl
theorem pairs_v {F : Hp} : ∀ {kds : List (Key × D)} {vs : List V}, DrL c F vs (kds.map pairD) → ∃ (ps : List Addr) (kvs : List (Key × V)), vs = ps.map V.ref ∧ kvs.map (·.1) = kds.map (·.1) ∧ DrL c F (kvs.map (·.2)) (kds.map (·.2)) ∧
    ∀ (K : PySem.W.Frag) (G : Hp), Same F G → Paired (fun p kv => SqT K G p [kV kv.1, kv.2]) ps kvs
  | [], vs, h => ⟨[], [], h.nil_iff, rfl, .nil, fun K G s => .nil⟩
  | kd :: kds, vs, h => by
    obtain ⟨v, vr, rfl, q, t⟩ := h.cons_iff
    obtain ⟨ps, kvs, rfl, e, r, pp⟩ := pairs_v t
    unfold pairD at q
    simp only [Dr] at q
    obtain ⟨p, us, rfl, hp, q⟩ := q
    obtain ⟨u1, us, rfl, q1, q⟩ := q.cons_iff
    obtain ⟨u2, us, rfl, q2, q⟩ := q.cons_iff
    have eu := q.nil_iff
    subst eu
    have ek := kD_v q1
    subst ek
    exact ⟨p :: ps, (kd.1, u2) :: kvs, rfl, by simp [e], .cons q2 r, fun K G s => .cons (SqT.of (s _ _ hp)) (pp K G s)⟩
theorem new_dk {F M : Hp} {ps : List (Key × V)} {ds : List D} {p : Addr} {Q : VK} {Qd : D → Prop} (dj : Dj F M) (r : DrL c F (ps.map (·.2)) ds) (hp : HH F M p = none) (q : Qd (.dk (ps.map (·.1)) ds)) (k : ∀ d v F', Qd d → Same F F' → Dj F' M → Dr c F' v d → Q v (HH F' M)) :
    Q (.ref p) (upd (HH F M) p (.dK ps)) := by
  obtain ⟨hf, hm⟩ := hh_none hp
  rw [hh_updF hm]
  refine k _ _ _ q (Same.updF hf) (dj.updF hm) ?_
  simp only [Dr]
  exact ⟨p, ps, rfl, .inl upd_same, rfl, r.up (Same.updF hf)⟩
def rDict (K : PySem.W.Frag) : List V → Hp → VK → Prop := fun xs H Q => (∃ (a : Addr) (ps : List Addr) (kvs : List (Key × V)), xs = [.ref a] ∧ SqL K H a (ps.map V.ref) ∧ Paired (fun p kv => SqT K H p [kV kv.1, kv.2]) ps kvs ∧
    ∀ p, H p = none → Q (.ref p) (upd H p (.dK (mergeK [] kvs)))) ∨ ∃ (a : Addr) (kvs : List (Key × V)), xs = [.ref a] ∧ Rd H a (.dK kvs) ∧ ∀ p, H p = none → Q (.ref p) (upd H p (.dK kvs))
theorem call_dictU (hc : X.calm = true) : CallR X (.type "dict") (rDict X.K) := CallR.or (call_dictP hc) call_dictD
def dDict : D → (D → Prop) → Prop
  | .lst ds, Q => ∃ kds : List (Key × D), ds = kds.map pairD ∧ (kds.map (·.1)).Nodup ∧ Q (.dk (kds.map (·.1)) (kds.map (·.2)))
  | .dk ks ds, Q => Q (.dk ks ds)
  | _, _ => False
theorem ro1_dict : Ro1 (cy X) (fun x H Q => rDict X.K [x] H Q) dDict := fun {b F M x d1} Qd Q dj r1 hw k => by
  cases d1 with
  | lst ds =>
    obtain ⟨kds, rfl, nd, q⟩ := hw
    obtain ⟨a, vs, rfl, _, h, r⟩ := r1.lst_of
    obtain ⟨ps, kvs, rfl, e, r2, pp⟩ := pairs_v r
    refine .inl ⟨a, ps, kvs, rfl, SqL.of h, pp _ _ dj.same, fun p hp => ?_⟩
    rw [merge_new kvs [] (by simpa [e] using nd), List.nil_append]
    exact new_dk dj r2 hp (by rw [e]; exact q) k
  | dk ks ds =>
    obtain ⟨a, ps, rfl, _, h, e, r⟩ := r1
    exact .inr ⟨a, ps, rfl, h, fun p hp => new_dk dj r hp (by rw [e]; exact hw) k⟩
  | _ => exact hw.elim
def zipD : List D → List D → List D
  | d :: ds, e :: es => .tup [d, e] :: zipD ds es
  | _, _ => []
def wZip (wt : WA) : WA := fun ρ Q => wt ρ fun ds ρ1 => match ds with
  | [.lst a, .lst b] => Q (zipD a b) ρ1
  | _ => False
end
end DL
namespace DL
open PySem PySem.Spec PyProof.Rows L2
variable [Lk]
section
variable {κ : Type} [DecidableEq κ]
def setA : List κ → List D → κ → D → List D
  | k :: ks, d :: ds, x, y => (if k = x then y else d) :: setA ks ds x y
  | _, ds, _, _ => ds
def putA (ks : List κ) (ds : List D) (k : κ) (x : D) : List κ × List D := if k ∈ ks then (ks, setA ks ds k x) else (ks ++ [k], ds ++ [x])
theorem putK_A {c : Cy} {F : Hp} {ps : List (κ × V)} {ds : List D} {k : κ} {v : V} {x : D} (r : DrL c F (ps.map (·.2)) ds) (q : Dr c F v x) :
    (putK ps k v).map (·.1) = (putA (ps.map (·.1)) ds k x).1 ∧ DrL c F ((putK ps k v).map (·.2)) (putA (ps.map (·.1)) ds k x).2 := by
  have he : (ps.any fun kv => decide (kv.1 = k)) = decide (k ∈ ps.map (·.1)) := by
    rw [Bool.eq_iff_iff]
    simp only [List.any_eq_true, decide_eq_true_eq, List.mem_map]
  unfold putK putA
  rw [he]
  by_cases h : k ∈ ps.map (·.1)
  · rw [if_pos (decide_eq_true h), if_pos h]
    refine ⟨?_, ?_⟩
    · rw [List.map_map]
      refine List.map_congr_left fun p _ => ?_
      show (if p.1 = k then (p.1, v) else p).1 = p.1
      split <;> rfl
    · clear h he
      induction ps generalizing ds with
      | nil => rw [show ds = [] from by cases ds with | nil => rfl | cons d ds => have := r.length; simp at this]; exact .nil
      | cons p ps ih =>
        cases ds with
        | nil => have := r.length; simp at this
        | cons d ds =>
          obtain ⟨u, ur, e, r1, r2⟩ := r.cons_iff
          simp only [List.map_cons] at e
          cases e
          simp only [List.map_cons, setA]
          refine .cons ?_ (ih r2)
          by_cases z : p.1 = k
          · rw [if_pos z, if_pos z]; exact q
          · rw [if_neg z, if_neg z]; exact r1
  · rw [if_neg (by simpa using h), if_neg h]
    refine ⟨by simp, ?_⟩
    rw [List.map_append]
    exact r.append (.cons q .nil)
end
section
variable {X : Cx} {e e2 ev : Expr} {te t2 tv : TE} {w w2 wv : WE} {pos : Pos}
/-- the keys of a tuple of scalars -/
theorem keyT_v {c : Cy} {F : Hp} {v : V} {ds : List D} {ks : List Key} (h : keysD ds = some ks) (r : Dr c F v (.tup ds)) : ∃ a, v = .ref a ∧ F a = some (.tup (ks.map kV)) := by
  simp only [Dr] at r
  obtain ⟨a, vs, rfl, q, r⟩ := r
  exact ⟨a, rfl, by rw [q, keysD_v h r]⟩
def isDict : Sl → Prop
  | .ok _ _ => True
  | .ot _ _ => True
  | _ => False
def ownDict (ρ : List Sl) (i : Nat) : Prop := ∃ sl, ρ[i]? = some sl ∧ isDict sl
def wPut (i : Nat) (wk wv : WE) : WS := fun ρ E => wv ρ fun d ρ1 => ownDict ρ1 i ∧ wk ρ1 fun dk ρ2 => match ρ2[i]? with
  | some (.ok ks ds) => ∃ k, keyD dk = some k ∧ ks.length < sizeLine ∧ E.nx (ρ2.set i (.ok (putA ks ds k d).1 (putA ks ds k d).2))
  | some (.ot ks ds) => ∃ kd k, dk = .tup kd ∧ keysD kd = some k ∧ ks.length < sizeLine ∧ E.nx (ρ2.set i (.ot (putA ks ds k d).1 (putA ks ds k d).2))
  | _ => False
theorem ds_put (i : Nat) {xn : Str} {np sp : Pos} (hu : X.A.units + 1 < cLine) (hk : DE X e2 t2 w2) (hv : DE X ev tv wv) (hs : swapsWith ev (some (.Subscript (.Name xn np) e2 sp)) pos.line X.env = pure false := by rfl)
    (hN : X.N[i]? = some xn := by rfl) (hvis : Vis X.env.scope xn := by first | exact Or.inl rfl | exact Or.inr (Or.inl rfl) | exact Or.inr (Or.inr rfl)) (hd : (xn == ("__debug__" : Str)) = false := by decide)
    (hcd : (xn == ("__classdict__" : Str)) = false := by decide) : DS X (.Assign [.Subscript (.Name xn np) e2 sp] ev pos) (sDPut (tVar i) t2 tv) (wPut i w2 wv) :=
  ⟨ps_dput hu (pe_var hN hvis hd hcd) hk.pe hv.pe hs, fun {b ρ σ F M M0} R E Dn hw fin => by
    refine hv.sn R _ _ hw fun d ρ1 v F1 M1 M01 q1 A1 r1 => ?_
    obtain ⟨⟨sl1, e1, hd1⟩, q1⟩ := q1
    have hs1 : isShal sl1 := by cases sl1 <;> first | trivial | exact hd1.elim
    obtain ⟨a, _, _, ha, _⟩ := A1.rel.env.own e1 hs1
    refine ⟨.ref a, ha, ?_⟩
    refine hk.sn A1.rel _ _ q1 fun dk ρ2 y F2 M2 M02 q2 A2 r2 => ?_
    cases e2 : ρ2[i]? with
    | none => simp only [e2] at q2
    | some sl =>
      simp only [e2] at q2
      have r1' := r1.up A2.same
      cases sl with
      | ok ks ds =>
        obtain ⟨k, hk, hl, q⟩ := q2
        obtain ⟨a', o, M', h1, h2, h3, h4, h5, h6, h7, h8⟩ := A2.rel.env.own e2 trivial
        rw [ha] at h1
        have ea : a = a' := by injection h1 with h1; injection h1 with h1; injection h1
        subst ea
        obtain ⟨ps, rfl, rfl, rd⟩ := h2
        have hH : HH F2 M2 a = some (.dK ps) := hh_m (by rw [h5]; exact upd_same)
        rw [keyD_v hk r2]
        refine ⟨a, _, rfl, DPut.k hH (by rw [← List.length_map (f := (·.1))]; exact hl), ?_⟩
        rw [hh_updM]
        have pk := putK_A (k := k) rd r1'
        have t := h8 (.ok _ _) (.dK (putK ps k v)) trivial ⟨_, rfl, pk.1, pk.2⟩
        have eM : upd M2 a (.dK (putK ps k v)) = upd M' a (.dK (putK ps k v)) := by rw [h5, upd_upd]
        rw [eM]
        refine fin.nx _ σ F2 _ M02 q (A1.trans A2).same ⟨?_, t, A2.rel.box, A2.rel.lk⟩ (A1.trans A2).mr
        rw [← eM]
        exact A2.rel.dj.updM h3
      | ot ks ds =>
        obtain ⟨kd, k, rfl, hk, hl, q⟩ := q2
        obtain ⟨a', o, M', h1, h2, h3, h4, h5, h6, h7, h8⟩ := A2.rel.env.own e2 trivial
        rw [ha] at h1
        have ea : a = a' := by injection h1 with h1; injection h1 with h1; injection h1
        subst ea
        obtain ⟨ps, rfl, rfl, rd⟩ := h2
        have hH : HH F2 M2 a = some (.dT ps) := hh_m (by rw [h5]; exact upd_same)
        obtain ⟨kb, rfl, hkb⟩ := keyT_v hk r2
        refine ⟨a, _, rfl, DPut.t hH (A2.rel.dj.f hkb) (by rw [← List.length_map (f := (·.1))]; exact hl), ?_⟩
        rw [hh_updM]
        have pk := putK_A (k := k) rd r1'
        have t := h8 (.ot _ _) (.dT (putK ps k v)) trivial ⟨_, rfl, pk.1, pk.2⟩
        have eM : upd M2 a (.dT (putK ps k v)) = upd M' a (.dT (putK ps k v)) := by rw [h5, upd_upd]
        rw [eM]
        refine fin.nx _ σ F2 _ M02 q (A1.trans A2).same ⟨?_, t, A2.rel.box, A2.rel.lk⟩ (A1.trans A2).mr
        rw [← eM]
        exact A2.rel.dj.updM h3
      | _ => exact q2.elim⟩
def wfDk : List Sl → (Sl → List Sl → Prop) → Prop := fun ρ Q => Q (.ok [] []) ρ
def wfDt : List Sl → (Sl → List Sl → Prop) → Prop := fun ρ Q => Q (.ot [] []) ρ
theorem df_dt : DF X (.Dict [] [] pos) tDNewT wfDt := ⟨pe_dnewT, fun {b ρ σ F M M0} R Qd Q hw k p hp => by
  obtain ⟨hf, hm⟩ := hh_none hp
  rw [hh_updM]
  exact k (.ot [] []) ρ p _ F M M0 hw R.aft trivial ⟨[], rfl, rfl, .nil⟩ hf hm⟩
abbrev RowD := List Key × List D
def rowD (r : RowD) : D := .dk r.1 r.2
def rowT (r : RowD) : OT := .dk r.1 (r.2.map OT.sh)
def rowsT (rows : List RowD) : OT := .lst (rows.map rowT)
theorem OTRL.shs {c : Cy} {F : Hp} : ∀ {ds : List D} {vs : List V}, DrL c F vs ds → OTRL c F (ds.map OT.sh) vs emp
  | [], vs, r => by rw [r.nil_iff]; simp [OTRL]
  | d :: ds, vs, r => by
    obtain ⟨v, vr, rfl, q, t⟩ := r.cons_iff
    simp only [List.map_cons, OTRL]
    exact ⟨v, vr, emp, emp, rfl, by simp only [OTR]; exact ⟨q, trivial⟩, OTRL.shs t, (fun a o z => nomatch z), (hh_emp emp).symm⟩
theorem OTRL.unsh {c : Cy} {F : Hp} : ∀ {ds : List D} {vs : List V} {M : Hp}, OTRL c F (ds.map OT.sh) vs M → DrL c F vs ds ∧ M = emp
  | [], vs, M, h => by simp only [List.map_nil, OTRL] at h; rw [h.1]; exact ⟨.nil, h.2⟩
  | d :: ds, vs, M, h => by
    simp only [List.map_cons, OTRL] at h
    obtain ⟨v, vr, M1, M2, rfl, r1, r2, d12, rfl⟩ := h
    simp only [OTR] at r1
    obtain ⟨r3, e3⟩ := OTRL.unsh r2
    rw [r1.2, e3]
    exact ⟨.cons r1.1 r3, hh_emp emp⟩
/-- name = [dict(r) for r in rows] : own rows -/
def wCopy (i j : Nat) (w : WA) : WS := fun ρ E => w ρ fun ds ρ1 => ∃ rows : List RowD, ds = rows.map rowD ∧ ds.length ≤ sizeLine ∧ noOwnB ρ1 [i] = true ∧ i < ρ1.length ∧ j < ρ1.length ∧ ∀ x, E.nx (ρ1.set i (.od x (rowsT rows)))
/-- one tree of a list of trees: it may be another one -/
theorem OTRL.at {c : Cy} {F : Hp} : ∀ {ts : List OT} {vs : List V} {M : Hp} {k : Nat} {t : OT}, OTRL c F ts vs M → ts[k]? = some t → ∃ v Mk Mr, vs[k]? = some v ∧ OTR c F t v Mk ∧ Dj Mr Mk ∧ M = HH Mr Mk ∧
    ∀ t' Mk', OTR c F t' v Mk' → Dj Mr Mk' → OTRL c F (ts.set k t') vs (HH Mr Mk')
  | [], vs, M, k, t, h, e => by simp at e
  | t0 :: ts, vs, M, 0, t, h, e => by
    simp only [OTRL] at h
    obtain ⟨v, vr, M1, M2, rfl, r1, r2, d, rfl⟩ := h
    simp at e; subst e
    refine ⟨v, M1, M2, rfl, r1, d, rfl, fun t' Mk' r' d' => ?_⟩
    simp only [List.set_cons_zero, OTRL]
    exact ⟨v, vr, Mk', M2, rfl, r', r2, d', rfl⟩
  | t0 :: ts, vs, M, k + 1, t, h, e => by
    simp only [OTRL] at h
    obtain ⟨v, vr, M1, M2, rfl, r1, r2, d, rfl⟩ := h
    obtain ⟨u, Mk, Mr, h1, h2, h3, rfl, h5⟩ := OTRL.at (k := k) r2 (by simpa using e)
    refine ⟨u, Mk, HH Mr M1, by simpa using h1, h2, dj_hh h3 (dj_sym (dj_r d)), hh_swap (dj_r d), fun t' Mk' r' d' => ?_⟩
    simp only [List.set_cons_succ, OTRL]
    exact ⟨v, vr, M1, HH Mr Mk', rfl, r1, h5 t' Mk' r' (dj_l d'), dj_hh (dj_l d) (dj_sym (dj_r d')), hh_swap (dj_r d')⟩
def wRowPk (i : Nat) (w : WE) : WE := fun ρ Q => (∃ x t, ρ[i]? = some (.od x t)) ∧ w ρ fun d1 ρ1 => ∃ x rows k r, ρ1[i]? = some (.od x (rowsT rows)) ∧ d1 = .int k ∧ 0 ≤ k ∧ rows[k.toNat]? = some r ∧ Q (rowD r) ρ1
/-- name[e1][key] = value, own rows -/
def wPutRow (i : Nat) (w1 wk wv : WE) : WS := fun ρ E => wv ρ fun d ρ1 => (∃ x t, ρ1[i]? = some (.od x t)) ∧ w1 ρ1 fun d1 ρ2 => (∃ x rows k r, ρ2[i]? = some (.od x (rowsT rows)) ∧ d1 = .int k ∧ 0 ≤ k ∧ rows[k.toNat]? = some r) ∧
  wk ρ2 fun dk ρ3 => ∃ x rows k r key, ρ2[i]? = some (.od x (rowsT rows)) ∧ ρ3[i]? = some (.od x (rowsT rows)) ∧ d1 = .int k ∧ 0 ≤ k ∧ rows[k.toNat]? = some r ∧ keyD dk = some key ∧ r.1.length < sizeLine ∧ E.nx (ρ3.set i (.od x (rowsT (rows.set k.toNat (putA r.1 r.2 key d)))))
end
end DL
namespace DL
open PySem PySem.Spec PyProof.Rows L2
variable [Lk]
section
variable {X : Cx} {e ev : Expr} {te tv : TE} {w wv : WE} {pos : Pos}
def wLSet (i : Nat) (w1 wv : WE) : WS := fun ρ E => wv ρ fun d ρ1 => (∃ ds, ρ1[i]? = some (.ol ds)) ∧ w1 ρ1 fun d1 ρ2 => ∃ ds k, ρ2[i]? = some (.ol ds) ∧ d1 = .int k ∧ 0 ≤ k ∧ k < ds.length ∧ E.nx (ρ2.set i (.ol (ds.set k.toNat d)))
/-- list(e), a new own list -/
def wfList (w : WE) : List Sl → (Sl → List Sl → Prop) → Prop := fun ρ Q => w ρ fun d ρ1 => match d with
  | .lst ds => Q (.ol ds) ρ1
  | .tup ds => Q (.ol ds) ρ1
  | .scr ds => Q (.ol ds) ρ1
  | _ => False
theorem df_list {a : Expr} {ta : TE} {wa : WE} {x : Str} {p : Pos} {r : List V → Hp → VK → Prop} (hc : CallR X (.type "list") r)
    (hr : ∀ (v : V) (H : Hp) (Q : VK) (p : Addr) (ys : List V), v = .ref p → (SqL X.K H p ys ∨ SqT X.K H p ys) → (∀ l, H l = none → Q (.ref l) (upd H l (.lst ys))) → r [v] H Q)
    (hg : Gl X x) (hm : X.mg x = none) (hv : bootBuiltins x = some (.type "list")) (ha : DP X a ta wa)
    (hn : x ≠ "__name__" := by decide) (hdb : (x == ("__debug__" : Str)) = false := by decide) (he : starEach (a :: []) X.env = (false, eval a X.env) :: starEach [] X.env := by rfl) (hpl : (backTo pos (starEach [] X.env)).any (·.1) = false := by rfl) :
    DF X (.Call (.Name x p) [a] [] pos) (tCB r (tCons ta tNil)) (wfList wa) := ⟨pe_callTy hc hg hm hv (pa_cons ha.pe pa_nil he) hn hdb he hpl, fun {b ρ σ F M M0} R Qd Q hw k => by
  refine ha.sn R _ _ hw fun d ρ1 v F1 M1 M01 q A rk => ?_
  have go : ∀ (pp : Addr) (ys : List V) (ds : List D), v = .ref pp → (SqL X.K (HH F1 M1) pp ys ∨ SqT X.K (HH F1 M1) pp ys) → DrL (cy X) F1 ys ds → Qd (.ol ds) ρ1 → r [v] (HH F1 M1) Q := fun pp ys ds e h rd q => hr v _ _ pp ys e h fun l hl => by
    obtain ⟨hf, hm⟩ := hh_none hl
    rw [hh_updM]
    exact k (.ol ds) ρ1 l _ F1 M1 M01 q A trivial ⟨ys, rfl, rd⟩ hf hm
  cases d with
  | lst ds =>
    obtain ⟨a, vs, rfl, _, h, rd⟩ := rk.lst_of
    exact go a vs ds rfl (.inl (SqL.of h)) rd q
  | tup ds =>
    obtain ⟨a, vs, rfl, h, rd⟩ := rk.tup_of
    exact go a vs ds rfl (.inr (SqT.of (A.rel.dj.f h))) rd q
  | scr ds =>
    obtain ⟨a, vs, rfl, h, rd⟩ := rk.scr_of
    exact go a vs ds rfl (.inl (A.rel.dj.same.seq h)) rd q
  | _ => exact q.elim⟩
def wNever : WS := fun _ _ => False
end
section
variable {ρ : List Sl} {E : EnD} {w w1 w2 wk wv : WE} {wa : WAs} {wl : WA} {Qd : D → List Sl → Prop} {Ql : List D → List Sl → Prop} {Qs : Sl → List Sl → Prop} {i j : Nat} {n f m : Str}
theorem qS : wLSet i w1 wv ρ E = wv ρ fun d ρ1 => (∃ ds, ρ1[i]? = some (.ol ds)) ∧ w1 ρ1 fun d1 ρ2 => ∃ ds k, ρ2[i]? = some (.ol ds) ∧ d1 = .int k ∧ 0 ≤ k ∧ k < ds.length ∧ E.nx (ρ2.set i (.ol (ds.set k.toNat d))) := rfl
theorem vf : wfList w ρ Qs = w ρ fun d ρ1 => match d with
  | .lst ds => Qs (.ol ds) ρ1
  | .tup ds => Qs (.ol ds) ρ1
  | .scr ds => Qs (.ol ds) ρ1
  | _ => False := rfl
theorem qT : wNever ρ E = False := rfl
theorem qU : wFld n f w ρ Qd = w ρ fun d ρ1 => match d with
  | .ins n' fs ds => n' = n ∧ ∃ d', lookD fs ds f = some d' ∧ Qd d' ρ1
  | _ => False := rfl
theorem qV {wf : WFn} : wMeth n m wf w wa ρ Qd = w ρ fun d ρ1 => match d with
  | .ins n' fs ds => (n' = n ∧ m ∉ fs) ∧ wa ρ1 fun as ρ2 => wf (.sh (.ins n' fs ds) :: as) fun r => Qd r ρ2
  | _ => False := rfl
theorem qW {wf : WFo} : wMake n wf wa ρ Qd = wa ρ fun as ρ1 => ∀ x, wf (.od x (.ins n [] []) :: as) fun r as' => ∃ t, as' = .od x t :: as ∧ r = .non ∧ Qd (otD t) ρ1 := rfl
theorem qX : wFldN i n f w ρ E = w ρ fun d ρ1 => match ρ1[i]? with
  | some (.od x (.ins n' fs ts)) => (n' = n ∧ f ∉ fs ∧ fs.length < 1000) ∧ E.nx (ρ1.set i (.od x (.ins n' (fs ++ [f]) (ts ++ [.sh d]))))
  | _ => False := rfl
theorem qY {wt : WA} : wZip wt ρ Ql = wt ρ fun ds ρ1 => match ds with
  | [.lst a, .lst b] => Ql (zipD a b) ρ1
  | _ => False := rfl
theorem qZ : wPut i wk wv ρ E = wv ρ fun d ρ1 => ownDict ρ1 i ∧ wk ρ1 fun dk ρ2 => match ρ2[i]? with
  | some (.ok ks ds) => ∃ k, keyD dk = some k ∧ ks.length < sizeLine ∧ E.nx (ρ2.set i (.ok (putA ks ds k d).1 (putA ks ds k d).2))
  | some (.ot ks ds) => ∃ kd k, dk = .tup kd ∧ keysD kd = some k ∧ ks.length < sizeLine ∧ E.nx (ρ2.set i (.ot (putA ks ds k d).1 (putA ks ds k d).2))
  | _ => False := rfl
theorem vG : wfDk ρ Qs = Qs (.ok [] []) ρ := rfl
theorem vH : wfDt ρ Qs = Qs (.ot [] []) ρ := rfl
theorem vI : wCopy i j wl ρ E = wl ρ fun ds ρ1 => ∃ rows : List RowD, ds = rows.map rowD ∧ ds.length ≤ sizeLine ∧ noOwnB ρ1 [i] = true ∧ i < ρ1.length ∧ j < ρ1.length ∧ ∀ x, E.nx (ρ1.set i (.od x (rowsT rows))) := rfl
theorem vJ : wRowPk i w ρ Qd = ((∃ x t, ρ[i]? = some (.od x t)) ∧ w ρ fun d1 ρ1 => ∃ x rows k r, ρ1[i]? = some (.od x (rowsT rows)) ∧ d1 = .int k ∧ 0 ≤ k ∧ rows[k.toNat]? = some r ∧ Qd (rowD r) ρ1) := rfl
theorem vK : wPutRow i w1 wk wv ρ E = wv ρ fun d ρ1 => (∃ x t, ρ1[i]? = some (.od x t)) ∧ w1 ρ1 fun d1 ρ2 => (∃ x rows k r, ρ2[i]? = some (.od x (rowsT rows)) ∧ d1 = .int k ∧ 0 ≤ k ∧ rows[k.toNat]? = some r) ∧
  wk ρ2 fun dk ρ3 => ∃ x rows k r key, ρ2[i]? = some (.od x (rowsT rows)) ∧ ρ3[i]? = some (.od x (rowsT rows)) ∧ d1 = .int k ∧ 0 ≤ k ∧ rows[k.toNat]? = some r ∧ keyD dk = some key ∧ r.1.length < sizeLine ∧ E.nx (ρ3.set i (.od x (rowsT (rows.set k.toNat (putA r.1 r.2 key d))))) := rfl
end
end DL
namespace DL
open PySem PySem.Spec PyProof.Rows L2
variable [Lk]
def wTpL (is : List Nat) : WG := fun d ρ Q => match d with
  | .lst ds => ds.length = is.length ∧ wStL is ds ρ Q
  | _ => False
theorem qw {ρ : List Sl} {is : List Nat} {Q : List Sl → Prop} {ds : List D} : wTpL is (.lst ds) ρ Q = (ds.length = is.length ∧ wStL is ds ρ Q) := rfl
theorem sng_lst {c : Cy} (is : List Nat) {n : Nat} (hn : n = is.length) : Sng c (gLst c.K n (gNames is)) (wTpL is) is := fun {b ρ σ F M M0 v d} R r Qd Q hw k => by
  cases d with
  | lst ds =>
    simp only [Dr] at r
    obtain ⟨a, vs, e, q, rl⟩ := r
    exact ⟨a, vs, e, SqL.of (R.dj.f q), by rw [rl.length, hn]; exact hw.1, sngs_names is R rl Qd Q hw.2 k⟩
  | _ => exact hw.elim
section
variable {X : Cx} {pos : Pos}
theorem dg_lst {es : List Expr} {k : Nat} (is : List Nat) (hc : X.calm = true) (h : PGs X es (gNames is)) (hn : (assignEach es X.env).length = is.length := by rfl) (hst : (assignEach es X.env).findIdx? (·.1) = none := by rfl) : DG X (.Tuple es k pos) (gLst X.K is.length (gNames is)) (wTpL is) is :=
  ⟨pg_lst hc h hn hst, sng_lst (c := cy X) is rfl⟩
end
end DL
namespace DL
open PySem PySem.Spec PyProof.Rows L2
variable [Lk]
section
variable {X : Cx} {pos : Pos}
abbrev jk := dI2 fun i j => D.int (i + j)
def wfDict (w : WE) : List Sl → (Sl → List Sl → Prop) → Prop := fun ρ Q => w ρ fun d ρ1 => match d with
  | .lst ds => ∃ kds : List (Key × D), ds = kds.map pairD ∧ (kds.map (·.1)).Nodup ∧ Q (.ok (kds.map (·.1)) (kds.map (·.2))) ρ1
  | .dk ks ds => Q (.ok ks ds) ρ1
  | _ => False
def jl : D → D → (D → Prop) → Prop
  | .dk ks ds, .dk ks' ds', Q => ks' = ks ∧ ds' = ds ∧ ks.Nodup ∧ (∀ d ∈ ds, flatD d = true) ∧ Q (.bl true)
  | _, _, _ => False
end
section
variable {ρ : List Sl} {w : WE} {Qs : Sl → List Sl → Prop}
theorem vg : wfDict w ρ Qs = w ρ fun d ρ1 => match d with
  | .lst ds => ∃ kds : List (Key × D), ds = kds.map pairD ∧ (kds.map (·.1)).Nodup ∧ Qs (.ok (kds.map (·.1)) (kds.map (·.2))) ρ1
  | .dk ks ds => Qs (.ok ks ds) ρ1
  | _ => False := rfl
end
end DL
namespace DL
open PySem PySem.Spec PyProof.Rows L2
variable [Lk]
section
variable {α : Type} {g : α → D} {wg : WG} {wb : WS} {we : WE} {E : EnD} {vs : List Nat}
theorem for_pre {l : List α} (I : List α → List Sl → Prop)
    (step : ∀ dn a rest, l = dn ++ a :: rest → ∀ ρ, I dn ρ → ∀ K : List Sl → Prop, (∀ ρ', I (dn ++ [a]) ρ' → K ρ') → wg (g a) ρ fun ρ1 => wb ρ1 { nx := K, ct := K, bk := E.nx, rt := E.rt })
    (fin : ∀ ρ, I l ρ → E.nx ρ) (ρ : List Sl) (h : I [] ρ) : wForL wg wb (l.map g) ρ E := by
  refine wForL_rule (fun r ρ => ∃ dn rest, l = dn ++ rest ∧ r = rest.map g ∧ I dn ρ) ?_ ?_ _ _ ⟨[], l, rfl, rfl, h⟩
  · rintro d r ρ ⟨dn, rest, e, hr, hI⟩ C hC
    cases rest with
    | nil => cases hr
    | cons a rest =>
      cases hr
      exact step dn a rest e ρ hI C fun ρ' h' => hC ρ' ⟨dn ++ [a], rest, by rw [e]; simp, rfl, h'⟩
  · rintro ρ ⟨dn, rest, e, hr, hI⟩
    have : rest = [] := List.map_eq_nil_iff.mp hr.symm
    subst this
    rw [List.append_nil] at e
    subst e
    exact fin ρ hI
theorem rangeD_nat (n : Int) : rangeD 0 n = (List.range n.toNat).map fun i : Nat => D.int (i : Int) := by
  unfold rangeD
  rw [Int.sub_zero]
  refine List.map_congr_left fun i _ => ?_
  rw [Int.zero_add]
theorem range_split {n k : Nat} {a : Nat} {dn rest : List Nat} (h : List.range n = dn ++ a :: rest) : dn = List.range a ∧ a < n := by
  have ha : (List.range n)[dn.length]? = some a := by rw [h]; simp
  have hl : dn.length < n := by
    have := congrArg List.length h
    simp at this; omega
  rw [List.getElem?_range hl] at ha
  have e : dn.length = a := Option.some.inj ha
  refine ⟨?_, by omega⟩
  have ht : (List.range n).take dn.length = dn := by rw [h]; simp
  rw [List.take_range, Nat.min_eq_left (by omega), e] at ht
  exact ht.symm
theorem for_nat {n : Int} (I : Nat → List Sl → Prop)
    (step : ∀ k : Nat, (k : Int) < n → ∀ ρ, I k ρ → ∀ K : List Sl → Prop, (∀ ρ', I (k + 1) ρ' → K ρ') → wg (.int (k : Int)) ρ fun ρ1 => wb ρ1 { nx := K, ct := K, bk := E.nx, rt := E.rt })
    (fin : ∀ ρ, I n.toNat ρ → E.nx ρ) (ρ : List Sl) (h : I 0 ρ) : wForL wg wb (rangeD 0 n) ρ E := by
  rw [rangeD_nat]
  refine for_pre (g := fun i : Nat => D.int (i : Int)) (fun dn ρ => I dn.length ρ) ?_ ?_ ρ h
  · intro dn a rest e ρ hI C hC
    obtain ⟨e1, e2⟩ := range_split (k := 0) e
    have hl : dn.length = a := by rw [e1, List.length_range]
    subst hl
    exact step dn.length (by omega) ρ hI C fun ρ' h' => hC ρ' (by rw [List.length_append]; exact h')
  · intro ρ hI
    rw [List.length_range] at hI
    exact fin ρ hI
end
end DL
namespace DL
open PySem PySem.Spec PyProof.Rows L2
variable [Lk]
def wPar (i j : Nat) (w : WA) : WS := fun ρ E => w ρ fun ds ρ1 => match ds with
  | [d1, d2] => wSt i d1 ρ1 fun ρ2 => wSt j d2 ρ2 E.nx
  | _ => False
theorem qz {i j : Nat} {w : WA} {ρ : List Sl} {E : EnD} : wPar i j w ρ E = w ρ fun ds ρ1 => match ds with
  | [d1, d2] => wSt i d1 ρ1 fun ρ2 => wSt j d2 ρ2 E.nx
  | _ => False := rfl
end DL
namespace DL
open PySem PySem.Spec PyProof.Rows L2
variable [Lk]
def peekD : OT → D → Prop
  | .sh d, e => e = d
  | .lst us, e => ∃ ds, us = ds.map OT.sh ∧ e = .lst ds
  | .dk ks us, e => ∃ ds, us = ds.map OT.sh ∧ e = .dk ks ds
  | .dt ks us, e => ∃ ds, us = ds.map OT.sh ∧ e = .dt ks ds
  | _, _ => False
/-- where a field stands -/
def fldAt (fs : List Str) (ts : List OT) (f : Str) (j : Nat) (t : OT) : Prop := fs.Nodup ∧ fs[j]? = some f ∧ ts[j]? = some t
section
variable {X : Cx} {e e2 : Expr} {te t2 : TE} {w w2 : WE} {pos : Pos}
/-- name.f, name an own instance -/
def wOFld (i : Nat) (n f : Str) : WE := fun ρ Q => match ρ[i]? with
  | some (.od _ (.ins n' fs ts)) => n' = n ∧ ∃ j t d, fldAt fs ts f j t ∧ peekD t d ∧ Q d ρ
  | _ => False
end
end DL
namespace DL
open PySem PySem.Spec PyProof.Rows L2
variable [Lk]
section
variable {X : Cx} {e e2 : Expr} {te t2 : TE} {w w2 : WE} {pos : Pos}
theorem cls_eq {n : Str} {C C' : Addr} (hm : X.mg n = some (.ref C)) (hg : (cy X).mg n = some (.ref C')) : C' = C := by
  have hg : X.mg n = some (.ref C') := hg
  rw [hm] at hg
  cases hg; rfl
/-- a shared field of an own instance -/
def wOFldS (i : Nat) (n f : Str) : WE := fun ρ Q => match ρ[i]? with
  | some (.od _ (.ins n' fs ts)) => n' = n ∧ ∃ j d, fldAt fs ts f j (.sh d) ∧ Q d ρ
  | _ => False
def wOApp (i : Nat) (n f : Str) (w : WE) : WS := fun ρ E => (∃ (x : V) (fs : List Str) (ts : List OT) (j : Nat) (ds : List D), ρ[i]? = some (.od x (.ins n fs ts)) ∧ fldAt fs ts f j (.lst (ds.map OT.sh))) ∧ w ρ fun d ρ1 => match ρ1[i]? with
  | some (.od x (.ins n' fs ts)) => n' = n ∧ ∃ (j : Nat) (ds : List D), fldAt fs ts f j (.lst (ds.map OT.sh)) ∧ ds.length < sizeLine ∧ E.nx (ρ1.set i (.od x (.ins n' fs (ts.set j (.lst ((ds ++ [d]).map OT.sh))))))
  | _ => False
def wOPut (i : Nat) (n f : Str) (wk wv : WE) : WS := fun ρ E => wv ρ fun d ρ1 => (∃ (x : V) (fs : List Str) (ts : List OT) (j : Nat) (ks : List (List Key)) (ds : List D), ρ1[i]? = some (.od x (.ins n fs ts)) ∧ fldAt fs ts f j (.dt ks (ds.map OT.sh))) ∧ wk ρ1 fun dk ρ2 => match ρ2[i]? with
  | some (.od x (.ins n' fs ts)) => n' = n ∧ ∃ (j : Nat) (ks : List (List Key)) (ds : List D) (kd : List D) (k : List Key), fldAt fs ts f j (.dt ks (ds.map OT.sh)) ∧ dk = .tup kd ∧ keysD kd = some k ∧ ks.length < sizeLine ∧ E.nx (ρ2.set i (.od x (.ins n' fs (ts.set j (.dt (putA ks ds k d).1 ((putA ks ds k d).2.map OT.sh))))))
  | _ => False
end
end DL
namespace DL
open PySem PySem.Spec PyProof.Rows L2
variable [Lk]
def slT : Sl → OT
  | .ol ds => .lst (ds.map OT.sh)
  | .ok ks ds => .dk ks (ds.map OT.sh)
  | .ot ks ds => .dt ks (ds.map OT.sh)
  | .oi n fs ds => .ins n fs (ds.map OT.sh)
  | .sh d => .sh d
  | _ => .sh .non
section
variable {X : Cx} {e e2 : Expr} {te t2 : TE} {w w2 : WE} {pos : Pos} {C : Addr}
/-- name.f = a new own list or dict -/
def wFldNO (i : Nat) (n f : Str) (wf : List Sl → (Sl → List Sl → Prop) → Prop) : WS := fun ρ E => wf ρ fun sl ρ1 => match ρ1[i]? with
  | some (.od x (.ins n' fs ts)) => (n' = n ∧ f ∉ fs ∧ fs.length < 1000) ∧ E.nx (ρ1.set i (.od x (.ins n' (fs ++ [f]) (ts ++ [slT sl]))))
  | _ => False
def Sndx (c : Cy) (te : TE) (w : WE) : Prop := ∀ {b : Option Addr} {ρ : List Sl} {σ : L2.St} {F M M0 : Hp}, Rel c b ρ σ F M M0 → ∀ (Qd : D → List Sl → Prop) (Q : VK), w ρ Qd →
  (∀ d ρ' v F' M' M0', Qd d ρ' → Same F F' → Rel c b ρ' σ F' M' M0' → MR b M0 M0' → Dr c F' v d → Q v (HH F' M')) → te σ (HH F M) Q
structure DX (X : Cx) (e : Expr) (te : TE) (w : WE) : Prop where
  pe : PE X e te
  sn : Sndx (cy X) te w
theorem DE.dx (h : DE X e te w) : DX X e te w := ⟨h.pe, fun {b ρ σ F M M0} R Qd Q hw k => h.sn R Qd Q hw fun d ρ' v F' M' M0' q A r => k d ρ' v F' M' M0' q A.same A.rel A.mr r⟩
/-- name.m(..), name an own instance -/
def wMethO (i : Nat) (n m : Str) (wf : WFo) (wa : WAs) : WE := fun ρ Q => (∃ (x : V) (fs : List Str) (ts : List OT), ρ[i]? = some (.od x (.ins n fs ts)) ∧ m ∉ fs) ∧ wa ρ fun as ρ1 => match ρ1[i]? with
  | some (.od x t) => wf (.od x t :: as) fun r as' => ∃ t', as' = .od x t' :: as ∧ Q r (ρ1.set i (.od x t'))
  | _ => False
theorem dsx_expr (he : DX X e te w) (hs : swapsWith e none pos.line X.env = pure false := by rfl) : DS X (.Expr e pos) (tDrop te) (wDrop w) := ⟨ps_expr he.pe hs, fun {b ρ σ F M M0} R E Dn hw f =>
  he.sn R _ _ hw fun d ρ1 v F1 M1 M01 q s R1 m r => f.nx ρ1 σ F1 M1 M01 q s R1 m⟩
theorem dsx_ret (he : DX X e te w) : DS X (.Return (some e) pos) (tRet te) (wRet w) := ⟨ps_ret he.pe, fun {b ρ σ F M M0} R E Dn hw f =>
  he.sn R _ _ hw fun d ρ1 v F1 M1 M01 q s R1 m r => f.rt d v ρ1 σ F1 M1 M01 q s R1 m r⟩
theorem dsx_set {i : Nat} {x : Str} {pos' : Pos} (hN : X.N.Nodup) (hi : X.N[i]? = some x) (hx : Loc X.env.scope x) (he : DX X e te w) (hs : swapsWith e (some (.Name x pos')) pos.line X.env = pure false := by rfl) (hf : X.fn x = true ∨ X.env.scope.names.lookup x = some .local := by first | exact .inl rfl | exact .inr rfl | assumption) :
    DS X (.Assign [.Name x pos'] e pos) (tAsg te (gName i)) (wAsg w (wSt i)) := ⟨ps_set hN hi hx he.pe hs hf, fun {b ρ σ F M M0} R E Dn hw f =>
  he.sn R _ _ hw fun d ρ1 v F1 M1 M01 q s R1 m r => sng_name i R1 r _ _ q fun ρ2 σ2 F2 M2 M02 q2 s2 x2 R2 m2 _ => f.nx ρ2 σ2 F2 M2 M02 q2 (s.trans s2) R2 (m.trans m2)⟩
end
end DL
namespace DL
open PySem PySem.Spec PyProof.Rows L2
variable [Lk]
section
variable {X : Cx} {e e2 : Expr} {te t2 : TE} {w w2 : WE} {pos : Pos}
def wfDisp1 (wk wv : WE) : List Sl → (Sl → List Sl → Prop) → Prop := fun ρ Q => wk ρ fun dk ρ1 => wv ρ1 fun d ρ2 => ∃ k, keyD dk = some k ∧ Q (.ok [k] [d]) ρ2
/-- name.pop(0), an own list -/
def wPop0 (i : Nat) : WE := fun ρ Q => match ρ[i]? with
  | some (.ol (d :: ds)) => Q d (ρ.set i (.ol ds))
  | _ => False
end
section
variable {ρ : List Sl} {E : EnD} {w w1 w2 wk wv : WE} {wa : WAs} {Qd : D → List Sl → Prop} {Qs : Sl → List Sl → Prop} {i : Nat} {n f m : Str} {wf : List Sl → (Sl → List Sl → Prop) → Prop}
theorem vh : wfDisp1 wk wv ρ Qs = wk ρ fun dk ρ1 => wv ρ1 fun d ρ2 => ∃ k, keyD dk = some k ∧ Qs (.ok [k] [d]) ρ2 := rfl
theorem vi : wPop0 i ρ Qd = match ρ[i]? with
  | some (.ol (d :: ds)) => Qd d (ρ.set i (.ol ds))
  | _ => False := rfl
theorem vj : wOFld i n f ρ Qd = match ρ[i]? with
  | some (.od _ (.ins n' fs ts)) => n' = n ∧ ∃ j t d, fldAt fs ts f j t ∧ peekD t d ∧ Qd d ρ
  | _ => False := rfl
theorem vk : wOFldS i n f ρ Qd = match ρ[i]? with
  | some (.od _ (.ins n' fs ts)) => n' = n ∧ ∃ j d, fldAt fs ts f j (.sh d) ∧ Qd d ρ
  | _ => False := rfl
theorem vl : wOApp i n f w ρ E = ((∃ (x : V) (fs : List Str) (ts : List OT) (j : Nat) (ds : List D), ρ[i]? = some (.od x (.ins n fs ts)) ∧ fldAt fs ts f j (.lst (ds.map OT.sh))) ∧ w ρ fun d ρ1 => match ρ1[i]? with
  | some (.od x (.ins n' fs ts)) => n' = n ∧ ∃ (j : Nat) (ds : List D), fldAt fs ts f j (.lst (ds.map OT.sh)) ∧ ds.length < sizeLine ∧ E.nx (ρ1.set i (.od x (.ins n' fs (ts.set j (.lst ((ds ++ [d]).map OT.sh))))))
  | _ => False) := rfl
theorem vm : wOPut i n f wk wv ρ E = wv ρ fun d ρ1 => (∃ (x : V) (fs : List Str) (ts : List OT) (j : Nat) (ks : List (List Key)) (ds : List D), ρ1[i]? = some (.od x (.ins n fs ts)) ∧ fldAt fs ts f j (.dt ks (ds.map OT.sh))) ∧ wk ρ1 fun dk ρ2 => match ρ2[i]? with
  | some (.od x (.ins n' fs ts)) => n' = n ∧ ∃ (j : Nat) (ks : List (List Key)) (ds : List D) (kd : List D) (k : List Key), fldAt fs ts f j (.dt ks (ds.map OT.sh)) ∧ dk = .tup kd ∧ keysD kd = some k ∧ ks.length < sizeLine ∧ E.nx (ρ2.set i (.od x (.ins n' fs (ts.set j (.dt (putA ks ds k d).1 ((putA ks ds k d).2.map OT.sh))))))
  | _ => False := rfl
theorem vo : wFldNO i n f wf ρ E = wf ρ fun sl ρ1 => match ρ1[i]? with
  | some (.od x (.ins n' fs ts)) => (n' = n ∧ f ∉ fs ∧ fs.length < 1000) ∧ E.nx (ρ1.set i (.od x (.ins n' (fs ++ [f]) (ts ++ [slT sl]))))
  | _ => False := rfl
theorem vp {wfo : WFo} : wMethO i n m wfo wa ρ Qd = ((∃ (x : V) (fs : List Str) (ts : List OT), ρ[i]? = some (.od x (.ins n fs ts)) ∧ m ∉ fs) ∧ wa ρ fun as ρ1 => match ρ1[i]? with
  | some (.od x t) => wfo (.od x t :: as) fun r as' => ∃ t', as' = .od x t' :: as ∧ Qd r (ρ1.set i (.od x t'))
  | _ => False) := rfl
end
end DL
namespace DL
open PySem PySem.Spec PyProof.Rows L2
variable [Lk]
def jn : D → (D → Prop) → Prop
  | .dk ks xs, Q => ∃ ns : List Int, ks = ns.map Sum.inl ∧ ns.length < 64 ∧ ∀ ms : List Int, ms.Perm ns → ms.Pairwise (· ≤ ·) → Q (.lst (ms.map D.int))
  | _, _ => False
section
variable {X : Cx} {e e2 : Expr} {te t2 : TE} {w w2 : WE} {pos : Pos}
def isDkt : D → Prop
  | .dk _ _ => True
  | .dt _ _ => True
  | _ => False
/-- d.get(k) -/
def wGet1 (wa wb : WE) : WE := fun ρ Q => wa ρ fun d1 ρ1 => isDkt d1 ∧ wb ρ1 fun d2 ρ2 => ∃ o, getD' d1 d2 = some o ∧ Q (o.getD .non) ρ2
theorem vq {wa wb : WE} {ρ : List Sl} {Qd : D → List Sl → Prop} : wGet1 wa wb ρ Qd = wa ρ fun d1 ρ1 => isDkt d1 ∧ wb ρ1 fun d2 ρ2 => ∃ o, getD' d1 d2 = some o ∧ Qd (o.getD .non) ρ2 := rfl
end
end DL
namespace DL
open PySem PySem.Spec PyProof.Rows L2
variable [Lk]
theorem ArgsD.nobox {c : Cy} {b : Option Addr} {F : Hp} : ∀ {as : List Sl} {vs : List V}, (∀ s ∈ as, s ≠ .bx) → ArgsD c b F as vs → ArgsD c none F as vs
  | [], vs, _, h => h
  | s :: as, vs, hn, h => by
    obtain ⟨v, vr, e, q, t⟩ := h
    refine ⟨v, vr, e, ?_, ArgsD.nobox (fun x hx => hn x (List.mem_cons_of_mem _ hx)) t⟩
    cases s with
    | sh d => exact q
    | bx => exact absurd rfl (hn _ List.mem_cons_self)
    | _ => exact q.elim
end DL
namespace DL
open PySem PySem.Spec PyProof.Rows L2
variable [Lk]
/-- what is tracked stays, and things are new -/
theorem Rel.ext0 {c : Cy} {b : Option Addr} {ρ : List Sl} {σ : L2.St} {F M M0 H' : Hp} (R : Rel c b ρ σ F M M0) (x : Ext none (HH F M) H') : ∃ F', H' = HH F' M ∧ Same F F' ∧ Rel c b ρ σ F' M M0 := by
  let F' : Hp := fun a => match M a with
    | some _ => none
    | none => H' a
  have hF : ∀ a o, M a = some o → F' a = none := fun a o h => by show (match M a with | some _ => none | none => H' a) = none; rw [h]
  have hN : ∀ a, M a = none → F' a = H' a := fun a h => by show (match M a with | some _ => none | none => H' a) = _; rw [h]
  have s : Same F F' := fun a o q => by
    have m : M a = none := by
      cases z : M a with
      | none => rfl
      | some u => rw [R.dj a u z] at q; cases q
    rw [hN a m]
    exact x a o (fun z => nomatch z) (by rw [hh_n m]; exact q)
  refine ⟨F', ?_, s, hF, R.env.leD (.of s) (fun a o q _ => hF a o (R.env.sub a o q)) (fun a o q _ => hF a o q), fun a z => (R.box a z).leD (.of s), R.lkS (s)⟩
  funext a
  cases z : M a with
  | some u => rw [hh_m z]; exact x a u (fun z => nomatch z) (hh_m z)
  | none => rw [hh_n z, hN a z]
section
variable {P : Program} {w : World} {K : PySem.W.Frag} {mg : Str → Option Value} {base : Heap}
theorem FnOk.or {CX : CXT} {k : Nat} {f : Addr} {fd : FuncData} {ps : List Str} {sp1 sp2 : Sp} (h1 : FnOk P w K mg base CX k f fd ps sp1) (h2 : FnOk P w K mg base CX k f fd ps sp2) :
    FnOk P w K mg base CX k f fd ps (fun vs H Q E => sp1 vs H Q E ∨ sp2 vs H Q E) :=
  ⟨fun vs H Q E h => h.elim (h1.len vs H Q E) (h2.len vs H Q E), fun A outer s H args us vs Q E hr e0 hb hv h => h.elim (h1.run A outer s H args us vs Q E hr e0 hb hv) (h2.run A outer s H args us vs Q E hr e0 hb hv)⟩
end
end DL
namespace DL
open PySem PySem.Spec PyProof.Rows L2
variable [Lk]
def wfCut (w : WE) (wl wh : WO) : List Sl → (Sl → List Sl → Prop) → Prop := fun ρ Q => w ρ fun d ρ1 => wl ρ1 fun lo ρ2 => wh ρ2 fun hi ρ3 => match d with
  | .lst ds => Q (.ol (cutD ds lo hi)) ρ3
  | _ => False
theorem vt {w : WE} {wl wh : WO} {ρ : List Sl} {Qs : Sl → List Sl → Prop} : wfCut w wl wh ρ Qs = w ρ fun d ρ1 => wl ρ1 fun lo ρ2 => wh ρ2 fun hi ρ3 => match d with
  | .lst ds => Qs (.ol (cutD ds lo hi)) ρ3
  | _ => False := rfl
end DL
namespace DL
open PySem PySem.Spec PyProof.Rows L2
variable [LkS]
def jp : D → Option (List D)
  | .dk ks _ => some (ks.map kD)
  | .dt ks _ => some (ks.map fun k => .tup (k.map kD))
  | _ => none
/-- a reading of a shared value: no state changes, and it stays in heaps where locks differ -/
structure KD (X : Cx) (e : Expr) (te : TE) (w : WE) : Prop where
  pe : PE X e te
  rd : ∀ {b : Option Addr} {ρ : List Sl} {σ : L2.St} {F M M0 : Hp}, Rel (cy X) b ρ σ F M M0 → ∀ Qd0 : D → List Sl → Prop, w ρ Qd0 → ∃ d v, (∀ Qd : D → List Sl → Prop, w ρ Qd → Qd d ρ) ∧ Dr (cy X) F v d ∧ ∀ (F' : Hp) (Q : VK), LeD F F' → Dj F' M → Q v (HH F' M) → te σ (HH F' M) Q
section
variable {X : Cx} {e : Expr} {te : TE} {pos : Pos}
def kVar (i : Nat) : WE := fun ρ Q => match ρ[i]? with
  | some (.sh d) => Q d ρ
  | _ => False
theorem kd_var (i : Nat) {x : Str} (hN : X.N[i]? = some x := by rfl) (hv : Vis X.env.scope x := by first | exact Or.inl rfl | exact Or.inr (Or.inl rfl) | exact Or.inr (Or.inr rfl)) (hd : (x == ("__debug__" : Str)) = false := by decide)
    (hcd : (x == ("__classdict__" : Str)) = false := by decide) : KD X (.Name x pos) (tVar i) (kVar i) := ⟨pe_var hN hv hd hcd, fun {b ρ σ F M M0} R Qd hw => by
  unfold kVar at hw
  cases e1 : ρ[i]? with
  | none => rw [e1] at hw; exact hw.elim
  | some sl =>
    rw [e1] at hw
    cases sl with
    | sh d =>
      obtain ⟨x, h1, h2⟩ := R.env.get e1
      exact ⟨d, x, (fun Qd q => by unfold kVar at q; rw [e1] at q; exact q), h2, fun F' Q _ _ q => ⟨x, h1, q⟩⟩
    | _ => exact hw.elim⟩
def kiC (n : Int) : List Sl → Option Int := fun _ => some n
def jo (j : Nat) : List Sl → Option Int := fun ρ => match ρ[j]? with
  | some (.sh (.int i)) => some i
  | _ => none
/-- name[index] of a list -/
def kIx (i : Nat) (wi : List Sl → Option Int) : WE := fun ρ Q => match wi ρ, ρ[i]? with
  | some k, some (.ol ds) => ∃ d, atI ds k = some d ∧ Q d ρ
  | some k, some (.sh (.lst ds)) => ∃ d, atI ds k = some d ∧ Q d ρ
  | _, _ => False
end
section
variable {c : Cy}
theorem itk_ok {F : Hp} {a : Addr} {o : Obj} {ps : List (Key × V)} (h : F a = some (.frz o (.dK ps))) : ItOk c (Itk a o ps) F ((ps.map (·.1)).map kD) := fun F' M' s dj _ i => by
  have q : HH F' M' a = some (.frz o (.dK ps)) := dj.f (s _ _ h)
  refine ⟨fun d hd => ?_, fun e => ⟨q, by simp at e; omega⟩⟩
  rw [List.getElem?_map, List.getElem?_map] at hd
  cases ep : ps[i]? with
  | none => rw [ep] at hd; cases hd
  | some p =>
    rw [ep] at hd
    have ed : kD p.1 = d := Option.some.inj hd
    refine ⟨⟨q, (List.getElem?_eq_some_iff.mp ep).1⟩, fun x H3 hy => ?_⟩
    obtain ⟨rfl, k, v, hk, rfl⟩ := hy
    rw [ep] at hk
    cases hk
    refine ⟨F', rfl, Same.refl _, dj, ?_⟩
    rw [← ed]
    cases k <;> simp only [kV, kD, Dr]
theorem drL_keys {F : Hp} : ∀ k : List Key, DrL c F (k.map kV) (k.map kD)
  | [] => by simp only [List.map_nil, DrL]
  | k :: ks => by
    simp only [List.map_cons, DrL]
    exact ⟨_, _, rfl, by cases k <;> simp only [kV, kD, Dr], drL_keys ks⟩
theorem itkt_ok {F : Hp} {a : Addr} {o : Obj} {ps : List (List Key × V)} (h : F a = some (.frz o (.dT ps))) : ItOk c (Itkt a o ps) F ((ps.map (·.1)).map fun k => .tup (k.map kD)) := fun F' M' s dj nt i => by
  have q : HH F' M' a = some (.frz o (.dT ps)) := dj.f (s _ _ h)
  refine ⟨fun d hd => ?_, fun e => ⟨q, by simp at e; omega⟩⟩
  rw [List.getElem?_map, List.getElem?_map] at hd
  cases ep : ps[i]? with
  | none => rw [ep] at hd; cases hd
  | some p =>
    rw [ep] at hd
    have ed : D.tup (p.1.map kD) = d := Option.some.inj hd
    refine ⟨⟨q, (List.getElem?_eq_some_iff.mp ep).1⟩, fun x H3 hy => ?_⟩
    obtain ⟨rfl, k, v, t, hk, rfl, ht⟩ := hy
    rw [ep] at hk
    cases hk
    refine ⟨F', rfl, Same.refl _, dj, ?_⟩
    rw [← ed]
    simp only [Dr]
    refine ⟨t, _, rfl, ?_, drL_keys _⟩
    rcases hh_some ht with z | ⟨_, z⟩
    · exact (nt _ _ z).elim
    · exact z
def wKeys (w : WE) : WA := fun ρ Q => w ρ fun d ρ1 => ∃ ds, jp d = some ds ∧ Q ds ρ1
/-- a dict in the frozen part -/
theorem dict_at {F : Hp} {v : V} {d : D} {ds : List D} (r : Dr c F v d) (h : jp d = some ds) : ∃ a u, v = .ref a ∧ Mut (some u) ∧ NF u ∧ ¬ Pl u ∧ ((∃ ps, u = .dK ps ∧ ds = (ps.map (·.1)).map kD) ∨ ∃ ps, u = .dT ps ∧ ds = (ps.map (·.1)).map fun k => .tup (k.map kD)) ∧ (F a = some u ∨ ∃ o, F a = some (.frz o u)) := by
  cases d with
  | dk ks xs =>
    simp only [Dr] at r
    obtain ⟨a, ps, rfl, hr, rfl, _⟩ := r
    cases h
    exact ⟨a, .dK ps, rfl, trivial, trivial, (fun z => z), .inl ⟨ps, rfl, rfl⟩, hr⟩
  | dt ks xs =>
    simp only [Dr] at r
    obtain ⟨a, ps, rfl, hr, rfl, _⟩ := r
    cases h
    exact ⟨a, .dT ps, rfl, trivial, trivial, (fun z => z), .inr ⟨ps, rfl, rfl⟩, hr⟩
  | _ => cases h
theorem lock_le {F : Hp} {a : Addr} {u : HO} {od : Obj} (h : F a = some u) (np : ¬ Pl u) (nf0 : NF u) : LeD F (upd F a (.frz od u)) := by
  refine ⟨fun x o e p => ?_, fun x u' nf e => ?_⟩
  · have ne : x ≠ a := fun z => by
      rw [z, h] at e
      cases e
      exact np p
    rw [upd_ne ne]; exact e
  · by_cases z : x = a
    · subst z
      rcases e with e | ⟨o, e⟩
      · rw [h] at e
        cases e
        exact .inr ⟨od, upd_same⟩
      · rw [h] at e
        cases e
        exact nf0.elim
    · rcases e with e | ⟨o, e⟩
      · exact .inl (by rw [upd_ne z]; exact e)
      · exact .inr ⟨o, by rw [upd_ne z]; exact e⟩
theorem unlock_le {F : Hp} {a : Addr} {u : HO} {od : Obj} (h : F a = some (.frz od u)) : LeD F (upd F a u) := by
  refine ⟨fun x o e p => ?_, fun x u' nf e => ?_⟩
  · have ne : x ≠ a := fun z => by
      rw [z, h] at e
      cases e
      exact p
    rw [upd_ne ne]; exact e
  · by_cases z : x = a
    · subst z
      rcases e with e | ⟨o, e⟩
      · rw [h] at e
        cases e
        exact nf.elim
      · rw [h] at e
        cases e
        exact .inl upd_same
    · rcases e with e | ⟨o, e⟩
      · exact .inl (by rw [upd_ne z]; exact e)
      · exact .inr ⟨o, by rw [upd_ne z]; exact e⟩
/-- a thing of the frozen part becomes another one that reads alike -/
theorem Rel.swap {b : Option Addr} {ρ : List Sl} {σ : L2.St} {F M M0 : Hp} {a : Addr} {u u' : HO} (R : Rel c b ρ σ F M M0) (h : F a = some u) (le : LeD F (upd F a u')) : Rel c b ρ σ (upd F a u') M M0 := by
  have nw : ∀ x : Addr, F x = none → upd F a u' x = none := fun x e => by
    have ne : x ≠ a := fun z => by rw [z, h] at e; cases e
    rw [upd_ne ne]; exact e
  exact ⟨fun x o q => nw x (R.dj x o q), R.env.leD le (fun x o _ e => nw x e) (fun x o _ e => nw x e), fun x z => (R.box x z).leD le, LkS.swap R.lk h⟩
theorem Fin.locked {b : Option Addr} {F M0 : Hp} {E : EnD} {Dn : Ends} {a : Addr} {u : HO} {od : Obj} (h : F a = some u) (f : Fin c b F M0 E Dn) :
    Fin c b (upd F a (.frz od u)) M0 E ⟨fun σ' H' => H' a = some (.frz od u) ∧ Dn.nx σ' (upd H' a u), fun v H' => H' a = some (.frz od u) ∧ Dn.rt v (upd H' a u), fun σ' H' => H' a = some (.frz od u) ∧ Dn.bk σ' (upd H' a u), fun σ' H' => H' a = some (.frz od u) ∧ Dn.ct σ' (upd H' a u)⟩ := by
  have key : ∀ {ρ : List Sl} {σ : L2.St} {F' M' M0' : Hp}, Same (upd F a (.frz od u)) F' → Rel c b ρ σ F' M' M0' → HH F' M' a = some (.frz od u) ∧ upd (HH F' M') a u = HH (upd F' a u) M' ∧ Same F (upd F' a u) ∧ Rel c b ρ σ (upd F' a u) M' M0' ∧ LeD F' (upd F' a u) := fun {ρ σ F' M' M0'} s R => by
    have hF : F' a = some (.frz od u) := s _ _ upd_same
    have hM : M' a = none := R.dj.mn hF
    refine ⟨R.dj.f hF, hh_updF hM, fun x o e => ?_, R.swap hF (unlock_le hF), unlock_le hF⟩
    by_cases z : x = a
    · rw [z, h] at e
      cases e
      rw [z]; exact upd_same
    · rw [upd_ne z]
      exact s x o (by rw [upd_ne z]; exact e)
  refine ⟨fun ρ σ F' M' M0' e s R m => ?_, fun ρ σ F' M' M0' e s R m => ?_, fun ρ σ F' M' M0' e s R m => ?_, fun d v ρ σ F' M' M0' e s R m r => ?_⟩
  all_goals obtain ⟨k1, k2, k3, k4, k5⟩ := key s R
  · refine ⟨k1, ?_⟩
    rw [k2]; exact f.nx ρ σ _ M' M0' e k3 k4 m
  · refine ⟨k1, ?_⟩
    rw [k2]; exact f.bk ρ σ _ M' M0' e k3 k4 m
  · refine ⟨k1, ?_⟩
    rw [k2]; exact f.ct ρ σ _ M' M0' e k3 k4 m
  · refine ⟨k1, ?_⟩
    rw [k2]; exact f.rt d v ρ σ _ M' M0' e k3 k4 m (r.leD k5)
/-- a statement, or that statement with a lock -/
def tOrL (t : TS) : TS := fun D σ H => t D σ H ∨ tLock t D σ H
theorem ps_orL {X : Cx} {st : Stmt} {t : TS} (h : PS X st t) : PS X st (tOrL t) := ⟨fun pins s σ H D I hw => hw.elim (h.run pins s σ H D I) ((ps_lock h).run pins s σ H D I)⟩
end
section
variable {X : Cx} {e : Expr} {te : TE} {w : WE}
/-- the walk over a locked dict -/
theorem sniAt_keys {b : Option Addr} {ρ : List Sl} {σ : L2.St} {F M M0 : Hp} {v : V} {d : D} {ds : List D} {a : Addr} {u : HO} {o : Obj} (R : Rel (cy X) b ρ σ F M M0) (det : ∀ Qd : D → List Sl → Prop, w ρ Qd → Qd d ρ) (hv : v = .ref a) (hk : jp d = some ds)
    (hu : (∃ ps, u = .dK ps ∧ ds = (ps.map (·.1)).map kD) ∨ ∃ ps, u = .dT ps ∧ ds = (ps.map (·.1)).map fun k => .tup (k.map kD)) (ha : F a = some (.frz o u)) (rd : ∀ Q : VK, Q v (HH F M) → te σ (HH F M) Q) : SniAt (cy X) (iKeys te) (wKeys w) b ρ σ F M M0 := fun Qd Q hw k => by
  obtain ⟨ds', hk', q⟩ := det _ hw
  rw [hk] at hk'
  cases hk'
  refine rd _ ⟨a, o, hv, ?_⟩
  rcases hu with ⟨ps, rfl, rfl⟩ | ⟨ps, rfl, rfl⟩
  · exact .inl ⟨ps, R.dj.f ha, k _ ρ _ F M M0 q R.aft (itk_ok ha)⟩
  · exact .inr ⟨ps, R.dj.f ha, k _ ρ _ F M M0 q R.aft (itkt_ok ha)⟩
/-- a statement that walks over a dict at its beginning -/
theorem sns_orL (kd : KD X e te w) {ts : TS} {ws : WS} (hw0 : ∀ ρ E, ws ρ E → ∃ Qd, wKeys w ρ Qd)
    (hs : ∀ {b : Option Addr} {ρ : List Sl} {σ : L2.St} {F M M0 : Hp}, Rel (cy X) b ρ σ F M M0 → SniAt (cy X) (iKeys te) (wKeys w) b ρ σ F M M0 → ∀ (E : EnD) (Dn : Ends), ws ρ E → Fin (cy X) b F M0 E Dn → ts Dn σ (HH F M)) : Sns (cy X) (tOrL ts) ws := fun {b ρ σ F M M0} R E Dn hw f => by
  obtain ⟨Qd0, h0⟩ := hw0 ρ E hw
  obtain ⟨d, v, det, r, rd⟩ := kd.rd R _ h0
  obtain ⟨ds, hk, _⟩ := det _ h0
  obtain ⟨a, u, hv, mu, nf, np, hu, hF⟩ := dict_at r hk
  rcases hF with hF | ⟨o, hF⟩
  · refine .inr ⟨a, u, R.dj.f hF, mu, fun od => ?_⟩
    have hM : M a = none := R.dj.mn hF
    have le := lock_le (od := od) hF np nf
    have R2 := R.swap hF le
    rw [hh_updF hM]
    exact hs R2 (sniAt_keys R2 det hv hk hu upd_same (fun Q q => rd _ Q le R2.dj q)) E _ hw (f.locked hF)
  · exact .inl (hs R (sniAt_keys R det hv hk hu hF (fun Q q => rd F Q (LeD.refl F) R.dj q)) E Dn hw f)
end
section
variable {X : Cx} {pos : Pos} {tg iter : Expr} {body : List Stmt} {te : TE} {w : WE} {g : TG} {wg : WG} {tb : TS} {wb : WS}
/-- for target in dict -/
theorem ds_forK (hp : PassesOwn (model X.prog X.w) X.A X.env X.xe) (hc : X.calm = true) {is : List Nat} (hk : KD X iter te w) (hg : DG X tg g wg is) (hb : DSs X body tb wb)
    (hs : ∀ x, foldedSetIterable iter X.env x = pure x := by intro _; rfl) : DS X (.For tg iter body [] pos) (tOrL (tFor (iKeys te) g tb)) (wFor (wKeys w) wg wb) :=
  ⟨ps_orL (ps_for hp hc (pi_keys hk.pe) hg.pg hb.ps hs), sns_orL hk (fun ρ E h => ⟨_, h⟩) fun R hi E Dn hw f => sns_for_at R hi hg.sn hb.sn E Dn hw f⟩
theorem PS.of {st : Stmt} {t t' : TS} (h : PS X st t) (c : ∀ D σ H, t' D σ H → t D σ H) : PS X st t' := ⟨fun pins s σ H D I hw => h.run pins s σ H D I (c D σ H hw)⟩
variable {elt : Expr} {ifs : List Expr} {scope : Scope} {own : List (Str × Nat)} {tt : TT} {tel : TE} {wt : WT} {we : WE}
end
section
variable {ρ : List Sl} {E : EnD} {w : WE} {Ql : List D → List Sl → Prop} {Qd : D → List Sl → Prop} {i : Nat} {wi : List Sl → Option Int}
theorem vD : wKeys w ρ Ql = w ρ fun d ρ1 => ∃ ds, jp d = some ds ∧ Ql ds ρ1 := rfl
theorem vE : kVar i ρ Qd = match ρ[i]? with
  | some (.sh d) => Qd d ρ
  | _ => False := rfl
theorem vF : kIx i wi ρ Qd = match wi ρ, ρ[i]? with
  | some k, some (.ol ds) => ∃ d, atI ds k = some d ∧ Qd d ρ
  | some k, some (.sh (.lst ds)) => ∃ d, atI ds k = some d ∧ Qd d ρ
  | _, _ => False := rfl
end
end DL
namespace DL
open PySem PySem.Spec PyProof.Rows L2
variable [Lk]
section
variable {X : Cx}
theorem dt_made {P : Program} {w : World} {H : Hp} {h' : Heap} {a : Addr} {kvs : List (List Key × V)} {prs : List (List Key × Addr × Value)} (hl : kvs.length ≤ sizeLine) (hm : (a == sysModules) = false) (r : KT H kvs prs) (ha : H a = none) (d : h'.DictOfH (tupleKind (mixKind P w)) a prs) :
    ObjOk P w (upd H a (.dT kvs)) h' a (.dT kvs) := by
  obtain ⟨q, es, ep, hq, h2, h3, h4, _, h5⟩ := d
  refine ⟨hl, hm, prs, r.keeps fun c ys ec => ?_, q, es, ep, hq, h2, h3, h4, h5⟩
  rw [upd_ne (fun z => by rw [z, ha] at ec; cases ec)]
  exact ec
end
theorem new_dt {c : Cy} {F M : Hp} {ps : List (List Key × V)} {ds : List D} {p : Addr} {Q : VK} {Qd : D → Prop} (dj : Dj F M) (r : DrL c F (ps.map (·.2)) ds) (hp : HH F M p = none) (q : Qd (.dt (ps.map (·.1)) ds)) (k : ∀ d v F', Qd d → Same F F' → Dj F' M → Dr c F' v d → Q v (HH F' M)) :
    Q (.ref p) (upd (HH F M) p (.dT ps)) := by
  obtain ⟨hf, hm⟩ := hh_none hp
  rw [hh_updF hm]
  refine k _ _ _ q (Same.updF hf) (dj.updF hm) ?_
  simp only [Dr]
  exact ⟨p, ps, rfl, .inl upd_same, rfl, r.up (Same.updF hf)⟩
section
variable {X : Cx}
/-- {t: v}, an own dict -/
def wfDispT (wk wv : WE) : List Sl → (Sl → List Sl → Prop) → Prop := fun ρ Q => wk ρ fun dk ρ1 => wv ρ1 fun d ρ2 => ∃ ks : List Key, dk = .tup (ks.map kD) ∧ Q (.ot [ks] [d]) ρ2
theorem vC {wk wv : WE} {ρ : List Sl} {Qs : Sl → List Sl → Prop} : wfDispT wk wv ρ Qs = wk ρ fun dk ρ1 => wv ρ1 fun d ρ2 => ∃ ks : List Key, dk = .tup (ks.map kD) ∧ Qs (.ot [ks] [d]) ρ2 := rfl
end
end DL
namespace DL
open PySem PySem.Spec PyProof.Rows L2
variable [Lk]
/-- the shared data of some slots -/
def shs (ρ : List Sl) : List Nat → Option (List Sl)
  | [] => some []
  | j :: js => match ρ[j]?, shs ρ js with
    | some (.sh d), some r => some (.sh d :: r)
    | _, _ => none
def scalD : D → Bool
  | .non => true
  | .bl _ => true
  | .int _ => true
  | .str _ => true
  | _ => false
def wCallN (wf : WFn) (js : List Nat) (j : Nat) : WE := fun ρ Q => match ρ[j]? with
  | some (.ol ds) => match shs (ρ.set j (.sh (.lst ds))) js with
    | some as => wf as fun d => scalD d = true ∧ Q d ρ
    | none => False
  | _ => False
theorem vB {wf : WFn} {js : List Nat} {j : Nat} {ρ : List Sl} {Qd : D → List Sl → Prop} : wCallN wf js j ρ Qd = match ρ[j]? with
  | some (.ol ds) => match shs (ρ.set j (.sh (.lst ds))) js with
    | some as => wf as fun d => scalD d = true ∧ Qd d ρ
    | none => False
  | _ => False := rfl
end DL
namespace DL
open PySem PySem.Spec PyProof.Rows L2
variable [Lk]
abbrev T3 := (Int × Int) × Int
/-- v is ((i, j), n) -/
def IsP3 (h : Heap) (v : Value) (x : T3) : Prop := ∃ (a q : Addr) (o : Obj) (n : Nat) (t : Tok), v = .ref a ∧ h.get? a = some o ∧ o.cls = .type "tuple" ∧ o.data = .seq #[.ref q, .int x.2 t] n ∧ TS.TupInts h (.ref q) [x.1.1, x.1.2]
theorem IsP3.keeps {h h' : Heap} {v : Value} {x : T3} (p : IsP3 h v x) (k : ∀ b o, h.get? b = some o → o.cls = .type "tuple" → h'.get? b = some o) : IsP3 h' v x := by
  obtain ⟨a, q, o, n, t, e, ho, hc, hd, hi⟩ := p
  exact ⟨a, q, o, n, t, e, k _ _ ho hc, hc, hd, hi.keeps k⟩
end DL
namespace DL
open PySem PySem.Spec PyProof.Rows L2
variable [Lk]
section
variable {X : Cx} {pos : Pos} {e : Expr} {te : TE} {w : WE}
def wAugL (i : Nat) (w : WE) : WS := fun ρ E => (∃ ds, ρ[i]? = some (.ol ds)) ∧ w ρ fun d ρ1 => match d with
  | .lst es => ∃ ds, ρ1[i]? = some (.ol ds) ∧ ds.length + es.length ≤ sizeLine ∧ E.nx (ρ1.set i (.ol (ds ++ es)))
  | _ => False
theorem v7 {i : Nat} {ρ : List Sl} {E : EnD} : wAugL i w ρ E = ((∃ ds, ρ[i]? = some (.ol ds)) ∧ w ρ fun d ρ1 => match d with
  | .lst es => ∃ ds, ρ1[i]? = some (.ol ds) ∧ ds.length + es.length ≤ sizeLine ∧ E.nx (ρ1.set i (.ol (ds ++ es)))
  | _ => False) := rfl
end
abbrev WFl := List Sl → (Sl → Prop) → Prop
structure FinL (c : Cy) (b : Option Addr) (F M0 : Hp) (Qd : Sl → Prop) (Dn : Ends) : Prop where
  rt : ∀ sl u p F' M', Qd sl → Same F F' → Dj F' M' → (∀ a, b = some a → Box F' M' a) → MR b M0 M' → F' p = none → M' p = none → isShal sl → ObR c F' sl u → Dn.rt (.ref p) (HH F' (upd M' p u))
abbrev WSl := List Sl → (Sl → Prop) → Prop
theorem FinL.on {c : Cy} {b : Option Addr} {F M0 F1 M01 : Hp} {Qd : Sl → Prop} {Dn : Ends} (f : FinL c b F M0 Qd Dn) (s : Same F F1) (m : MR b M0 M01) : FinL c b F1 M01 Qd Dn :=
  ⟨fun sl u p F' M' q s' dj bx m' => f.rt sl u p F' M' q (s.trans s') dj bx (m.trans m')⟩
section
variable {X : Cx} {st : Stmt} {rest : List Stmt} {t u : TS} {wt : WS} {wu : WSl} {pos : Pos}
def wSeqL (w1 : WS) (w2 : WSl) : WSl := fun ρ Qd => w1 ρ { nx := fun ρ' => w2 ρ' Qd, rt := fun _ _ => False }
def wRetL (i : Nat) : WSl := fun ρ Qd => ∃ sl, ρ[i]? = some sl ∧ isShal sl ∧ Qd sl
/-- a call of such a def: a new own list -/
def wfCallL (wf : WFl) (wa : WAs) : List Sl → (Sl → List Sl → Prop) → Prop := fun ρ Q => wa ρ fun as ρ1 => wf as fun sl => Q sl ρ1
theorem v8 {wf : WFl} {wa : WAs} {ρ : List Sl} {Q : Sl → List Sl → Prop} : wfCallL wf wa ρ Q = wa ρ fun as ρ1 => wf as fun sl => Q sl ρ1 := rfl
variable {f : Addr} {fd : FuncData} {ps : List Str} {x : Str} {p : Pos} {k : Nat} {e : Expr} {es : List Expr} {ta : TA} {wa : WAs}
end
def wRg3 (wt : WA) : WA := fun ρ Q => wt ρ fun ds ρ1 => match ds with
  | [.int i, .int j, .int c] => ∃ n : Nat, RgC i j c n ∧ Q ((List.range n).map fun t : Nat => D.int (i + (t : Int) * c)) ρ1
  | _ => False
theorem vu {wt : WA} {ρ : List Sl} {Q : List D → List Sl → Prop} : wRg3 wt ρ Q = wt ρ fun ds ρ1 => match ds with
  | [.int i, .int j, .int c] => ∃ n : Nat, RgC i j c n ∧ Q ((List.range n).map fun t : Nat => D.int (i + (t : Int) * c)) ρ1
  | _ => False := rfl
theorem v9 {w1 : WS} {w2 : WSl} {ρ : List Sl} {Qd : Sl → Prop} : wSeqL w1 w2 ρ Qd = w1 ρ { nx := fun ρ' => w2 ρ' Qd, rt := fun _ _ => False } := rfl
theorem vA {i : Nat} {ρ : List Sl} {Qd : Sl → Prop} : wRetL i ρ Qd = ∃ sl, ρ[i]? = some sl ∧ isShal sl ∧ Qd sl := rfl
end DL
namespace DL
open PySem PySem.Spec PyProof.Rows L2
variable [Lk]
def wKeysO (wf : List Sl → (Sl → List Sl → Prop) → Prop) : WA := fun ρ Q => wf ρ fun sl ρ1 => match sl with
  | .ok ks _ => Q (ks.map kD) ρ1
  | .ot ks _ => Q (ks.map fun k => .tup (k.map kD)) ρ1
  | _ => False
theorem vw {wf : List Sl → (Sl → List Sl → Prop) → Prop} {ρ : List Sl} {Q : List D → List Sl → Prop} : wKeysO wf ρ Q = wf ρ fun sl ρ1 => match sl with
  | .ok ks _ => Q (ks.map kD) ρ1
  | .ot ks _ => Q (ks.map fun k => .tup (k.map kD)) ρ1
  | _ => False := rfl
section
variable {X : Cx} {e tg : Expr} {te : TE} {wf : List Sl → (Sl → List Sl → Prop) → Prop} {pos : Pos}
def vz : D → (D → Prop) → Prop
  | .lst ds, Q => Q (.tup ds)
  | .tup ds, Q => Q (.tup ds)
  | _, _ => False
def v6 : D → (D → Prop) → Prop
  | .lst ds, Q => Q (.lst ds.reverse)
  | _, _ => False
variable {w : WE}
end
end DL
namespace DL
open PySem PySem.Spec PyProof.Rows L2
variable [Lk]
def wChain4 (wr wr' wr'' : D → D → (D → Prop) → Prop) (wa wb wc wd : WE) : WE := fun ρ Q => wa ρ fun d1 ρ1 => wb ρ1 fun d2 ρ2 => wr d1 d2 fun d => match d with
  | .bl true => wc ρ2 fun d3 ρ3 => wr' d2 d3 fun d' => match d' with
    | .bl true => wd ρ3 fun d4 ρ4 => wr'' d3 d4 fun d'' => Q d'' ρ4
    | .bl false => Q (.bl false) ρ3
    | _ => False
  | .bl false => Q (.bl false) ρ2
  | _ => False
theorem xO {wr wr' wr'' : D → D → (D → Prop) → Prop} {wa wb wc wd : WE} {ρ : List Sl} {Qd : D → List Sl → Prop} : wChain4 wr wr' wr'' wa wb wc wd ρ Qd = wa ρ fun d1 ρ1 => wb ρ1 fun d2 ρ2 => wr d1 d2 fun d => ∃ k, d = .bl k ∧ (k = true → wc ρ2 fun d3 ρ3 => wr' d2 d3 fun d' => ∃ k', d' = .bl k' ∧ (k' = true → wd ρ3 fun d4 ρ4 => wr'' d3 d4 fun d'' => Qd d'' ρ4) ∧ (k' = false → Qd (.bl false) ρ3)) ∧ (k = false → Qd (.bl false) ρ2) := by
  unfold wChain4
  congr 1; funext d1 ρ1; congr 1; funext d2 ρ2; congr 1; funext d
  cases d with
  | bl j => cases j with
    | false => simp
    | true =>
      simp only [D.bl.injEq]
      simp only [exists_eq_left', true_implies, Bool.true_eq_false, false_implies, and_true]
      congr 1; funext d3 ρ3; congr 1; funext d'
      cases d' with
      | bl j' => cases j' <;> simp
      | _ => simp
  | _ => simp
end DL
namespace DL
open PySem PySem.Spec PyProof.Rows L2
variable [Lk]
def wfCat (wa wb : WE) : List Sl → (Sl → List Sl → Prop) → Prop := fun ρ Q => wa ρ fun d1 ρ1 => wb ρ1 fun d2 ρ2 => match d1, d2 with
  | .lst a, .lst b => a.length + b.length ≤ sizeLine ∧ Q (.ol (a ++ b)) ρ2
  | _, _ => False
theorem xP {wa wb : WE} {ρ : List Sl} {Q : Sl → List Sl → Prop} : wfCat wa wb ρ Q = wa ρ fun d1 ρ1 => wb ρ1 fun d2 ρ2 => match d1, d2 with
  | .lst a, .lst b => a.length + b.length ≤ sizeLine ∧ Q (.ol (a ++ b)) ρ2
  | _, _ => False := rfl
end DL
namespace DL
open PySem PySem.Spec PyProof.Rows L2
/-- what an exception shows: its class's name and its fields -/
structure Xn where
  n : Str
  fs : List (Str × V)
/-- the exception of class cls with the dict d shows x -/
def XnR (mg : Str → Option Value) (H : Hp) (x : Xn) (cls : Value) (d : Option Addr) : Prop := ∃ C, mg x.n = some (.ref C) ∧ cls = .ref C ∧ ((x.fs = [] ∧ d = none) ∨ (x.fs ≠ [] ∧ ∃ a, d = some a ∧ H a = some (.xd x.fs)))
abbrev WFx := List Sl → (D → Prop) → (Xn → Prop) → Prop
/-- the def began in this heap -/
@[reducible] def Lk.from (F0 M00 : Hp) : Lk where
  lk := fun b F M => b = none ∧ Same F0 F ∧ ∀ a o, M00 a = some o → M a = some o
  mono := fun {b F F' M M'} h s m => ⟨h.1, h.2.1.trans s, fun a o q => by rw [m a (by rw [h.1]; exact fun z => nomatch z)]; exact h.2.2 a o q⟩
  lay := fun {b F M p o} h e => ⟨h.1, h.2.1, fun a u q => by
    have := h.2.2 a u q
    rw [upd_ne (fun z => by rw [z, e] at this; cases this)]
    exact this⟩
theorem mr_none {M M' : Hp} (h : MR none M M') : M' = M := funext fun a => h a fun z => nomatch z
def wRaise (EX : Xn → Prop) (n : Str) : WS := fun _ _ => EX ⟨n, []⟩
theorem xR {EX : Xn → Prop} {n : Str} {ρ : List Sl} {E : EnD} : wRaise EX n ρ E = EX ⟨n, []⟩ := rfl
def wCallX (EX : Xn → Prop) (wf : WFx) (wt : WAs) : WE := fun ρ Q => wt ρ fun as ρ1 => wf as (fun d => Q d ρ1) EX
theorem xS {EX : Xn → Prop} {wf : WFx} {wt : WAs} {ρ : List Sl} {Q : D → List Sl → Prop} : wCallX EX wf wt ρ Q = wt ρ fun as ρ1 => wf as (fun d => Q d ρ1) EX := rfl
def wCallX0 (wf : WFx) (wt : WAs) : WE := fun ρ Q => wt ρ fun as ρ1 => (∀ s ∈ as, s ≠ .bx) ∧ wf as (fun d => Q d ρ1) fun _ => False
theorem xT {wf : WFx} {wt : WAs} {ρ : List Sl} {Q : D → List Sl → Prop} : wCallX0 wf wt ρ Q = wt ρ fun as ρ1 => (∀ s ∈ as, s ≠ .bx) ∧ wf as (fun d => Q d ρ1) fun _ => False := rfl
end DL
namespace DL
open PySem PySem.Spec PyProof.Rows L2
variable [Lk]
/-- the class c takes the exceptions of these names -/
def Takn (K : PySem.W.Frag) (mg : Str → Option Value) (c : Value) (ns : List Str) : Prop := ∀ n ∈ ns, ∀ C, mg n = some (.ref C) → PySem.W.exmOne K (.ref C) c = some true
def wTryRet (ns : List Str) (d0 : D) (wf : WFx) (wa : WAs) : WS := fun ρ E => wa ρ fun as ρ1 => (∀ s ∈ as, s ≠ .bx) ∧ wf as (fun d => E.rt d ρ1) fun x => x.n ∈ ns ∧ E.rt d0 ρ1
theorem xU {ns : List Str} {d0 : D} {wf : WFx} {wa : WAs} {ρ : List Sl} {E : EnD} : wTryRet ns d0 wf wa ρ E = wa ρ fun as ρ1 => (∀ s ∈ as, s ≠ .bx) ∧ wf as (fun d => E.rt d ρ1) fun x => x.n ∈ ns ∧ E.rt d0 ρ1 := rfl
end DL
namespace DL
open PySem PySem.Spec PyProof.Rows L2
section
variable (prog : Program) (w : World) (h₀ : Heap)
/-- v reads as d, and repr shows it so wherever it stands -/
def RepAt (v : Value) (d : PyData) : Prop := ∃ as bs, Reads h₀ v d as ∧ ReadAtMost h₀ d.depth bs ∧ ReprK prog w bs h₀ d.depth v d.shown
def RepsAt : List Value → List PyData → Prop
  | [], [] => True
  | v :: vs, d :: ds => RepAt prog w h₀ v d ∧ RepsAt vs ds
  | _, _ => False
end
section
variable {prog : Program} {w : World} {h₀ : Heap}
theorem RepAt.flat {v : Value} {d : PyData} {as : List Addr} (r : Reads h₀ v d as) (hs : d.showable = true) (hn : d.hasDict = false) (hz : d.shown.length ≤ sizeLine) : RepAt prog w h₀ v d := by
  obtain ⟨bs, h1, h2⟩ := ReprK.of_reads (prog := prog) (w := w) r hs (fun h => by rw [hn] at h; cases h) hz
  exact ⟨as, bs, r, h1, h2⟩
theorem RepsAt.all : ∀ {vs : List Value} {ds : List PyData}, RepsAt prog w h₀ vs ds → ∃ as bs, ReadsAll h₀ vs ds as ∧ ReadAtMost h₀ (PyData.depthAll ds) bs ∧ ReprAllK prog w bs h₀ (PyData.depthAll ds) vs (PyData.shownAll ds)
  | [], [], _ => ⟨[], [], .nil, (fun _ h => nomatch h), by simp only [PyData.shownAll]; exact .nil⟩
  | v :: vs, d :: ds, h => by
    obtain ⟨⟨a1, b1, r1, m1, k1⟩, hr⟩ := h
    obtain ⟨a2, b2, r2, m2, k2⟩ := RepsAt.all hr
    have l1 : d.depth ≤ PyData.depthAll (d :: ds) := by simp only [PyData.depthAll]; exact Nat.le_max_left _ _
    have l2 : PyData.depthAll ds ≤ PyData.depthAll (d :: ds) := by simp only [PyData.depthAll]; exact Nat.le_max_right _ _
    refine ⟨a1 ++ a2, b1 ++ b2, .cons r1 r2, (m1.mono l1).append (m2.mono l2), ?_⟩
    simp only [PyData.shownAll]
    exact .cons ((k1.more fun b hb => List.mem_append_left _ hb).level_le l1) (k2.more_le (fun b hb => List.mem_append_right _ hb) l2)
/-- a list of such things -/
theorem RepAt.list {a : Addr} {o : Obj} {vs : Array Value} {n : Nat} {xs : List PyData} (h1 : h₀.get? a = some o) (h2 : o.cls = .type "list") (h3 : o.data = .seq vs n) (hr : RepsAt prog w h₀ vs.toList xs) : RepAt prog w h₀ (.ref a) (.list xs) := by
  obtain ⟨as, bs, h4, hb, hk⟩ := hr.all
  have r : Reads h₀ (.ref a) (.list xs) (a :: as) := .list h1 h2 h3 h4
  have dp : PyData.depthAll xs < (PyData.list xs).depth := by simp only [PyData.depth]; omega
  have hna := not_mem_of_deeper r dp hb
  refine ⟨_, a :: bs, r, ReadAtMost.cons r (Nat.le_of_lt dp) hb, ?_⟩
  simp only [PyData.depth, PyData.shown]
  obtain ⟨l⟩ := vs
  cases l with
  | nil =>
    cases h4
    simp only [PyData.shownAll, listText_nil]
    exact ReprK.listEmpty h1 h2 h3
  | cons x l => exact ReprK.list h1 h2 h3 hna (by simpa using hk.length_eq) fun i y e => hk.item i y (by simpa using e)
/-- a dict of flat things -/
theorem RepAt.dict {a : Addr} {o : Obj} {es : Array DictEntry} {n : Nat} {kvs : List (PyData × PyData)} (h1 : h₀.get? a = some o) (h2 : o.cls = .type "dict") (h3 : o.data = .dict es n) (hsys : (a == sysModules) = false)
    (hk : RepsAt prog w h₀ (es.toList.map (·.key)) (kvs.map (·.1))) (hv : RepsAt prog w h₀ (es.toList.map (·.val)) (kvs.map (·.2))) : RepAt prog w h₀ (.ref a) (.dict kvs) := by
  obtain ⟨a1, b1, r1, m1, k1⟩ := hk.all
  obtain ⟨a2, b2, r2, m2, k2⟩ := hv.all
  have r : Reads h₀ (.ref a) (.dict kvs) (a :: a1 ++ a2) := .dict h1 h2 h3 r1 r2
  have hb : ReadAtMost h₀ (PyData.depthKv kvs) (b1 ++ b2) := (m1.mono (PyData.depthAll_keys_le kvs)).append (m2.mono (PyData.depthAll_vals_le kvs))
  have dp : PyData.depthKv kvs < (PyData.dict kvs).depth := by simp only [PyData.depth]; omega
  have hna := not_mem_of_deeper r dp hb
  refine ⟨_, a :: (b1 ++ b2), r, ReadAtMost.cons r (Nat.le_of_lt dp) hb, ?_⟩
  simp only [PyData.depth, PyData.shown, PyData.shownKv_eq]
  exact ReprK.dict h1 h2 h3 hsys hna (ReprEntriesK.of_two es.toList _ _ (k1.more_le (fun b hb => List.mem_append_left _ hb) (PyData.depthAll_keys_le kvs)) (k2.more_le (fun b hb => List.mem_append_right _ hb) (PyData.depthAll_vals_le kvs)))
end
end DL
namespace DL
open PySem PySem.Spec PyProof.Rows L2
/-- keys and flat values as Python data -/
def kP : Key → PyData
  | .inl i => .int i
  | .inr x => .str x
/-- what such a repr shows: numbers, or dicts from keys to numbers -/
inductive It where
  | ns (l : List Int)
  | rows (l : List (List Key × List Int))
def It.d : It → D
  | .ns l => .lst (l.map D.int)
  | .rows l => .lst (l.map fun r => .dk r.1 (r.2.map D.int))
section
variable {prog : Program} {w : World} {h₀ : Heap}
theorem RepAt.int {i : Int} {t : Tok} (h : i.natAbs < 10 ^ 12) : RepAt prog w h₀ (.int i t) (.int i) := by
  have S : Shw (.int i) := .of (by simp only [smD, Bool.and_eq_true, decide_eq_true_eq]; omega) (by simp only [depD]; omega) (by simp only [szD]; omega)
  have e : toPy (.int i) = .int i := by simp only [toPy]
  have h1 := S.sh
  have h2 := S.sz
  rw [e] at h1 h2
  exact RepAt.flat (.int i t) h1 (by simp only [PyData.hasDict]) h2
end
end DL
namespace DL
open PySem PySem.Spec PyProof.Rows L2
def It.ok : It → Prop
  | .ns l => ∀ x ∈ l, x.natAbs < 10 ^ 12
  | .rows l => ∀ r ∈ l, (∀ x ∈ r.2, x.natAbs < 10 ^ 12) ∧ ∀ k ∈ r.1, (kP k).showable = true ∧ (kP k).shown.length ≤ 1000
end DL
namespace DL
open PySem PySem.Spec PyProof.Rows L2
/-- small enough, with letters as keys -/
def It.small : It → Prop
  | .ns l => l.length ≤ 100 ∧ ∀ x ∈ l, x.natAbs < 10 ^ 12
  | .rows l => l.length ≤ 100 ∧ ∀ r ∈ l, (r.2.length ≤ 10 ∧ ∀ x ∈ r.2, x.natAbs < 10 ^ 12) ∧ ∀ k ∈ r.1, ∃ f : Str, k = .inr f ∧ f.length = 1 ∧ PyData.strOk f = true
theorem letter_fit {f : Str} (h1 : f.length = 1) (h2 : PyData.strOk f = true) : (PyData.str f).showable = true ∧ (PyData.str f).shown.length ≤ 1000 ∧ (PyData.str f).leavesShort 13 = true ∧ (PyData.str f).weight ≤ 41 := by
  have hsz : f.cps.size = 1 := h1
  have q := smD_all (.str f) (by simpa only [smD] using h2)
  have e : toPy (.str f) = .str f := by simp only [toPy]
  have q1 := PyData.leavesShort_of_canLay0 13 _ (okD_lay (.str f) q.1) q.2.2.1
  rw [e] at q1
  have hw : (PyData.str f).weight = 1 := by simp only [PyData.weight]; exact hsz
  have := PyData.shown_le 13 (by decide) (.str f) q1
  rw [hw] at this
  exact ⟨by simp only [PyData.showable], by omega, q1, by omega⟩
theorem It.small.ok : ∀ {it : It}, it.small → it.ok
  | .ns l, h => h.2
  | .rows l, h => fun r hr => ⟨(h.2 r hr).1.2, fun k hk => by
    obtain ⟨f, rfl, h1, h2⟩ := (h.2 r hr).2 k hk
    have := letter_fit h1 h2
    exact ⟨this.1, this.2.1⟩⟩
end DL
namespace DL
open PySem PySem.Spec PyProof.Rows L2
variable [Lk]
def wDcL (vs : List Nat) (wg : WG) (wt : WT) (wk wv : WE) : List D → List Sl → List Key → List D → (List Key → List D → List Sl → Prop) → Prop
  | [], ρ, ks, acc, Q => Q ks acc ρ
  | d :: ds, ρ, ks, acc, Q => wg d ρ fun ρ1 => wt ρ1 fun k ρ2 => match k with
    | true => wk ρ2 fun dk ρ3 => wv ρ3 fun y ρ4 => ∃ key, keyD dk = some key ∧ noOwnB ρ4 vs = true ∧ wDcL vs wg wt wk wv ds (wipeD ρ4 vs) (putA ks acc key y).1 (putA ks acc key y).2 Q
    | false => noOwnB ρ2 vs = true ∧ wDcL vs wg wt wk wv ds (wipeD ρ2 vs) ks acc Q
def wDc (vs : List Nat) (wi : WA) (wg : WG) (wt : WT) (wk wv : WE) : List Sl → (Sl → List Sl → Prop) → Prop := fun ρ Q => wi ρ fun ds ρ1 => ds.length ≤ sizeLine ∧ noOwnB ρ1 vs = true ∧
  wDcL vs wg wt wk wv ds (wipeD ρ1 vs) [] [] fun ks acc ρ2 => noOwnB ρ2 vs = true ∧ Q (.ok ks acc) (wipeD ρ2 vs.reverse)
theorem xQ {vs : List Nat} {wi : WA} {wg : WG} {wt : WT} {wk wv : WE} {ρ : List Sl} {Q : Sl → List Sl → Prop} : wDc vs wi wg wt wk wv ρ Q = wi ρ fun ds ρ1 => ds.length ≤ sizeLine ∧ noOwnB ρ1 vs = true ∧
  wDcL vs wg wt wk wv ds (wipeD ρ1 vs) [] [] fun ks acc ρ2 => noOwnB ρ2 vs = true ∧ Q (.ok ks acc) (wipeD ρ2 vs.reverse) := rfl
end DL
namespace DL
open PySem PySem.Spec PyProof.Rows L2
/-- names of a def with the cell __class__ -/
structure FnScopeS (N P : List Str) (sc : Scope) : Prop where
  kind : sc.kind = .function
  co : sc.isCoroutine = false
  gen : sc.isGenerator = false
  nd : N.Nodup
  pre : N.take P.length = P
  par : ∀ x ∈ P, sc.names.lookup x = some .local
  nocell : ∀ y ∈ sc.names, y.2 ≠ .cell
  free : ∀ y ∈ sc.names, y.2 = .free → y.1 = "__class__"
  sup : sc.names.lookup ("super" : Str) = some .globalImplicit
  cls : sc.names.lookup ("__class__" : Str) = some .free
/-- what is known of the def's function object -/
structure SupFn (P : Program) (K : PySem.W.Frag) (mg : Str → Option Value) (D cc f : Addr) (cdv : Value) (fd : FuncData) (p0 : Str) : Prop where
  fn : ∃ oc od osl, K.lookup f = some ⟨oc, od, .func fd, osl⟩
  hd : ∃ ar, (fd.params.posonlyargs ++ fd.params.args).head? = some ar ∧ ar.arg = p0
  code : ∃ cda ccl cdd vs ccs file tf, cdv = .ref cda ∧ K.lookup cda = some ⟨ccl, cdd, .fields vs, ccs⟩ ∧ vs[2]? = some (.str file tf) ∧ ((P.main.file : Str) == file) = true
  cell : ∃ cl cld csl, K.lookup cc = some ⟨cl, cld, .cell (some (.ref D)), csl⟩
  cD : ∃ cdD, PySem.W.clsIn K D = some cdD
  sp : mg "super" = none
  tp : PySem.W.nsIn K cStatics "thirdparty.any" = some none
  top : (P.main.scope.names.lookup ("super" : Str)).isSome = false
/-- what is known of the class that is made -/
structure SupC (K : PySem.W.Frag) (C D : Addr) : Prop where
  ox : OexC K C
  sub : PySem.W.mroIn K C (.ref D) = some true
  ve : PySem.W.subIn K (.ref C) (.type "ValueError") = some true
  ini : PySem.W.ks_superIn K C D "__init__" = some (some (.builtin "ValueError.__init__"))
theorem lookup_rev_zip {x : Str} {u : Value} : ∀ {ps : List Str} {us : List Value} {i : Nat}, ps.Nodup → ps[i]? = some x → us[i]? = some u → (ps.zip us).reverse.lookup x = some u
  | [], _, _, _, h, _ => by simp at h
  | _ :: _, [], _, _, _, h => by simp at h
  | p :: ps, w :: us, 0, nd, h1, h2 => by
    simp at h1 h2
    subst h1; subst h2
    have hn : (ps.zip us).reverse.lookup p = none := by
      rw [List.lookup_eq_none_iff]
      intro q hq
      have := (List.of_mem_zip (List.mem_reverse.mp hq)).1
      simp only [bne_iff_ne, ne_eq, beq_iff_eq]
      intro e
      have e' : p = q.1 := by simpa using e
      exact (List.nodup_cons.mp nd).1 (e' ▸ this)
    rw [List.zip_cons_cons, List.reverse_cons, List.lookup_append, hn]
    simp [List.lookup]
  | p :: ps, w :: us, i + 1, nd, h1, h2 => by
    rw [List.zip_cons_cons, List.reverse_cons, List.lookup_append, lookup_rev_zip (i := i) (List.nodup_cons.mp nd).2 (by simpa using h1) (by simpa using h2)]
    rfl
theorem start_get {N : List Str} {vs : List V} {i : Nat} {v : V} (h : (L2.start N vs)[i]? = some (some v)) : vs[i]? = some v := by
  simp only [L2.start, List.getElem?_append, List.length_map] at h
  split at h
  · simpa using h
  · simp [List.getElem?_replicate] at h
/-- the context of such a def's body -/
def cxSup (P : Program) (w : World) (K : PySem.W.Frag) (mg : Str → Option Value) (base : Heap) (N : List Str) (qual : Str) (scope : Scope) (f cc : Addr) (cd : Value) (A : Around) (outer : List Env) (s : Shared) (H : Hp) : Cx where
  prog := P
  w := w
  K := K
  mg := mg
  base := base
  A := A.deeper (PySem.W.ksEnv qual scope s.heap.objs.size f cd cc)
  N := N
  s_0 := s
  H_0 := H
  env := PySem.W.ksEnv qual scope s.heap.objs.size f cd cc
  outer := outer
  stack := PySem.W.ksEnv qual scope s.heap.objs.size f cd cc :: outer
  ex := []
  calm := false
  fn := fun x => x != "__class__"
  pn := []
  xe := fun _ _ => False
theorem inv_sup {P : Program} {w : World} {K : PySem.W.Frag} {mg : Str → Option Value} {base : Heap} {N ps : List Str} {qual : Str} {scope : Scope} {f cc D : Addr} {cd : Value} {A : Around} {outer : List Env} {s : Shared} {H : Hp} {us : List Value} {vs : List V} {h1 : Heap} {tk : Nat}
    (S : FnScopeS N ps scope) (e0 : Env0 P w K mg base A outer s H) (hl : vs.length = ps.length) (r : Vals vs us) (hc : ∃ cl cld csl, K.lookup cc = some ⟨cl, cld, .cell (some (.ref D)), csl⟩)
    (hn : h1.Ns s.heap.objs.size (fun x => (ps.zip us).reverse.lookup x)) (hk : ∀ b o, s.heap.get? b = some o → h1.get? b = some o) :
    Inv (cxSup P w K mg base N qual scope f cc cd A outer s H) [] (L2.start N vs) H { s with heap := h1, toks := tk } := by
  have hpl : ps.length ≤ N.length := by have := congrArg List.length S.pre; rw [List.length_take] at this; omega
  obtain ⟨cl, cld, csl, hcell⟩ := hc
  have bc := e0.bs _ _ (e0.mod.kin _ _ hcell)
  have noA : ∀ b : Addr, b ∉ (cxSup P w K mg base N qual scope f cc cd A outer s H).ex := fun b z => absurd (show b ∈ ([] : List Addr) from z) (by simp)
  have lk : ∀ y c, (cxSup P w K mg base N qual scope f cc cd A outer s H).env.cells.lookup y = some c → y = "__class__" ∧ c = cc := fun y c h => by
    have h : List.lookup y [(("__class__" : Str), cc)] = some c := h
    by_cases e : y = "__class__"
    · subst e
      simp [List.lookup] at h
      exact ⟨rfl, h.symm⟩
    · have e' : (y == ("__class__" : Str)) = false := by simpa using e
      simp [List.lookup, e'] at h
  refine ⟨⟨e0.mod, S.kind, rfl, rfl, Nat.le_refl _, fun y z c h1 h2 => ?_, fun y hy => ?_, fun y c hf h => ?_, (fun z => Bool.noConfusion (show false = true from z)), Around.frames_deeper e0.frames, .inr ⟨rfl, rfl⟩, fun b z => absurd z (noA b), e0.bs, e0.bsz, fun b _ _ => noA b, fun b z => absurd z (noA b), e0.funs, e0.frf⟩,
    rfl, e0.bare, Un.kept hk, ⟨_, hn, fun i y v h1 h2 h3 => ?_⟩, fun y c h => ?_, e0.hok.fresh (Nat.le_refl _), fun y c h => ?_, fun p hp => absurd (show p ∈ ([] : List (Addr × Obj)) from hp) (by simp), e0.hok.kept hk, ?_⟩
  · rw [(lk _ _ h1).1, (lk _ _ h2).1]
  · have hy : scope.names.lookup y = some .cell ∨ scope.names.lookup y = some .free := hy
    rcases hy with hy | hy
    · exact absurd rfl (S.nocell _ (PySem.mem_of_lookup hy))
    · have e := S.free _ (PySem.mem_of_lookup hy) rfl
      have e : y = "__class__" := e
      subst e
      exact ⟨cc, by show List.lookup _ [(("__class__" : Str), cc)] = _; simp [List.lookup]⟩
  · obtain ⟨rfl, _⟩ := lk _ _ h
    have hf : ((("__class__" : Str) != "__class__") = true) := hf
    simp at hf
  · have ha := start_get h2
    have hi := (List.getElem?_eq_some_iff.mp ha).1
    obtain ⟨u, hu, rv⟩ := r.get ha
    have hp : ps[i]? = some y := by
      rw [← S.pre, List.getElem?_take_of_lt (by omega)]; exact h1
    have ndP : ps.Nodup := by rw [← S.pre]; exact S.nd.sublist (List.take_sublist _ _)
    exact ⟨u, rv, .inl ⟨S.par y (List.mem_of_getElem? hp), lookup_rev_zip ndP hp hu⟩⟩
  · obtain ⟨_, rfl⟩ := lk _ _ h
    exact ⟨_, _, hk _ _ bc.1, rfl⟩
  · obtain ⟨_, rfl⟩ := lk _ _ h
    exact bc.2
  · unfold L2.start
    show _ = N.length
    rw [List.length_append, List.length_map, List.length_replicate]
    omega
section
open PySem.W
variable {prog : Program} {w : World} {A : Around} {E : Value → Shared → Prop} {h : Heap} {g : Array GenState} {d : Drawn} {t : Nat} {os : OsState}
variable {nm q : Str} {C N : Addr} {bs bm : List Value} {hdct : Bool} {sn : List Str} {sub : List Value} {ab : Bool} {col : Option Bool} {dd : Option Addr} {k0 k1 k2 k3 k5 : Option Value}
theorem call_wrapped {u e t0 : Addr} {rest : List Value} {Q : Value → Shared → Prop} (hT : HandSPX.refsVE bm = true)
    (hC : h.get? C = some (excClassObj nm q C N bs bm hdct sn sub ab col dd k0 k1 k2 k3 k5 "ValueError.__new__")) (he : h.get? e = some (HandSPX.excO C t0)) (hu : h.get? u = some (kxs_mw "ValueError.__init__" e)) (hrest : rest.length ≤ sizeLine)
    (hq : ∀ h' t1, (∀ b o, b ≠ e → h.get? b = some o → h'.get? b = some o) → h'.get? e = some (HandSPX.excO C t1) → Q .none ⟨h', g, d, t, os⟩) :
    wpAny (model prog w) A (call (.ref u) rest) Q E ⟨h, g, d, t, os⟩ := by
  refine wpAny_call (codeAny_of_tree ?_)
  show wpAny _ A.in1 (callAny (.ref u) ⟨rest, []⟩) _ _ _
  simp only [callAny]
  refine wpAny_bind (wpAny_load hu ?_)
  simp only [kxs_mw, show (Value.type "method-wrapper" == Value.type "method" || Value.type "method-wrapper" == Value.type "builtin_function_or_method" || Value.type "method-wrapper" == Value.type "method-wrapper") = true by decide, if_true]
  refine KFB.if_so (by decide) ?_
  refine wpAny_bind (ESX.check_bound F.excBase_ValueError hC he rfl ?_)
  refine wpAny_bind (wpAny_pure (wpAny_pure ?_))
  refine ⟨Code.quiet_builtin _ (by decide +kernel), codeAny_builtin F.excBase_ValueError.initEntry ?_⟩
  rw [Around.under_plainId F.excBase_ValueError.init.plain _]
  wp_walk
  refine hq _ h.objs.size (fun b o hb ho => ?_) ?_
  · rw [Heap.get?_update_other _ _ (Ne.symm hb)]
    exact Heap.get?_push_of_some _ ho
  · rw [Heap.get?_update_self _ (Heap.get?_push_of_some _ he) rfl]
    rfl
end
/-- super().__init__(e, ..), then the rest -/
def tSup (K : PySem.W.Frag) (D : Addr) (ta : TA) (tr : TS) : TS := fun Dn σ H => ∃ a C : Addr, σ[0]? = some (some (.ref a)) ∧ SupC K C D ∧ H a = some (exo a C none) ∧
  ta σ H fun ws H1 => ws.length ≤ 1000 ∧ H1 a = some (exo a C none) ∧ tr Dn σ H1
/-- a def that may be called while an exception is handled, too, and lets none out -/
structure FnQ (P : Program) (w : World) (K : PySem.W.Frag) (mg : Str → Option Value) (base : Heap) (k : Nat) (f : Addr) (fd : FuncData) (ps : List Str) (sp : Sp) : Prop where
  len : ∀ vs H Q E, sp vs H Q E → vs.length = ps.length
  run : ∀ (A : Around) (outer : List Env) (s : Shared) (H : Hp) (args : Args) (us : List Value) (vs : List V) (Q : VK) (E : XK), L2H.RoomH k A → Env0 P w K mg base A outer s H → BindsTo s fd args (ps.zip us) → Vals vs us → sp vs H Q E →
    codeAny (model P w) A (.call (.ref f) args) (CR CX0 outer P w H s Q E) s
theorem FnQ.ok {P : Program} {w : World} {K : PySem.W.Frag} {mg : Str → Option Value} {base : Heap} {k : Nat} {f : Addr} {fd : FuncData} {ps : List Str} {sp : Sp} (F : FnQ P w K mg base k f fd ps sp) : FnOk P w K mg base CX0 k f fd ps sp :=
  ⟨F.len, fun A outer s H args us vs Q E hr e0 hb r hq => F.run A outer s H args us vs Q E (L2H.roomH_of hr) e0 hb r hq⟩
theorem fn_sup {P : Program} {w : World} {K : PySem.W.Frag} {mg : Str → Option Value} {base : Heap} {k : Nat} {f cc D : Addr} {name qual x0 : Str} {params : Arguments} {scope : Scope} {dV kV doc pm cdv ct oc : Value} {an od : Option Addr} {osl : Array (Option Value)} {N ps : List Str} {sp : Sp}
    {e : Expr} {es : List Expr} {rest : List Stmt} {p0 p1 p2 p3 p4 : Pos} {ta : TA} {tr : TS} (S : FnScopeS N ps scope)
    (lk : K.lookup f = some ⟨oc, od, .func (PySem.W.ksFn name qual params (.Expr (.Call (.Attribute (.Call (.Name "super" p0) [] [] p1) "__init__" p2) (e :: es) [] p3) p4 :: rest) scope dV kV doc pm an cdv ct cc), osl⟩)
    (sf : SupFn P K mg D cc f cdv (PySem.W.ksFn name qual params (.Expr (.Call (.Attribute (.Call (.Name "super" p0) [] [] p1) "__init__" p2) (e :: es) [] p3) p4 :: rest) scope dV kV doc pm an cdv ct cc) x0)
    (hx0 : ps[0]? = some x0) (hcd : PySem.W.codeIn K cdv qual = true) (len : ∀ vs H Q E, sp vs H Q E → vs.length = ps.length)
    (hswap : ∀ env, swapsWith (.Call (.Attribute (.Call (.Name "super" p0) [] [] p1) "__init__" p2) (e :: es) [] p3) none p4.line env = pure false)
    (hev : ∀ (env : Env), ∃ pl, eval (.Call (.Attribute (.Call (.Name "super" p0) [] [] p1) "__init__" p2) (e :: es) [] p3) env = (do
      let ov ← attributeBase (.Call (.Name "super" p0) [] [] p1) "__init__" env (eval (.Call (.Name "super" p0) [] [] p1) env)
      standAt p2.atName
      let (f, first) ← holding [ov] (getMethod ov "__init__" pl)
      callWith p3 f first (backTo p3 (starEach (e :: es) env)) []))
    (hst : ∀ env, starEach (e :: es) env = (false, eval e env) :: starEach es env) (hpl : ∀ env, (backTo p3 (starEach es env)).any (·.1) = false)
    (hbody : ∀ (A : Around) (outer : List Env) (s : Shared) (H : Hp), L2H.RoomH k (A.deeper (PySem.W.ksEnv qual scope s.heap.objs.size f cdv cc)) →
      PA (cxSup P w K mg base N qual scope f cc cdv A outer s H) (e :: es) ta ∧ PSs (cxSup P w K mg base N qual scope f cc cdv A outer s H) rest tr)
    (hsp : ∀ vs H Q E, sp vs H Q E → tSup K D ta tr { nx := fun _ H' => Q .non H', rt := Q } (L2.start N vs) H) :
    FnQ P w K mg base (k + 1) f (PySem.W.ksFn name qual params (.Expr (.Call (.Attribute (.Call (.Name "super" p0) [] [] p1) "__init__" p2) (e :: es) [] p3) p4 :: rest) scope dV kV doc pm an cdv ct cc) ps sp := by
  refine ⟨len, fun A outer s H args us vs Q E hr e0 hb r hq => ?_⟩
  have hl := len _ _ _ _ hq
  have KX : K.In s.heap := e0.mod.kin.keeps fun b o e => (e0.bs b o e).1
  have lim : s.heap.NoLimit := e0.mod.nolimit.keeps fun b o e => (e0.bs b o e).1
  refine ks_codeAny_call_defAt (fd := PySem.W.ksFn name qual params (.Expr (.Call (.Attribute (.Call (.Name "super" p0) [] [] p1) "__init__" p2) (e :: es) [] p3) p4 :: rest) scope dV kV doc pm an cdv ct cc) (binds := ps.zip us) hr.depth (KX _ _ lk) rfl lim (PySem.W.codeRec_of KX hcd) rfl hb S.nocell
    (fun y hy => S.par _ (List.of_mem_zip hy).1) (fun h₁ hns hk₁ => ?_) S.co S.gen S.kind
  have I : Inv (cxSup P w K mg base N qual scope f cc cdv A outer s H) [] (L2.start N vs) H { s with heap := h₁, toks := s.toks + (ps.zip us).length } := inv_sup S e0 hl r sf.cell hns hk₁
  obtain ⟨pa, pr⟩ := hbody A outer s H (hr.deeper _)
  refine ks_wpAt_mono (Q := SP (cxSup P w K mg base N qual scope f cc cdv A outer s H) [] { nx := fun _ H' => Q .non H', rt := Q }) (E := fun _ _ => False) ?_ (fun fl s' hs => ?_) fun _ _ z => z.elim
  · show PySem.wpAt (model P w) (A.deeper (PySem.W.ksEnv qual scope s.heap.objs.size f cdv cc)) (.func _ (PySem.W.ksEnv qual scope s.heap.objs.size f cdv cc)) (execs _ (PySem.W.ksEnv qual scope s.heap.objs.size f cdv cc)) _ _ _
    obtain ⟨a, C, h0, T, ea, ht⟩ := hsp _ _ _ _ hq
    obtain ⟨nm, q, N', bs, bm, sn, sub, ab, col, dd, k0, k1, k2, k3, k5, hC, hbm⟩ := T.ox.cls
    have hcl : PySem.W.clsIn K C = some { name := nm, bases := bs, mro := .ref C :: bm, ns := N', qualname := q, hasDict := true, slotNames := sn, subclasses := sub, abstract := ab, collection := col, hasDel := false } := by unfold PySem.W.clsIn; rw [hC] <;> rfl
    obtain ⟨t1, ho⟩ := exo_at I.hok ea
    obtain ⟨m, hm, hloc⟩ := I.loc
    have hN0 : N[0]? = some x0 := by
      have := hx0
      rw [← S.pre, List.getElem?_take_of_lt (by rcases ps with _ | ⟨_, _⟩ <;> simp at hx0 ⊢)] at this
      exact this
    have hself : m x0 = some (.ref a) := by
      obtain ⟨u, ru, lu⟩ := hloc 0 x0 _ hN0 h0 (.inl (S.par x0 (List.mem_of_getElem? hx0)))
      cases ru
      rcases lu with lu | ⟨kk, _⟩
      · exact lu.2
      · have kk : scope.names.lookup x0 = some .cell ∨ scope.names.lookup x0 = some .free := kk
        rw [S.par x0 (List.mem_of_getElem? hx0)] at kk
        rcases kk with z | z <;> cases z
    obtain ⟨ar, har, rfl⟩ := sf.hd
    obtain ⟨cda, ccl, cdd, fvs, ccs, file, tf, rfl, hcode, hvs, hfile⟩ := sf.code
    obtain ⟨ccell, cld, csl, hcell⟩ := sf.cell
    obtain ⟨cdD, hcD⟩ := sf.cD
    have X1 : K.In h₁ := I.kIn
    obtain ⟨oD, hD1, hD2⟩ : ∃ oD, h₁.get? D = some oD ∧ oD.data = .cls cdD := by
      unfold PySem.W.clsIn at hcD
      split at hcD
      · rename_i c d cd' sl hoD
        cases hcD
        exact ⟨_, X1 _ _ hoD, rfl⟩
      · cases hcD
    obtain ⟨mb, hmb1, hmb2⟩ := I.mod.blt
    have hsv : mb "super" = some (.type "super") := (hmb2 "super" (by decide)).trans (by first | kernel_rfl | rfl)
    obtain ⟨pl, hpl'⟩ := hev (PySem.W.ksEnv qual scope s.heap.objs.size f (.ref cda) cc)
    refine ks_wpAt_execs_cons (ks_wpAt_Expr_any (ks_wpAt_MethodCall (pl := pl) ?_ hpl') ?hint (hswap _))
    case hint => first | rfl | (unfold interactive; rw [S.kind]; rfl) | (show _ = false; simp [interactive, PySem.W.ksEnv, S.kind])
    refine ks_wpAt_super_base (env := PySem.W.ksEnv qual scope s.heap.objs.size f (.ref cda) cc) S.sup S.cls (by decide) rfl (X1 _ _ lk) rfl har rfl (X1 _ _ hcode) rfl hvs hfile sf.top ?_
    refine PySem.W.ks_loadName_global S.kind S.sup (PySem.Calls.loadGlobal_builtin (env := PySem.W.ksEnv qual scope s.heap.objs.size f (.ref cda) cc) (I.mod.glob.keeps I.bk) sf.sp (hmb1.keeps I.bk) hsv ⟨rfl, ?_⟩)
    refine wpAny_loadName_free S.kind S.cls (by simp [PySem.W.ksEnv, List.lookup]) ⟨_, X1 _ _ hcell, rfl⟩ ?_
    refine wpAny_loadName_local S.kind (S.par _ (List.mem_of_getElem? hx0)) hm hself ?_
    refine ks_wpAny_isType_cls hD1 hD2 ⟨rfl, ?_⟩
    refine ks_wpAny_call_super hD1 hD2 ho rfl (fun c z => by cases z) (PySem.W.looks_mroIn X1 T.sub) (fun h2 e2 k2 => ?_)
    have I2 : Inv (cxSup P w K mg base N qual scope f cc (.ref cda) A outer s H) [] (L2.start N vs) H _ := I.kept (t' := s.toks + (ps.zip us).length) k2
    have X2 : K.In h2 := I2.kIn
    have It : PySem.W.InstAt h2 a _ C none := ⟨k2 _ _ ho, rfl, rfl, trivial⟩
    refine PySem.W.kxs_getMethod PySem.W.kxs_ValueError e2 (PySem.W.looks_opaque X2 sf.tp) (l₀ := .ref C :: bm) (fun A Q E s k q => wpAny_bind ((PySem.W.looks_clsIn X2 hcl) A _ E s k (wpAny_pure q))) rfl X2 (by have := T.ini; unfold PySem.W.ks_superIn at this; rw [hcl] at this; exact this)
      (It.type.andThen (PySem.W.looks_subIn X2 T.ve)) (PySem.W.ks_ne X2 It hcl) (by decide) ?_
    have k3 : ∀ b o, h2.get? b = some o → (h2.push (PySem.W.kxs_mw "ValueError.__init__" a)).get? b = some o := fun b o z => Heap.get?_push_of_some _ z
    have I3 : Inv (cxSup P w K mg base N qual scope f cc (.ref cda) A outer s H) [] (L2.start N vs) H _ := I2.kept (t' := s.toks + (ps.zip us).length + 1) k3
    have nu : h2.objs.size ∉ (cxSup P w K mg base N qual scope f cc (.ref cda) A outer s H).fs := I2.nofs (Nat.le_refl _)
    have I4 : Inv (cxSup P w K mg base N qual scope f cc (.ref cda) A outer s H) [(h2.objs.size, PySem.W.kxs_mw "ValueError.__init__" a)] (L2.start N vs) H _ := I3.pins_of fun p hp => by
      rw [List.mem_singleton.mp hp]
      refine ⟨Heap.get?_push_at rfl rfl, I2.hok.fresh (Nat.le_refl _), fun z => ?_, nu, fun v z => by cases z⟩
      exact absurd I2.lt (by rw [← z]; exact Nat.lt_irrefl _)
    refine PySem.W.kxs_callWith (i := "ValueError.__init__") (x := a) ?_ ?_
    · rw [hst]
      show (false || (backTo p3 (starEach es _)).any (·.1)) = false
      rw [hpl]
      rfl
    rw [hst]
    refine PySem.Calls.evalArgs_plain ?_
    have hrun := pa.run p3 _ _ _ H _ I4 ht
    rw [hst] at hrun
    refine thn hrun fun us2 s2 ⟨ws, H1, I5, r5, hlw, ea1, q5⟩ => ?_
    have hu := (I5.pin (h2.objs.size, PySem.W.kxs_mw "ValueError.__init__" a) (List.mem_append_right _ (List.mem_singleton.mpr rfl))).1
    refine ⟨hu, ?_⟩
    have hlen : us2.length ≤ sizeLine := by
      rw [← Paired.length r5, sizeLine_eq]
      omega
    obtain ⟨t5, ho5⟩ := exo_at I5.hok ea1
    obtain ⟨hp5, g5, d5, tk5, os5⟩ := s2
    refine call_wrapped hbm (I5.kIn _ _ hC) ho5 hu hlen fun h6 t6 k6 hx6 => ?_
    have J := I5.write (t' := tk5) (x := a) (e := a) (o := exo a C none) (by rw [ea1]; exact True.intro) (.inl rfl) k6 ⟨_, hx6⟩ (exo_ok hx6)
    have eu : upd H1 a (exo a C none) = H1 := by
      funext b
      by_cases hb : b = a
      · rw [hb, upd_same, ea1]
      · rw [upd_ne hb]
    rw [eu] at J
    have J0 := J.pins_of (pins' := []) fun p hp => nomatch hp
    exact PySem.wpAt_of_wpAny (pr.run [] _ _ H1 _ J0 q5)
  · have fin : ∀ {σ' : L2.St} {H' : Hp} {v : V} {u : Value}, Inv (cxSup P w K mg base N qual scope f cc cdv A outer s H) [] σ' H' s' → RelV v u → Q v H' → CE outer P w H s Q u s' :=
      fun {σ' H' v u} J rv q => ⟨v, H', J.os, J.bare, J.base, J.hok, rv, q⟩
    cases fl with
    | ret u =>
      obtain ⟨v, σ', H', J, rv, q⟩ := hs
      exact fin J rv q
    | next =>
      obtain ⟨σ', H', J, q⟩ := hs
      exact fin (v := V.non) (u := Value.none) J rfl q
    | brk =>
      obtain ⟨_, _, _, q⟩ := hs
      exact False.elim q
    | cont =>
      obtain ⟨_, _, _, q⟩ := hs
      exact False.elim q
end DL
namespace DL
open PySem PySem.Spec PyProof.Rows L2
def XOk : V → Prop
  | .str s => s.length ≤ 1000
  | .int i => i.natAbs.log2 < 40
  | _ => False
def tPart : Str ⊕ Nat → TE
  | .inl s => tC (.str s)
  | .inr i => tFmt (tVar i)
def tXt (parts : List (Str ⊕ Nat)) : TE := fun σ H Q => tJs (parts.map tPart) Str.empty σ H fun out H1 => Q (.str out) H1
theorem tJs_ok {σ : L2.St} {H : Hp} : ∀ (ps : List (Str ⊕ Nat)) (acc : Str) (Q : Str → Hp → Prop), (∀ p ∈ ps, (∃ s, p = .inl s ∧ s.length ≤ 1000) ∨ ∃ i y, p = .inr i ∧ σ[i]? = some (some y) ∧ XOk y) →
    acc.length + 1000 * ps.length ≤ sizeLine → (∀ out, Q out H) → tJs (ps.map tPart) acc σ H Q
  | [], acc, Q, _, _, q => q acc
  | p :: ps, acc, Q, hp, hl, q => by
    have step : ∀ y : Str, y.length ≤ 1000 → (acc ++ y).length ≤ sizeLine ∧ tJs (ps.map tPart) (acc ++ y) σ H Q := fun y hy => by
      rw [List.length_cons] at hl
      have e := Str.length_append acc y
      exact ⟨by omega, tJs_ok ps (acc ++ y) Q (fun p h => hp p (List.mem_cons_of_mem _ h)) (by omega) q⟩
    rcases hp p List.mem_cons_self with ⟨s, rfl, hs⟩ | ⟨i, y, rfl, hy, ok⟩
    · exact ⟨s, rfl, step s hs⟩
    · refine ⟨y, hy, ?_⟩
      cases y with
      | str s =>
        have ok : s.length ≤ 1000 := ok
        exact .inl ⟨s, rfl, Nat.le_trans ok (by decide), s, rfl, step s ok⟩
      | int i =>
        have ok : i.natAbs.log2 < 40 := ok
        refine .inr ⟨i, rfl, by omega, _, rfl, step _ ?_⟩
        have := int_text_length_le (k := 40) (by decide) ok
        rw [PySem.ofString_length]
        omega
      | _ => exact ok.elim
/-- self.f = p for the parameters from the i-th on -/
def trS (K : PySem.W.Frag) : List Str → Nat → TS
  | [], _ => tNext
  | f :: fs, i => tSeq (tOst K f (tVar 0) (tVar i)) (trS K fs (i + 1))
theorem trS_ok {K : PySem.W.Frag} {C a dx : Addr} {σ : L2.St} (T : OexC K C) (h0 : σ[0]? = some (some (.ref a))) (nd : dx ≠ a) : ∀ (fs : List Str) (i : Nat) (ys : List V) (fs0 : List (Str × V)) (D : Ends) (H : Hp), ys.length = fs.length →
    (∀ f ∈ fs, PySem.W.findIn K (.ref C) f = some none) → (∀ j y, ys[j]? = some y → σ[i + j]? = some (some y)) → H a = some (exo a C (some dx)) → H dx = some (exd dx fs0) → fs0.length + fs.length ≤ 900 →
    (∀ H2, H2 a = some (exo a C (some dx)) → H2 dx = some (exd dx ((fs.zip ys).reverse ++ fs0)) → (∀ b, b ≠ dx → H2 b = H b) → D.nx σ H2) → trS K fs i D σ H
  | [], i, ys, fs0, D, H, hl, hn, hy, ha, hd, hz, q => q H ha (by simpa using hd) fun _ _ => rfl
  | f :: fs, i, [], fs0, D, H, hl, hn, hy, ha, hd, hz, q => by simp at hl
  | f :: fs, i, y :: ys, fs0, D, H, hl, hn, hy, ha, hd, hz, q => by
    refine ⟨y, hy 0 y rfl, .ref a, h0, a, C, rfl, T, hn f List.mem_cons_self, .inr ⟨dx, fs0, ha, hd, by rw [List.length_cons] at hz; omega, ?_⟩⟩
    refine trS_ok T h0 nd fs (i + 1) ys ((f, y) :: fs0) D _ (by simpa using hl) (fun g hg => hn g (List.mem_cons_of_mem _ hg)) (fun j z hz => by
      have := hy (j + 1) z (by simpa using hz)
      rw [show i + 1 + j = i + (j + 1) by omega]
      exact this) (by rw [upd_ne nd.symm]; exact ha) upd_same (by rw [List.length_cons] at hz ⊢; omega) fun H2 h1 h2 h3 => q H2 h1 ?_ fun b hb => ?_
    · rw [h2]
      simp [List.zip_cons_cons, List.reverse_cons, List.append_assoc]
    · rw [h3 b hb, upd_ne hb]
/-- the whole of the stores, from an exception without a dict on -/
theorem trS_all {K : PySem.W.Frag} {C a : Addr} {σ : L2.St} (T : OexC K C) (h0 : σ[0]? = some (some (.ref a))) {fs : List Str} {ys : List V} {D : Ends} {H : Hp} (ne : fs ≠ []) (hl : ys.length = fs.length) (hn : ∀ f ∈ fs, PySem.W.findIn K (.ref C) f = some none)
    (hy : ∀ j y, ys[j]? = some y → σ[1 + j]? = some (some y)) (ha : H a = some (exo a C none)) (hz : fs.length ≤ 800)
    (q : ∀ dx H2, H dx = none → dx ≠ a → H2 a = some (exo a C (some dx)) → H2 dx = some (exd dx (fs.zip ys).reverse) → (∀ b, b ≠ a → b ≠ dx → H2 b = H b) → D.nx σ H2) : trS K fs 1 D σ H := by
  cases fs with
  | nil => exact absurd rfl ne
  | cons f fs =>
    cases ys with
    | nil => simp at hl
    | cons y ys =>
      refine ⟨y, hy 0 y rfl, .ref a, h0, a, C, rfl, T, hn f List.mem_cons_self, .inl ⟨ha, fun dx nx nd => ?_⟩⟩
      refine trS_ok T h0 nd fs 2 ys [(f, y)] D _ (by simpa using hl) (fun g hg => hn g (List.mem_cons_of_mem _ hg)) (fun j z hz => by
        have := hy (j + 1) z (by simpa using hz)
        rw [show 2 + j = 1 + (j + 1) by omega]
        exact this) upd_same (by rw [upd_ne nd]; exact upd_same) (by rw [List.length_cons] at hz; simp; omega) fun H2 h1 h2 h3 => q dx H2 nx nd h1 ?_ fun b hb hd => ?_
      · rw [h2]
        simp [List.zip_cons_cons, List.reverse_cons]
      · rw [h3 b hd, upd_ne hb, upd_ne hd]
/-- what such an __init__ promises -/
def spXI (K : PySem.W.Frag) (D : Addr) (flds : List Str) : Sp := fun vs H Q _ => ∃ (a C : Addr) (ys : List V), vs = .ref a :: ys ∧ ys.length = flds.length ∧ (∀ y ∈ ys, XOk y) ∧ SupC K C D ∧ (∀ f ∈ flds, PySem.W.findIn K (.ref C) f = some none) ∧ H a = some (exo a C none) ∧
  ∀ dx H2, H dx = none → dx ≠ a → H2 a = some (exo a C (some dx)) → H2 dx = some (exd dx (flds.zip ys).reverse) → (∀ b, b ≠ a → b ≠ dx → H2 b = H b) → Q .non H2
/-- its body does -/
theorem spXI_body {K : PySem.W.Frag} {D : Addr} {flds N : List Str} {parts : List (Str ⊕ Nat)} (ne : flds ≠ []) (hz : flds.length ≤ 100) (hp : ∀ p ∈ parts, (∃ s, p = .inl s ∧ s.length ≤ 1000) ∨ ∃ i, p = .inr i ∧ 1 ≤ i ∧ i ≤ flds.length) (hpl : parts.length ≤ 100)
    (vs : List V) (H : Hp) (Q : VK) (E : XK) (h : spXI K D flds vs H Q E) : tSup K D (tCons (tXt parts) tNil) (trS K flds 1) { nx := fun _ H' => Q .non H', rt := Q } (L2.start N vs) H := by
  obtain ⟨a, C, ys, rfl, hl, ok, T, hn, ha, q⟩ := h
  have h0 : (L2.start N (.ref a :: ys))[0]? = some (some (.ref a)) := by simp [L2.start]
  have hy : ∀ j y, ys[j]? = some y → (L2.start N (.ref a :: ys))[1 + j]? = some (some y) := fun j y e => by
    have hj := (List.getElem?_eq_some_iff.mp e).1
    unfold L2.start
    rw [List.getElem?_append_left (by simp; omega), List.getElem?_map, show 1 + j = j + 1 by omega, List.getElem?_cons_succ, e]
    rfl
  refine ⟨a, C, h0, T, ha, tJs_ok parts _ _ (fun p hp' => ?_) ?_ fun out => ⟨by simp, ha, ?_⟩⟩
  · rcases hp p hp' with h | ⟨i, rfl, h1, h2⟩
    · exact .inl h
    · have hi : i - 1 < ys.length := by omega
      refine .inr ⟨i, ys[i - 1], rfl, ?_, ok _ (List.getElem_mem hi)⟩
      have := hy (i - 1) ys[i - 1] (List.getElem?_eq_getElem hi)
      rwa [show 1 + (i - 1) = i by omega] at this
  · have : (Str.empty).length = 0 := rfl
    rw [this, sizeLine_eq]
    omega
  · exact trS_all T.ox h0 ne hl hn hy ha (by omega) fun dx H2 n1 n2 h1 h2 h3 => q dx H2 n1 n2 h1 h2 h3
def vOf : D → V
  | .int i => .int i
  | .str s => .str s
  | _ => .non
def xOk : D → Prop
  | .int i => -1000000000 ≤ i ∧ i ≤ 1000000000
  | .str s => s.length ≤ 1000
  | _ => False
def wRaiseA (EX : Xn → Prop) (n : Str) (flds : List Str) (wa : WA) : WS := fun ρ _ => wa ρ fun ds _ => ds.length = flds.length ∧ (∀ d ∈ ds, xOk d) ∧ EX ⟨n, (flds.zip (ds.map vOf)).reverse⟩
theorem xV {EX : Xn → Prop} {n : Str} {flds : List Str} {wa : WA} {ρ : List Sl} {E : EnD} : wRaiseA EX n flds wa ρ E = wa ρ fun ds _ => ds.length = flds.length ∧ (∀ d ∈ ds, xOk d) ∧ EX ⟨n, (flds.zip (ds.map vOf)).reverse⟩ := rfl
theorem xOk_v {c : Cy} {F : Hp} : ∀ {ds : List D} {vs : List V}, DrL c F vs ds → (∀ d ∈ ds, xOk d) → vs = ds.map vOf ∧ ∀ v ∈ vs, XOk v
  | [], vs, r, _ => by rw [r.nil_iff]; exact ⟨rfl, fun _ h => nomatch h⟩
  | d :: ds, vs, r, h => by
    obtain ⟨v, vr, rfl, q, t⟩ := r.cons_iff
    obtain ⟨e, ok⟩ := xOk_v t fun d hd => h d (List.mem_cons_of_mem _ hd)
    have hd := h d List.mem_cons_self
    have key : v = vOf d ∧ XOk v := by
      cases d with
      | int i =>
        simp only [Dr] at q
        subst q
        have hd : -1000000000 ≤ i ∧ i ≤ 1000000000 := hd
        refine ⟨rfl, ?_⟩
        show i.natAbs.log2 < 40
        have h : i.natAbs < 2 ^ 40 := by
          have e : (2 : Nat) ^ 40 = 1099511627776 := by decide
          omega
        rcases Nat.eq_zero_or_pos i.natAbs with z | z
        · rw [z]; decide
        · exact (Nat.log2_lt (by omega)).mpr h
      | str s => simp only [Dr] at q; subst q; exact ⟨rfl, hd⟩
      | _ => exact hd.elim
    refine ⟨by rw [List.map_cons, ← key.1, e], fun w hw => ?_⟩
    rcases List.mem_cons.mp hw with rfl | hw
    · exact key.2
    · exact ok w hw
end DL
namespace DL
open PySem PySem.Spec PyProof.Rows L2
variable [Lk]
abbrev WX1 := Xn → List Sl → V → Prop
structure DXE (X : Cx) (j : Nat) (e : Expr) (te : Addr → Value → Option Addr → TE) (wv : WX1) : Prop where
  pe : ∀ (a : Addr) (oe : Obj) (cls : Value) (d : Option Addr) (pn : List (Addr × Obj)), Zc cls d oe → (∃ vs, oe.data = .fields vs) → PE (X.suite a ((a, oe) :: pn)) e (te a cls d)
  sn : ∀ (x : Xn) (a : Addr) (cls : Value) (d : Option Addr) {b : Option Addr} {ρ : List Sl} {σ : L2.St} {F M M0 : Hp} (v : V) (Q : VK), Rel (cy X) b ρ σ F M M0 → σ[j]? = some (some (.ref a)) → XnR X.mg (HH F M) x cls d → wv x ρ v → Q v (HH F M) → te a cls d σ (HH F M) Q
structure DXL (X : Cx) (j : Nat) (es : List Expr) (ta : Addr → Value → Option Addr → TA) (wl : Xn → List Sl → List V → Prop) : Prop where
  pe : ∀ (a : Addr) (oe : Obj) (cls : Value) (d : Option Addr) (pn : List (Addr × Obj)), Zc cls d oe → (∃ vs, oe.data = .fields vs) → PA (X.suite a ((a, oe) :: pn)) es (ta a cls d)
  sn : ∀ (x : Xn) (a : Addr) (cls : Value) (d : Option Addr) {b : Option Addr} {ρ : List Sl} {σ : L2.St} {F M M0 : Hp} (vs : List V) (Q : List V → Hp → Prop), Rel (cy X) b ρ σ F M M0 → σ[j]? = some (some (.ref a)) → XnR X.mg (HH F M) x cls d → wl x ρ vs → Q vs (HH F M) → ta a cls d σ (HH F M) Q
section
variable {X : Cx} {j : Nat} {pos p1 p2 p3 : Pos}
def xC (v : V) : WX1 := fun _ _ u => u = v
theorem dxe_c {e : Expr} {v : V} (h : ∀ X' : Cx, PE X' e (tC v)) : DXE X j e (fun _ _ _ => tC v) (xC v) := ⟨fun _ _ _ _ _ _ _ => h _, fun _ _ _ _ {b ρ σ F M M0} v Q R _ _ hw q => by
  have hw : v = _ := hw
  subst hw
  exact q⟩
def xFld (n f : Str) : WX1 := fun x _ v => x.n = n ∧ x.fs.lookup f = some v
theorem dxe_fld {n f nm : Str} {C : Addr} (T : XfC X.K C) (hno : PySem.W.findIn X.K (.ref C) f = some none) (hm : X.mg n = some (.ref C)) (hN : X.N[j]? = some nm) (hv : Vis X.env.scope nm) (hd : (nm == ("__debug__" : Str)) = false := by decide) (hcd : (nm == ("__classdict__" : Str)) = false := by decide)
    (hb : ∀ env, attributeBase (.Name nm p1) f env (eval (.Name nm p1) env) = eval (.Name nm p1) env := by intro _; rfl) :
    DXE X j (.Attribute (.Name nm p1) f pos) (fun a cls d => tXf a cls d C f (tVar j)) (xFld n f) := by
  refine ⟨fun a oe cls d pn hz hf => pe_xf (X := X) T hno hz hf (pe_var (X := X.suite a ((a, oe) :: pn)) hN hv hd hcd) (hb _), fun x a cls d {b ρ σ F M M0} v Q R hj hx hw q => ?_⟩
  obtain ⟨hn, hl⟩ := hw
  obtain ⟨C', h1, rfl, h3⟩ := hx
  rw [hn, hm] at h1
  cases h1
  rcases h3 with ⟨z, _⟩ | ⟨_, dd, rfl, hd⟩
  · rw [z] at hl
    cases hl
  · exact ⟨.ref a, hj, rfl, rfl, dd, x.fs, v, rfl, hd, hl, q⟩
variable {a b : Expr} {rest : List Expr} {ta tb : Addr → Value → Option Addr → TE} {wa wb : WX1}
def xlNil : Xn → List Sl → List V → Prop := fun _ _ vs => vs = []
def xlCons (w : WX1) (wl : Xn → List Sl → List V → Prop) : Xn → List Sl → List V → Prop := fun x ρ vs => ∃ v vr, vs = v :: vr ∧ w x ρ v ∧ wl x ρ vr
theorem dxl_nil : DXL X j [] (fun _ _ _ => tNil) xlNil := ⟨fun _ _ _ _ _ _ _ => pa_nil, fun x a cls d {b ρ σ F M M0} vs Q R hj hx hw q => by
  have hw : vs = [] := hw
  subst hw
  exact q⟩
theorem dxl_cons {es : List Expr} {tl : Addr → Value → Option Addr → TA} {wl : Xn → List Sl → List V → Prop} (ha : DXE X j a ta wa) (hl : DXL X j es tl wl) (hs : ∀ env, starEach (a :: es) env = (false, eval a env) :: starEach es env := by intro _; rfl) :
    DXL X j (a :: es) (fun a cls d => tCons (ta a cls d) (tl a cls d)) (xlCons wa wl) :=
  ⟨fun a oe cls d pn hz hf => pa_cons (ha.pe a oe cls d pn hz hf) (hl.pe a oe cls d pn hz hf) (hs _), fun x a cls d {b ρ σ F M M0} vs Q R hj hx hw q => by
    obtain ⟨v, vr, rfl, h1, h2⟩ := hw
    exact ha.sn x a cls d v _ R hj hx h1 (hl.sn x a cls d vr _ R hj hx h2 q)⟩
structure DXS (X : Cx) (j : Nat) (su : List Stmt) (ts : Addr → Value → Option Addr → TS) (ws : Xn → WS) : Prop where
  ps : ∀ (a : Addr) (oe : Obj) (cls : Value) (d : Option Addr) (pn : List (Addr × Obj)), Zc cls d oe → (∃ vs, oe.data = .fields vs) → PSs (X.suite a ((a, oe) :: pn)) su (ts a cls d)
  sn : ∀ (x : Xn) (a : Addr) (cls : Value) (d : Option Addr) {b : Option Addr} {ρ : List Sl} {σ : L2.St} {F M M0 : Hp}, Rel (cy X) b ρ σ F M M0 → σ[j]? = some (some (.ref a)) → XnR X.mg (HH F M) x cls d → ∀ (E : EnD) (Dn : Ends), ws x ρ E → Fin (cy X) b F M0 E Dn → ts a cls d Dn σ (HH F M)
/-- a flat value's data -/
def dOf : V → Option D
  | .non => some .non
  | .bl b => some (.bl b)
  | .int i => some (.int i)
  | .str s => some (.str s)
  | _ => none
theorem dOf_dr {c : Cy} {F : Hp} {v : V} {d : D} (h : dOf v = some d) : Dr c F v d := by
  cases v <;> simp [dOf] at h <;> subst h <;> simp only [Dr]
def dOfL : List V → Option (List D)
  | [] => some []
  | v :: vs => match dOf v, dOfL vs with
    | some d, some ds => some (d :: ds)
    | _, _ => none
theorem dOfL_dr {c : Cy} {F : Hp} : ∀ {vs : List V} {ds : List D}, dOfL vs = some ds → DrL c F vs ds
  | [], ds, h => by simp [dOfL] at h; subst h; exact .nil
  | v :: vs, ds, h => by
    simp only [dOfL] at h
    split at h
    · rename_i d ds' h1 h2
      cases h
      exact .cons (dOf_dr h1) (dOfL_dr h2)
    · cases h
def wxTup (wl : Xn → List Sl → List V → Prop) : Xn → WS := fun x ρ E => ∃ vs ds, wl x ρ vs ∧ dOfL vs = some ds ∧ vs.length ≤ 1000 ∧ E.rt (.tup ds) ρ
theorem dxs_tup {es : List Expr} {tl : Addr → Value → Option Addr → TA} {wl : Xn → List Sl → List V → Prop} {x1 : Nat} (h : DXL X j es tl wl) : DXS X j [.Return (some (.Tuple es x1 p1)) pos] (fun a cls d => tRet (tTup (tl a cls d))) (wxTup wl) :=
  ⟨fun a oe cls d pn hz hf => pss_one (ps_ret (pe_tup (h.pe a oe cls d pn hz hf))), fun x a cls d {b ρ σ F M M0} R hj hx E Dn hw fin => by
    obtain ⟨vs, ds, h1, h2, hl, q⟩ := hw
    refine h.sn x a cls d vs _ R hj hx h1 ⟨by rw [sizeLine_eq]; omega, fun p hp => ?_⟩
    obtain ⟨hf, hm⟩ := hh_none hp
    rw [hh_updF hm]
    have A := R.grow (Same.updF (o := .tup vs) hf) (R.dj.updF hm)
    exact fin.rt (.tup ds) (.ref p) ρ σ _ M M0 q A.same A.rel A.mr (by simp only [Dr]; exact ⟨p, vs, rfl, upd_same, dOfL_dr h2⟩)⟩
end
/-- behind the suite the slot is empty -/
def endX (j : Nat) (E : EnD) : EnD := { nx := fun ρ => ρ[j]? = some .no ∧ E.nx ρ, bk := fun ρ => ρ[j]? = some .no ∧ E.bk ρ, ct := fun ρ => ρ[j]? = some .no ∧ E.ct ρ, rt := E.rt }
theorem Rel.unset {c : Cy} {b : Option Addr} {ρ : List Sl} {σ : L2.St} {F M M0 : Hp} {j : Nat} {x : Option V} (R : Rel c b ρ σ F M M0) (h : ρ[j]? = some .no) : Rel c b ρ (σ.set j x) F M M0 := by
  have e := R.env.forget (x := x) h (fun z => z)
  have hs : ρ.set j .no = ρ := by
    obtain ⟨hj, he⟩ := List.getElem?_eq_some_iff.mp h
    rw [← he]
    exact List.set_getElem_self hj
  rw [hs] at e
  exact ⟨R.dj, e, R.box, R.lk⟩
def wTryRetAs (ns : List Str) (j : Nat) (ws : Xn → WS) (wf : WFx) (wa : WAs) : WS := fun ρ E => wa ρ fun as ρ1 => (∀ s ∈ as, s ≠ .bx) ∧ ρ1[j]? = some .no ∧ wf as (fun d => E.rt d ρ1) fun x => x.n ∈ ns ∧ ws x ρ1 (endX j E)
theorem xW {ns : List Str} {j : Nat} {ws : Xn → WS} {wf : WFx} {wa : WAs} {ρ : List Sl} {E : EnD} : wTryRetAs ns j ws wf wa ρ E = wa ρ fun as ρ1 => (∀ s ∈ as, s ≠ .bx) ∧ ρ1[j]? = some .no ∧ wf as (fun d => E.rt d ρ1) fun x => x.n ∈ ns ∧ ws x ρ1 (endX j E) := rfl
def wTryDoAs (ns : List Str) (j : Nat) (ws : Xn → WS) (wf : WFx) (wa : WAs) : WS := fun ρ E => wa ρ fun as ρ1 => (∀ s ∈ as, s ≠ .bx) ∧ ρ1[j]? = some .no ∧ wf as (fun d => E.nx ρ1) fun x => x.n ∈ ns ∧ ws x ρ1 (endX j E)
theorem xX {ns : List Str} {j : Nat} {ws : Xn → WS} {wf : WFx} {wa : WAs} {ρ : List Sl} {E : EnD} : wTryDoAs ns j ws wf wa ρ E = wa ρ fun as ρ1 => (∀ s ∈ as, s ≠ .bx) ∧ ρ1[j]? = some .no ∧ wf as (fun d => E.nx ρ1) fun x => x.n ∈ ns ∧ ws x ρ1 (endX j E) := rfl
section
variable {X : Cx} {es : List Expr} {t : TA} {wa : WAs} {wf : WFx} {j : Nat} {su : List Stmt} {b0 : Stmt} {ts : Addr → Value → Option Addr → TS} {ws : Xn → WS}
/-- the suite, from the exception on -/
theorem suite_ok {c : Value} {ns : List Str} {b : Option Addr} {ρ1 : List Sl} {σ : L2.St} {F M M0 F1 M1 M01 H' : Hp} {E : EnD} {Dn : Ends} {x : Xn} {cls : Value} {d : Option Addr} (hm : Takn X.K X.mg c ns) (hs : DXS X j (b0 :: su) ts ws) (A : Aft (cy X) b F M M0 ρ1 σ F1 M1 M01) (hn : x.n ∈ ns) (hj : ρ1[j]? = some .no)
    (hw : ws x ρ1 (endX j E)) (fin : Fin (cy X) b F M0 E Dn) (ex : Ext none (HH F1 M1) H') (xr : XnR X.mg H' x cls d) : wAs X.K c j ts (fun _ _ _ _ => False) Dn cls d σ H' := by
  obtain ⟨C, h1, rfl, h3⟩ := xr
  refine ⟨true, hm _ hn C h1, fun _ a na => ?_, fun z => nomatch z⟩
  obtain ⟨F', rfl, s, R'⟩ := A.rel.ext0 ex
  have hj' : j < σ.length := by
    rw [R'.env.length]
    exact (List.getElem?_eq_some_iff.mp hj).1
  have f := fin.on (A.same.trans s) A.mr
  exact hs.sn x a _ d (R'.unset (x := some (.ref a)) hj) (List.getElem?_set_self hj') ⟨C, h1, rfl, h3⟩ (endX j E) _ hw
    ⟨fun ρ' σ' F2 M2 M02 q s2 R2 m2 => f.nx ρ' _ F2 M2 M02 q.2 s2 (R2.unset q.1) m2, fun ρ' σ' F2 M2 M02 q s2 R2 m2 => f.bk ρ' _ F2 M2 M02 q.2 s2 (R2.unset q.1) m2, fun ρ' σ' F2 M2 M02 q s2 R2 m2 => f.ct ρ' _ F2 M2 M02 q.2 s2 (R2.unset q.1) m2, f.rt⟩
end
end DL
namespace DL
open PySem PySem.Spec PyProof.Rows L2
/-- a def with the cell __class__, as the module's text has written it -/
structure FunS (P : Program) (K : PySem.W.Frag) (mg : Str → Option Value) (D cc : Addr) (x qual : Str) (st : Stmt) (f : Addr) (fd : FuncData) : Prop where
  ex : ∃ (oc : Value) (od : Option Addr) (kV doc pm : Value) (an : Option Addr) (cdv ct : Value) (osl : Array (Option Value)),
    fd = PySem.W.ksFn x qual (defArgs st) (defBody st) (defScope st) .none kV doc pm an cdv ct cc ∧ K.lookup f = some ⟨oc, od, .func fd, osl⟩ ∧ PySem.W.codeIn K cdv qual = true ∧ SupFn P K mg D cc f cdv fd "self"
theorem funS_mk {P : Program} {K : PySem.W.Frag} {mg : Str → Option Value} {D cc cda : Addr} {x qual : Str} {st : Stmt} {f : Addr} {oc ccl cl : Value} {od an cdd cld : Option Addr} {osl ccs csl : Array (Option Value)} {kV doc pm ct : Value} {vs : Array Value} {file : Str} {tf : Tok} {cdD : ClassData}
    (l : K.lookup f = some ⟨oc, od, .func (PySem.W.ksFn x qual (defArgs st) (defBody st) (defScope st) .none kV doc pm an (.ref cda) ct cc), osl⟩) (c : PySem.W.codeIn K (.ref cda) qual = true)
    (hd : ∃ ar, ((defArgs st).posonlyargs ++ (defArgs st).args).head? = some ar ∧ ar.arg = "self") (hcode : K.lookup cda = some ⟨ccl, cdd, .fields vs, ccs⟩) (hvs : vs[2]? = some (.str file tf)) (hfile : ((P.main.file : Str) == file) = true)
    (hcell : K.lookup cc = some ⟨cl, cld, .cell (some (.ref D)), csl⟩) (hD : PySem.W.clsIn K D = some cdD) (hs : mg "super" = none) (ht : PySem.W.nsIn K cStatics "thirdparty.any" = some none) (hto : (P.main.scope.names.lookup ("super" : Str)).isSome = false) :
    FunS P K mg D cc x qual st f (PySem.W.ksFn x qual (defArgs st) (defBody st) (defScope st) .none kV doc pm an (.ref cda) ct cc) :=
  ⟨oc, od, kV, doc, pm, an, _, ct, osl, rfl, l, c, ⟨_, _, _, l⟩, hd, ⟨cda, ccl, cdd, vs, ccs, file, tf, rfl, hcode, hvs, hfile⟩, ⟨cl, cld, csl, hcell⟩, ⟨_, hD⟩, hs, ht, hto⟩
def partsB (ps : List (Str ⊕ Nat)) (n : Nat) : Bool := ps.all fun p => match p with
  | .inl s => decide (s.length ≤ 1000)
  | .inr i => decide (1 ≤ i) && decide (i ≤ n)
theorem partsB_ok {ps : List (Str ⊕ Nat)} {n : Nat} (h : partsB ps n = true) : ∀ p ∈ ps, (∃ s, p = .inl s ∧ s.length ≤ 1000) ∨ ∃ i, p = .inr i ∧ 1 ≤ i ∧ i ≤ n := fun p hp => by
  have := List.all_eq_true.mp h p hp
  cases p with
  | inl s => exact .inl ⟨s, rfl, of_decide_eq_true this⟩
  | inr i =>
    have this : (decide (1 ≤ i) && decide (i ≤ n)) = true := this
    rw [Bool.and_eq_true, decide_eq_true_eq, decide_eq_true_eq] at this
    exact .inr ⟨i, rfl, this.1, this.2⟩
theorem Takn.nil {K : PySem.W.Frag} {mg : Str → Option Value} {c : Value} : Takn K mg c [] := fun _ h => nomatch h
theorem Takn.cons {K : PySem.W.Frag} {mg : Str → Option Value} {c : Value} {n : Str} {C : Addr} {ns : List Str} (h : mg n = some (.ref C)) (e : PySem.W.exmOne K (.ref C) c = some true) (r : Takn K mg c ns) : Takn K mg c (n :: ns) := fun m hm C' h' => by
  rcases List.mem_cons.mp hm with rfl | hm
  · rw [h] at h'
    cases h'
    exact e
  · exact r m hm C' h'
/-- isinstance(e, C) for exceptions of these classes -/
def IsT (K : PySem.W.Frag) (mg : Str → Option Value) (Ct : Addr) (tbl : List (Str × Bool)) : Prop := ∀ nb ∈ tbl, ∀ D, mg nb.1 = some (.ref D) → ExcC K D ∧ PySem.W.kitOne K (.ref D) (.ref Ct) = some nb.2
theorem IsT.nil {K : PySem.W.Frag} {mg : Str → Option Value} {Ct : Addr} : IsT K mg Ct [] := fun _ h => nomatch h
theorem IsT.cons {K : PySem.W.Frag} {mg : Str → Option Value} {Ct D : Addr} {n : Str} {b : Bool} {tbl : List (Str × Bool)} (h : mg n = some (.ref D)) (x : ExcC K D) (e : PySem.W.kitOne K (.ref D) (.ref Ct) = some b) (r : IsT K mg Ct tbl) : IsT K mg Ct ((n, b) :: tbl) := fun nb hm D' h' => by
  rcases List.mem_cons.mp hm with rfl | hm
  · have h' : mg n = some (.ref D') := h'
    rw [h] at h'
    cases h'
    exact ⟨x, e⟩
  · exact r nb hm D' h'
/-- THE RULE for such an __init__ -/
theorem FunS.okQ {P : Program} {w : World} {K : PySem.W.Frag} {mg : Str → Option Value} {base : Heap} {D cc : Addr} {x qual : Str} {st : Stmt} {f : Addr} {fd : FuncData} {N flds : List Str} {e : Expr} {rest : List Stmt} {p0 p1 p2 p3 p4 : Pos} {parts : List (Str ⊕ Nat)} {k : Nat} (F : FunS P K mg D cc x qual st f fd)
    (S : FnScopeS N ("self" :: flds) (defScope st)) (hbd : defBody st = .Expr (.Call (.Attribute (.Call (.Name "super" p0) [] [] p1) "__init__" p2) [e] [] p3) p4 :: rest)
    (hswap : ∀ env, swapsWith (.Call (.Attribute (.Call (.Name "super" p0) [] [] p1) "__init__" p2) [e] [] p3) none p4.line env = pure false)
    (hev : ∀ (env : Env), ∃ pl, eval (.Call (.Attribute (.Call (.Name "super" p0) [] [] p1) "__init__" p2) [e] [] p3) env = (do
      let ov ← attributeBase (.Call (.Name "super" p0) [] [] p1) "__init__" env (eval (.Call (.Name "super" p0) [] [] p1) env)
      standAt p2.atName
      let (f, first) ← holding [ov] (getMethod ov "__init__" pl)
      callWith p3 f first (backTo p3 (starEach [e] env)) []))
    (hst : ∀ env, starEach [e] env = [(false, eval e env)]) (ne : flds ≠ []) (hz : flds.length ≤ 100) (hp : partsB parts flds.length = true) (hpl : parts.length ≤ 100)
    (hbody : ∀ (cdv : Value) (A : Around) (outer : List Env) (s : Shared) (H : Hp),
      PE (cxSup P w K mg base N qual (defScope st) f cc cdv A outer s H) e (tXt parts) ∧ PSs (cxSup P w K mg base N qual (defScope st) f cc cdv A outer s H) rest (trS K flds 1)) :
    FnQ P w K mg base (k + 1) f fd ("self" :: flds) (spXI K D flds) := by
  obtain ⟨oc, od, kV, doc, pm, an, cdv, ct, osl, rfl, lk, hcd, sf⟩ := F.ex
  rw [hbd] at lk sf ⊢
  have hst' : ∀ env, starEach [e] env = (false, eval e env) :: starEach [] env := fun env => by rw [hst]; rfl
  refine fn_sup (k := k) (ta := tCons (tXt parts) tNil) (tr := trS K flds 1) S lk sf rfl hcd (fun vs H Q E h => ?_) hswap hev hst' (fun env => rfl) (fun A outer s H _ => ?_) (spXI_body ne hz (partsB_ok hp) hpl)
  · obtain ⟨a, C, ys, rfl, hl, _⟩ := h
    rw [List.length_cons, List.length_cons, hl]
  · obtain ⟨h1, h2⟩ := hbody cdv A outer s H
    exact ⟨pa_cons h1 pa_nil (hst' _), h2⟩
end DL
namespace DL
open PySem PySem.Spec PyProof.Rows L2
/-- a def's table of code objects, whatever it holds -/
def tbx (P : Addr) : HO := .ext fun h => ∃ ps : Array Value, h.get? P = some { cls := .none, data := .fields ps } ∧ TriplesOk ps.toList
end DL
namespace DL
open PySem PySem.Spec PyProof.Rows L2
/-- the tables of code objects tb are tracked -/
def TbF (tb : List Addr) (F : Hp) : Prop := ∀ T ∈ tb, F T = some (tbx T)
theorem TbF.up {tb : List Addr} {F G : Hp} (h : TbF tb F) (s : Same F G) : TbF tb G := fun T hT => s _ _ (h T hT)
def wGxL (u : Bool) (vs : List Nat) (wg : WG) (we : WE) : List D → List Sl → (D → List Sl → Prop) → Prop
  | [], ρ, Q => noOwnB ρ vs = true ∧ Q (.bl u) (wipeD ρ vs.reverse)
  | d :: ds, ρ, Q => wg d ρ fun ρ1 => we ρ1 fun y ρ2 => noOwnB ρ2 vs = true ∧ ∃ b, y = .bl b ∧ (b = u → wGxL u vs wg we ds (wipeD ρ2 vs) Q) ∧ (b = !u → Q (.bl (!u)) (wipeD (wipeD ρ2 vs) vs.reverse))
def wGx (u : Bool) (vs : List Nat) (wi : WA) (wg : WG) (we : WE) : WE := fun ρ Q => wi ρ fun ds ρ1 => noOwnB ρ1 vs = true ∧ wGxL u vs wg we ds (wipeD ρ1 vs) Q
theorem xu {u : Bool} {vs : List Nat} {wi : WA} {wg : WG} {we : WE} {ρ : List Sl} {Q : D → List Sl → Prop} : wGx u vs wi wg we ρ Q = wi ρ fun ds ρ1 => noOwnB ρ1 vs = true ∧ wGxL u vs wg we ds (wipeD ρ1 vs) Q := rfl
end DL
namespace DL
open PySem PySem.Spec PyProof.Rows L2
variable [Lk]
abbrev WPs := List Sl → (List D → List D → List Sl → Prop) → Prop
def psNil : WPs := fun ρ Q => Q [] [] ρ
def psCons (wk wv : WE) (w : WPs) : WPs := fun ρ Q => wk ρ fun k ρ1 => wv ρ1 fun d ρ2 => w ρ2 fun ks ds ρ3 => Q (k :: ks) (d :: ds) ρ3
theorem xz {ρ : List Sl} {Q : List D → List D → List Sl → Prop} : psNil ρ Q = Q [] [] ρ := rfl
theorem x5 {wk wv : WE} {w : WPs} {ρ : List Sl} {Q : List D → List D → List Sl → Prop} : psCons wk wv w ρ Q = wk ρ fun k ρ1 => wv ρ1 fun d ρ2 => w ρ2 fun ks ds ρ3 => Q (k :: ks) (d :: ds) ρ3 := rfl
section
variable {X : Cx} {e e2 : Expr} {te t2 : TE} {w w2 : WE} {pos : Pos} {keys : List (Option Expr)} {values : List Expr} {trs : List (TE × TE)} {wp : WPs}
def wfDispN (w : WPs) : List Sl → (Sl → List Sl → Prop) → Prop := fun ρ Q => w ρ fun kd ds ρ1 => ∃ ks, keysD kd = some ks ∧ ks.Nodup ∧ ks.length ≤ 15 ∧ Q (.ok ks ds) ρ1
theorem xy {w : WPs} {ρ : List Sl} {Q : Sl → List Sl → Prop} : wfDispN w ρ Q = w ρ fun kd ds ρ1 => ∃ ks, keysD kd = some ks ∧ ks.Nodup ∧ ks.length ≤ 15 ∧ Q (.ok ks ds) ρ1 := rfl
end
end DL
namespace DL
open PySem PySem.Spec PyProof.Rows L2
variable [Lk]
def wIndexL (wa wb : WE) : WE := fun ρ Q => wa ρ fun d1 ρ1 => (∃ ds, d1 = .lst ds) ∧ wb ρ1 fun d2 ρ2 => ∃ (ds : List D) (j : Nat) (z : D), d1 = .lst ds ∧ (shD d1 ∧ shD d2) ∧ ds[j]? = some z ∧ eqD z d2 = true ∧ (∀ m z', m < j → ds[m]? = some z' → eqD z' d2 = false) ∧ Q (.int (j : Nat)) ρ2
theorem xw {wa wb : WE} {ρ : List Sl} {Q : D → List Sl → Prop} : wIndexL wa wb ρ Q = wa ρ fun d1 ρ1 => (∃ ds, d1 = .lst ds) ∧ wb ρ1 fun d2 ρ2 => ∃ (ds : List D) (j : Nat) (z : D), d1 = .lst ds ∧ (shD d1 ∧ shD d2) ∧ ds[j]? = some z ∧ eqD z d2 = true ∧ (∀ m z', m < j → ds[m]? = some z' → eqD z' d2 = false) ∧ Q (.int (j : Nat)) ρ2 := rfl
end DL
namespace PySem.W
open PySem PySem.Spec PyProof.Rows
end PySem.W
namespace DL
open PySem PySem.Spec PyProof.Rows L2
variable [Lk]
def xt : D → (D → Prop) → Prop
  | .dk _ ds, Q => Q (.tup ds)
  | _, _ => False
def lnT : Sl → OT
  | .ol ds => .lst (ds.map .sh)
  | .ok ks ds => .dk ks (ds.map .sh)
  | .ot ks ds => .dt ks (ds.map .sh)
  | _ => .sh .non
def isLn : Sl → Prop
  | .ol _ => True
  | .ok _ _ => True
  | .ot _ _ => True
  | _ => False
section
variable {X : Cx} {e e2 ev : Expr} {te t2 tv : TE} {w w2 wv : WE} {pos : Pos}
/-- name.append(e), name lent -/
def wAppO (i : Nat) (w : WE) : WS := fun ρ E => (∃ x ds, ρ[i]? = some (.od x (lnT (.ol ds)))) ∧ w ρ fun d ρ1 => ∃ x ds, ρ1[i]? = some (.od x (lnT (.ol ds))) ∧ ds.length < sizeLine ∧ E.nx (ρ1.set i (.od x (lnT (.ol (ds ++ [d])))))
/-- name[key] = e, name lent, tuple keys -/
def wPutO (i : Nat) (wk wv : WE) : WS := fun ρ E => wv ρ fun d ρ1 => (∃ x ks ds, ρ1[i]? = some (.od x (lnT (.ot ks ds)))) ∧ wk ρ1 fun dk ρ2 => ∃ x ks ds kd k, ρ2[i]? = some (.od x (lnT (.ot ks ds))) ∧ dk = .tup kd ∧ keysD kd = some k ∧ ks.length < sizeLine ∧
  E.nx (ρ2.set i (.od x (lnT (.ot (putA ks ds k d).1 (putA ks ds k d).2))))
end
end DL
namespace DL
open PySem PySem.Spec PyProof.Rows L2
variable [Lk]
def wCallO (i j : Nat) (wf : WFo) (wa : WAs) : WE := fun ρ Q => (∃ s1 s2, ρ[i]? = some s1 ∧ ρ[j]? = some s2 ∧ isLn s1 ∧ isLn s2) ∧ i ≠ j ∧ wa ρ fun as ρ1 => ∃ s1 s2, ρ1[i]? = some s1 ∧ ρ1[j]? = some s2 ∧ isLn s1 ∧ isLn s2 ∧
  ∀ x y, wf (.od x (lnT s1) :: .od y (lnT s2) :: as) fun r as' => ∃ t1 t2, isLn t1 ∧ isLn t2 ∧ as' = .od x (lnT t1) :: .od y (lnT t2) :: as ∧ Q r ((ρ1.set i t1).set j t2)
def wDcX (vs : List Nat) (wi : WA) (wg : WG) (wt : WT) (wk wv : WE) : WE := fun ρ Q => wDc vs wi wg wt wk wv ρ fun sl ρ' => Q (obD sl) ρ'
end DL
namespace DL
open PySem PySem.Spec PyProof.Rows L2
section
variable [Lk]
/-- a call that lacks the last argument: its default is () -/
def wCallE (wf : WFn) (wa : WAs) : WE := fun ρ Q => wa ρ fun as ρ1 => wf (as ++ [.sh .emt]) fun d => Q d ρ1
end
end DL
namespace PySem.SeqAt
open AutoSeq1 (wpAny_loadPart')
open MeetsSeq MeetsSeq2 MeetsSeq3 SeqRoads2
end PySem.SeqAt
namespace DL
open PySem PySem.Spec PyProof.Rows L2
section
variable {X : Cx}
def kiD (ks : List Key) (is : List Int) : D := .dk ks (is.map D.int)
end
end DL
namespace PySem.W
open PySem PySem.Spec PyProof.Rows
end PySem.W
namespace DL
open PySem PySem.Spec PyProof.Rows L2
variable [Lk]
section
variable {X : Cx} {e : Expr} {te : TE} {pos : Pos} {wf : List Sl → (Sl → List Sl → Prop) → Prop}
def wRetF (wf : List Sl → (Sl → List Sl → Prop) → Prop) : WSl := fun ρ Qd => wf ρ fun sl _ => Qd sl
theorem xi {ρ : List Sl} {Qd : Sl → Prop} : wRetF wf ρ Qd = wf ρ fun sl _ => Qd sl := rfl
end
theorem xj {i : Nat} {w : WE} {ρ : List Sl} {E : EnD} : wAppO i w ρ E = ((∃ x ds, ρ[i]? = some (.od x (lnT (.ol ds)))) ∧ w ρ fun d ρ1 => ∃ x ds, ρ1[i]? = some (.od x (lnT (.ol ds))) ∧ ds.length < sizeLine ∧ E.nx (ρ1.set i (.od x (lnT (.ol (ds ++ [d])))))) := rfl
theorem xk {i : Nat} {wk wv : WE} {ρ : List Sl} {E : EnD} : wPutO i wk wv ρ E = wv ρ fun d ρ1 => (∃ x ks ds, ρ1[i]? = some (.od x (lnT (.ot ks ds)))) ∧ wk ρ1 fun dk ρ2 => ∃ x ks ds kd k, ρ2[i]? = some (.od x (lnT (.ot ks ds))) ∧ dk = .tup kd ∧ keysD kd = some k ∧ ks.length < sizeLine ∧
  E.nx (ρ2.set i (.od x (lnT (.ot (putA ks ds k d).1 (putA ks ds k d).2)))) := rfl
theorem xl {i j : Nat} {wf : WFo} {wa : WAs} {ρ : List Sl} {Q : D → List Sl → Prop} : wCallO i j wf wa ρ Q = ((∃ s1 s2, ρ[i]? = some s1 ∧ ρ[j]? = some s2 ∧ isLn s1 ∧ isLn s2) ∧ i ≠ j ∧ wa ρ fun as ρ1 => ∃ s1 s2, ρ1[i]? = some s1 ∧ ρ1[j]? = some s2 ∧ isLn s1 ∧ isLn s2 ∧
  ∀ x y, wf (.od x (lnT s1) :: .od y (lnT s2) :: as) fun r as' => ∃ t1 t2, isLn t1 ∧ isLn t2 ∧ as' = .od x (lnT t1) :: .od y (lnT t2) :: as ∧ Q r ((ρ1.set i t1).set j t2)) := rfl
theorem xm {vs : List Nat} {wi : WA} {wg : WG} {wt : WT} {wk wv : WE} {ρ : List Sl} {Q : D → List Sl → Prop} : wDcX vs wi wg wt wk wv ρ Q = wDc vs wi wg wt wk wv ρ fun sl ρ' => Q (obD sl) ρ' := rfl
theorem xq {wf : WFn} {wa : WAs} {ρ : List Sl} {Q : D → List Sl → Prop} : wCallE wf wa ρ Q = wa ρ fun as ρ1 => wf (as ++ [.sh .emt]) fun d => Q d ρ1 := rfl
end DL
namespace L2
open PySem PySem.Spec PyProof.Rows
end L2
namespace DL
open PySem PySem.Spec PyProof.Rows L2
def enumD : Nat → List D → List D
  | _, [] => []
  | n, d :: ds => .tup [.int (n : Nat), d] :: enumD (n + 1) ds
def wEnum (wt : WA) : WA := fun ρ Q => wt ρ fun ds ρ1 => match ds with
  | [.lst a] => Q (enumD 0 a) ρ1
  | _ => False
theorem zX {wt : WA} {ρ : List Sl} {Q : List D → List Sl → Prop} : wEnum wt ρ Q = wt ρ fun ds ρ1 => match ds with
  | [.lst a] => Q (enumD 0 a) ρ1
  | _ => False := rfl
section
variable [Lk]
def wDcTL (vs : List Nat) (wg : WG) (wt : WT) (wk wv : WE) : List D → List Sl → List (List Key) → List D → (List (List Key) → List D → List Sl → Prop) → Prop
  | [], ρ, ks, acc, Q => Q ks acc ρ
  | d :: ds, ρ, ks, acc, Q => wg d ρ fun ρ1 => wt ρ1 fun k ρ2 => match k with
    | true => wk ρ2 fun dk ρ3 => wv ρ3 fun y ρ4 => ∃ key kds, dk = .tup kds ∧ keysD kds = some key ∧ noOwnB ρ4 vs = true ∧ wDcTL vs wg wt wk wv ds (wipeD ρ4 vs) (putA ks acc key y).1 (putA ks acc key y).2 Q
    | false => noOwnB ρ2 vs = true ∧ wDcTL vs wg wt wk wv ds (wipeD ρ2 vs) ks acc Q
def wDcT (vs : List Nat) (wi : WA) (wg : WG) (wt : WT) (wk wv : WE) : List Sl → (Sl → List Sl → Prop) → Prop := fun ρ Q => wi ρ fun ds ρ1 => ds.length ≤ sizeLine ∧ noOwnB ρ1 vs = true ∧
  wDcTL vs wg wt wk wv ds (wipeD ρ1 vs) [] [] fun ks acc ρ2 => noOwnB ρ2 vs = true ∧ Q (.ot ks acc) (wipeD ρ2 vs.reverse)
theorem zY {vs : List Nat} {wi : WA} {wg : WG} {wt : WT} {wk wv : WE} {ρ : List Sl} {Q : Sl → List Sl → Prop} : wDcT vs wi wg wt wk wv ρ Q = wi ρ fun ds ρ1 => ds.length ≤ sizeLine ∧ noOwnB ρ1 vs = true ∧
  wDcTL vs wg wt wk wv ds (wipeD ρ1 vs) [] [] fun ks acc ρ2 => noOwnB ρ2 vs = true ∧ Q (.ot ks acc) (wipeD ρ2 vs.reverse) := rfl
end
end DL
namespace DL
open PySem PySem.Spec PyProof.Rows L2
variable [Lk]
section
variable {X : Cx} {e ev : Expr} {te tv : TE} {w wv : WE} {pos : Pos}
def wRev (i : Nat) : WS := fun ρ E => ∃ ds, ρ[i]? = some (.ol ds) ∧ E.nx (ρ.set i (.ol ds.reverse))
theorem zZ {i : Nat} {ρ : List Sl} {E : EnD} : wRev i ρ E = ∃ ds, ρ[i]? = some (.ol ds) ∧ E.nx (ρ.set i (.ol ds.reverse)) := rfl
def wLSetO (i : Nat) (w1 wv : WE) : WS := fun ρ E => wv ρ fun d ρ1 => (∃ x ds, ρ1[i]? = some (.od x (lnT (.ol ds)))) ∧ w1 ρ1 fun d1 ρ2 => ∃ x ds k, ρ2[i]? = some (.od x (lnT (.ol ds))) ∧ d1 = .int k ∧ 0 ≤ k ∧ k < ds.length ∧ E.nx (ρ2.set i (.od x (lnT (.ol (ds.set k.toNat d)))))
theorem xf {i : Nat} {w1 wv : WE} {ρ : List Sl} {E : EnD} : wLSetO i w1 wv ρ E = wv ρ fun d ρ1 => (∃ x ds, ρ1[i]? = some (.od x (lnT (.ol ds)))) ∧ w1 ρ1 fun d1 ρ2 => ∃ x ds k, ρ2[i]? = some (.od x (lnT (.ol ds))) ∧ d1 = .int k ∧ 0 ≤ k ∧ k < ds.length ∧ E.nx (ρ2.set i (.od x (lnT (.ol (ds.set k.toNat d))))) := rfl
end
def wDead : WS := fun _ _ => False
theorem xg {ρ : List Sl} {E : EnD} : wDead ρ E = False := rfl
def wCallO1 (i : Nat) (wf : WFo) (wa : WAs) : WE := fun ρ Q => (∃ s1, ρ[i]? = some s1 ∧ isLn s1) ∧ wa ρ fun as ρ1 => ∃ s1, ρ1[i]? = some s1 ∧ isLn s1 ∧
  ∀ x, wf (.od x (lnT s1) :: as) fun r as' => ∃ t1, isLn t1 ∧ as' = .od x (lnT t1) :: as ∧ Q r (ρ1.set i t1)
theorem xh {i : Nat} {wf : WFo} {wa : WAs} {ρ : List Sl} {Q : D → List Sl → Prop} : wCallO1 i wf wa ρ Q = ((∃ s1, ρ[i]? = some s1 ∧ isLn s1) ∧ wa ρ fun as ρ1 => ∃ s1, ρ1[i]? = some s1 ∧ isLn s1 ∧
  ∀ x, wf (.od x (lnT s1) :: as) fun r as' => ∃ t1, isLn t1 ∧ as' = .od x (lnT t1) :: as ∧ Q r (ρ1.set i t1)) := rfl
end DL
namespace L2
open PySem PySem.Spec PyProof.Rows
end L2
namespace DL
open PySem PySem.Spec PyProof.Rows L2
variable [Lk]
section
variable {X : Cx}
def wAppRow (i j : Nat) : WS := fun ρ E => ∃ (rows : List RowD) (ks : List Key) (ds : List D), ((∃ x, ρ[i]? = some (.od x (rowsT rows))) ∨ (rows = [] ∧ ρ[i]? = some (.ol []))) ∧ ρ[j]? = some (.ok ks ds) ∧ i ≠ j ∧ rows.length < sizeLine ∧
  ∀ x, E.nx ((ρ.set j .no).set i (.od x (rowsT (rows ++ [(ks, ds)]))))
theorem zR {i j : Nat} {ρ : List Sl} {E : EnD} : wAppRow i j ρ E = ∃ (rows : List RowD) (ks : List Key) (ds : List D), ((∃ x, ρ[i]? = some (.od x (rowsT rows))) ∨ (rows = [] ∧ ρ[i]? = some (.ol []))) ∧ ρ[j]? = some (.ok ks ds) ∧ i ≠ j ∧ rows.length < sizeLine ∧
  ∀ x, E.nx ((ρ.set j .no).set i (.od x (rowsT (rows ++ [(ks, ds)])))) := rfl
theorem OTRL.len {c : Cy} {F : Hp} : ∀ {ts : List OT} {vs : List V} {M : Hp}, OTRL c F ts vs M → vs.length = ts.length
  | [], vs, M, h => by simp only [OTRL] at h; rw [h.1]; rfl
  | t :: ts, vs, M, h => by
    simp only [OTRL] at h
    obtain ⟨v, vr, M1, M2, rfl, _, r, _, _⟩ := h
    rw [List.length_cons, List.length_cons, OTRL.len r]
def wCopyO (i j : Nat) : WE := fun ρ Q => ∃ x rows, ρ[i]? = some (.od x (rowsT rows)) ∧ rows.length ≤ sizeLine ∧ j < ρ.length ∧ Q (.lst (rows.map rowD)) ρ
theorem zS {i j : Nat} {ρ : List Sl} {Q : D → List Sl → Prop} : wCopyO i j ρ Q = ∃ x rows, ρ[i]? = some (.od x (rowsT rows)) ∧ rows.length ≤ sizeLine ∧ j < ρ.length ∧ Q (.lst (rows.map rowD)) ρ := rfl
end
end DL
namespace DL
open PySem PySem.Spec PyProof.Rows L2
variable [Lk]
def dropA : List Key → List D → Key → List Key × List D
  | k :: ks, d :: ds, x => if k = x then dropA ks ds x else (k :: (dropA ks ds x).1, d :: (dropA ks ds x).2)
  | _, _, _ => ([], [])
section
variable {X : Cx}
def wPopKey (i : Nat) (w1 wk : WE) : WS := fun ρ E => (∃ x t, ρ[i]? = some (.od x t)) ∧ w1 ρ fun d1 ρ1 => (∃ x rows k r, ρ1[i]? = some (.od x (rowsT rows)) ∧ d1 = .int k ∧ 0 ≤ k ∧ rows[k.toNat]? = some r) ∧
  wk ρ1 fun dk ρ2 => ∃ x rows k r key, ρ1[i]? = some (.od x (rowsT rows)) ∧ ρ2[i]? = some (.od x (rowsT rows)) ∧ d1 = .int k ∧ 0 ≤ k ∧ rows[k.toNat]? = some r ∧ keyD dk = some key ∧ key ∈ r.1 ∧ E.nx (ρ2.set i (.od x (rowsT (rows.set k.toNat (dropA r.1 r.2 key)))))
theorem zT {i : Nat} {w1 wk : WE} {ρ : List Sl} {E : EnD} : wPopKey i w1 wk ρ E = ((∃ x t, ρ[i]? = some (.od x t)) ∧ w1 ρ fun d1 ρ1 => (∃ x rows k r, ρ1[i]? = some (.od x (rowsT rows)) ∧ d1 = .int k ∧ 0 ≤ k ∧ rows[k.toNat]? = some r) ∧
  wk ρ1 fun dk ρ2 => ∃ x rows k r key, ρ1[i]? = some (.od x (rowsT rows)) ∧ ρ2[i]? = some (.od x (rowsT rows)) ∧ d1 = .int k ∧ 0 ≤ k ∧ rows[k.toNat]? = some r ∧ keyD dk = some key ∧ key ∈ r.1 ∧ E.nx (ρ2.set i (.od x (rowsT (rows.set k.toNat (dropA r.1 r.2 key)))))) := rfl
variable {e e2 : Expr} {te t2 : TE} {w w2 : WE}
theorem OTRL.drop {c : Cy} {F : Hp} : ∀ {ts : List OT} {vs : List V} {M : Hp} {k : Nat} {t : OT}, OTRL c F ts vs M → ts[k]? = some t → ∃ v Mk Mr, vs[k]? = some v ∧ OTR c F t v Mk ∧ Dj Mr Mk ∧ M = HH Mr Mk ∧ OTRL c F (ts.eraseIdx k) (vs.eraseIdx k) Mr
  | [], vs, M, k, t, h, e => by simp at e
  | t0 :: ts, vs, M, 0, t, h, e => by
    simp only [OTRL] at h
    obtain ⟨v, vr, M1, M2, rfl, r1, r2, d, rfl⟩ := h
    simp at e; subst e
    exact ⟨v, M1, M2, rfl, r1, d, rfl, by simpa using r2⟩
  | t0 :: ts, vs, M, k + 1, t, h, e => by
    simp only [OTRL] at h
    obtain ⟨v, vr, M1, M2, rfl, r1, r2, d, rfl⟩ := h
    obtain ⟨u, Mk, Mr, h1, h2, h3, rfl, h5⟩ := OTRL.drop (k := k) r2 (by simpa using e)
    refine ⟨u, Mk, HH Mr M1, by simpa using h1, h2, dj_hh h3 (dj_sym (dj_r d)), hh_swap (dj_r d), ?_⟩
    simp only [List.eraseIdx_cons_succ, OTRL]
    exact ⟨v, vr.eraseIdx k, M1, Mr, rfl, r1, h5, dj_l d, rfl⟩
def wPopRow (i : Nat) (w1 : WE) : WS := fun ρ E => (∃ x rows, ρ[i]? = some (.od x (rowsT rows))) ∧ w1 ρ fun d1 ρ1 => ∃ x rows k, ρ1[i]? = some (.od x (rowsT rows)) ∧ d1 = .int k ∧ 0 ≤ k ∧ k < rows.length ∧ rows.length ≤ 1000 ∧ E.nx (ρ1.set i (.od x (rowsT (rows.eraseIdx k.toNat))))
theorem zU {i : Nat} {w1 : WE} {ρ : List Sl} {E : EnD} : wPopRow i w1 ρ E = ((∃ x rows, ρ[i]? = some (.od x (rowsT rows))) ∧ w1 ρ fun d1 ρ1 => ∃ x rows k, ρ1[i]? = some (.od x (rowsT rows)) ∧ d1 = .int k ∧ 0 ≤ k ∧ k < rows.length ∧ rows.length ≤ 1000 ∧ E.nx (ρ1.set i (.od x (rowsT (rows.eraseIdx k.toNat))))) := rfl
def wNeRows (i : Nat) (w : WE) : WE := fun ρ Q => w ρ fun d ρ1 => ∃ (x : V) (ks : List Key) (iss : List (List Int)), d = .lst (iss.map (kiD ks)) ∧ ρ1[i]? = some (.od x (rowsT (iss.map fun is => (ks, is.map D.int)))) ∧ ks.Nodup ∧ Q (.bl false) ρ1
theorem zV {i : Nat} {w : WE} {ρ : List Sl} {Q : D → List Sl → Prop} : wNeRows i w ρ Q = w ρ fun d ρ1 => ∃ (x : V) (ks : List Key) (iss : List (List Int)), d = .lst (iss.map (kiD ks)) ∧ ρ1[i]? = some (.od x (rowsT (iss.map fun is => (ks, is.map D.int)))) ∧ ks.Nodup ∧ Q (.bl false) ρ1 := rfl
end
end DL
namespace DL
open PySem PySem.Spec PyProof.Rows L2
variable [Lk]
def wMakeO (n : Str) (i j l : Nat) (wf : WFo) (we : WE) : WE := fun ρ Q => (i ≠ j ∧ i ≠ l ∧ j ≠ l) ∧ we ρ fun d ρ1 => ∃ (x1 x2 : V) (t1 t2 : OT) (ds : List D), ρ1[i]? = some (.od x1 t1) ∧ ρ1[j]? = some (.od x2 t2) ∧ ρ1[l]? = some (.ol ds) ∧
  ∀ x x3, wf [.od x (.ins n [] []), .sh d, .od x1 t1, .od x2 t2, .od x3 (lnT (.ol ds))] fun r as' => ∃ t, as' = [.od x t, .sh d, .od x1 t1, .od x2 t2, .od x3 (lnT (.ol ds))] ∧ r = .non ∧ Q (otD t) ρ1
theorem zW {n : Str} {i j l : Nat} {wf : WFo} {we : WE} {ρ : List Sl} {Q : D → List Sl → Prop} : wMakeO n i j l wf we ρ Q = ((i ≠ j ∧ i ≠ l ∧ j ≠ l) ∧ we ρ fun d ρ1 => ∃ (x1 x2 : V) (t1 t2 : OT) (ds : List D), ρ1[i]? = some (.od x1 t1) ∧ ρ1[j]? = some (.od x2 t2) ∧ ρ1[l]? = some (.ol ds) ∧
  ∀ x x3, wf [.od x (.ins n [] []), .sh d, .od x1 t1, .od x2 t2, .od x3 (lnT (.ol ds))] fun r as' => ∃ t, as' = [.od x t, .sh d, .od x1 t1, .od x2 t2, .od x3 (lnT (.ol ds))] ∧ r = .non ∧ Q (otD t) ρ1) := rfl
end DL
namespace L2
open PySem PySem.Spec PyProof.Rows
end L2
namespace DL
open PySem PySem.Spec PyProof.Rows L2
section
variable [Lk]
variable {X : Cx}
def wLenSet (w : WE) : WE := fun ρ Q => w ρ fun d ρ1 => ∃ ns : List Int, d = .lst (ns.map D.int) ∧ ns.length ≤ 4000 ∧ ∀ us : List Int, us.Nodup → (∀ x, x ∈ us ↔ x ∈ ns) → Q (.int (us.length : Nat)) ρ1
theorem zJ {w : WE} {ρ : List Sl} {Q : D → List Sl → Prop} : wLenSet w ρ Q = w ρ fun d ρ1 => ∃ ns : List Int, d = .lst (ns.map D.int) ∧ ns.length ≤ 4000 ∧ ∀ us : List Int, us.Nodup → (∀ x, x ∈ us ↔ x ∈ ns) → Q (.int (us.length : Nat)) ρ1 := rfl
end
end DL
namespace PySem.W
open PySem PySem.Spec PyProof.Rows
section
variable {prog : Program} {w : World} {A : Around} {E : Value → Shared → Prop} {s : Shared} {T : String} {r d : Addr} {n : Nat} {P : Nat → Value → Prop} {OK : Heap → Prop}
inductive HitsZ {K : Type} (A : Around) (s : Shared) : List (K × Addr × Value) → List (K × Addr × Value) → Bool → Prop
  | nil : HitsZ A s [] [] true
  | cons {k : K} {a b : Addr} {v y : Value} {xs ys : List (K × Addr × Value)} {e r : Bool} : SeqAt.EqAt A s v y e → HitsZ A s xs ys r → HitsZ A s ((k, a, v) :: xs) ((k, b, y) :: ys) (e && r)
variable {K : Type} [DecidableEq K] {knd : HeapKind prog w K}
theorem HitsZ.len {xs ys : List (K × Addr × Value)} {r : Bool} (h : HitsZ A s xs ys r) : xs.length = ys.length := by
  induction h with
  | nil => rfl
  | cons _ _ ih => simp [ih]
end
end PySem.W
namespace DL
open PySem PySem.Spec PyProof.Rows L2
section
variable {X : Cx}
/-- sorted(d), the keys pairs of ints -/
def pkey (p : Int × Int) : List Key := [Sum.inl p.1, Sum.inl p.2]
variable [Lk]
end
variable [Lk]
section
variable {X : Cx}
variable {e e2 e3 : Expr} {te t2 t3 : TE} {w w2 w3 : WE}
def wGet2 (wa wb wc : WE) : WE := fun ρ Q => wa ρ fun d1 ρ1 => isDkt d1 ∧ wb ρ1 fun d2 ρ2 => wc ρ2 fun d3 ρ3 => ∃ o, getD' d1 d2 = some o ∧ Q (o.getD d3) ρ3
theorem zH {wa wb wc : WE} {ρ : List Sl} {Qd : D → List Sl → Prop} : wGet2 wa wb wc ρ Qd = wa ρ fun d1 ρ1 => isDkt d1 ∧ wb ρ1 fun d2 ρ2 => wc ρ2 fun d3 ρ3 => ∃ o, getD' d1 d2 = some o ∧ Qd (o.getD d3) ρ3 := rfl
end
end DL
namespace DL
open PySem PySem.Spec PyProof.Rows L2
variable [Lk]
def wCallOI (i : Nat) (wf : WFo) (wa : WAs) : WE := fun ρ Q => (∃ x t, ρ[i]? = some (.od x t)) ∧ wa ρ fun as ρ1 => match ρ1[i]? with
  | some (.od x t) => wf (.od x t :: as) fun r as' => ∃ t', as' = .od x t' :: as ∧ Q r (ρ1.set i (.od x t'))
  | _ => False
theorem zG {i : Nat} {wf : WFo} {wa : WAs} {ρ : List Sl} {Q : D → List Sl → Prop} : wCallOI i wf wa ρ Q = ((∃ x t, ρ[i]? = some (.od x t)) ∧ wa ρ fun as ρ1 => match ρ1[i]? with
  | some (.od x t) => wf (.od x t :: as) fun r as' => ∃ t', as' = .od x t' :: as ∧ Q r (ρ1.set i (.od x t'))
  | _ => False) := rfl
end DL
namespace DL
open PySem PySem.Spec PyProof.Rows L2
variable [Lk]
def wMakeI (n : Str) (i : Nat) (wf : WFo) (wa : WAs) : WS := fun ρ E => wa ρ fun as ρ1 => ρ1[i]? = some .no ∧ ∀ x, wf (.od x (.ins n [] []) :: as) fun r as' => ∃ t, as' = .od x t :: as ∧ r = .non ∧ E.nx (ρ1.set i (.od x t))
theorem zF {n : Str} {i : Nat} {wf : WFo} {wa : WAs} {ρ : List Sl} {E : EnD} : wMakeI n i wf wa ρ E = wa ρ fun as ρ1 => ρ1[i]? = some .no ∧ ∀ x, wf (.od x (.ins n [] []) :: as) fun r as' => ∃ t, as' = .od x t :: as ∧ r = .non ∧ E.nx (ρ1.set i (.od x t)) := rfl
end DL
namespace DL
open PySem PySem.Spec PyProof.Rows L2
variable [Lk]
section
variable {X : Cx} {e : Expr} {te : TE} {w : WE} {pos : Pos}
def wOFld2 (i : Nat) (n f n2 g : Str) : WE := fun ρ Q => ∃ (x : V) (fs : List Str) (ts : List OT) (j : Nat) (fs2 : List Str) (ts2 : List OT) (j2 : Nat) (t : OT) (d : D), ρ[i]? = some (.od x (.ins n fs ts)) ∧ fldAt fs ts f j (.ins n2 fs2 ts2) ∧ fldAt fs2 ts2 g j2 t ∧ peekD t d ∧ Q d ρ
theorem z9 {i : Nat} {n f n2 g : Str} {ρ : List Sl} {Q : D → List Sl → Prop} : wOFld2 i n f n2 g ρ Q = ∃ (x : V) (fs : List Str) (ts : List OT) (j : Nat) (fs2 : List Str) (ts2 : List OT) (j2 : Nat) (t : OT) (d : D), ρ[i]? = some (.od x (.ins n fs ts)) ∧ fldAt fs ts f j (.ins n2 fs2 ts2) ∧ fldAt fs2 ts2 g j2 t ∧ peekD t d ∧ Q d ρ := rfl
def wOApp2 (i : Nat) (n f n2 g : Str) (w : WE) : WS := fun ρ E => (∃ (x : V) (fs : List Str) (ts : List OT) (j : Nat) (fs2 : List Str) (ts2 : List OT) (j2 : Nat) (ds : List D), ρ[i]? = some (.od x (.ins n fs ts)) ∧ fldAt fs ts f j (.ins n2 fs2 ts2) ∧ fldAt fs2 ts2 g j2 (.lst (ds.map OT.sh))) ∧ w ρ fun d ρ1 =>
  ∃ (x : V) (fs : List Str) (ts : List OT) (j : Nat) (fs2 : List Str) (ts2 : List OT) (j2 : Nat) (ds : List D), ρ1[i]? = some (.od x (.ins n fs ts)) ∧ fldAt fs ts f j (.ins n2 fs2 ts2) ∧ fldAt fs2 ts2 g j2 (.lst (ds.map OT.sh)) ∧ ds.length < sizeLine ∧
    E.nx (ρ1.set i (.od x (.ins n fs (ts.set j (.ins n2 fs2 (ts2.set j2 (.lst ((ds ++ [d]).map OT.sh))))))))
end
end DL
namespace DL
open PySem PySem.Spec PyProof.Rows L2
variable [Lk]
def wFldMk (i : Nat) (n f n2 : Str) (wf : WFo) (wa : WAs) : WS := fun ρ E => wa ρ fun as ρ1 => ∀ y, wf (.od y (.ins n2 [] []) :: as) fun r as' => ∃ t, as' = .od y t :: as ∧ r = .non ∧
  ∃ (x : V) (fs : List Str) (ts : List OT), ρ1[i]? = some (.od x (.ins n fs ts)) ∧ f ∉ fs ∧ fs.length < 1000 ∧ E.nx (ρ1.set i (.od x (.ins n (fs ++ [f]) (ts ++ [t]))))
theorem z8 {i : Nat} {n f n2 : Str} {wf : WFo} {wa : WAs} {ρ : List Sl} {E : EnD} : wFldMk i n f n2 wf wa ρ E = wa ρ fun as ρ1 => ∀ y, wf (.od y (.ins n2 [] []) :: as) fun r as' => ∃ t, as' = .od y t :: as ∧ r = .non ∧
  ∃ (x : V) (fs : List Str) (ts : List OT), ρ1[i]? = some (.od x (.ins n fs ts)) ∧ f ∉ fs ∧ fs.length < 1000 ∧ E.nx (ρ1.set i (.od x (.ins n (fs ++ [f]) (ts ++ [t])))) := rfl
end DL
namespace DL
open PySem PySem.Spec PyProof.Rows L2
variable [Lk]
section
variable {X : Cx} {e : Expr} {te : TE} {w : WE} {pos : Pos}
def wOFSet2 (i : Nat) (n f n2 g : Str) (w : WE) : WS := fun ρ E => w ρ fun d ρ1 =>
  ∃ (x : V) (fs : List Str) (ts : List OT) (j : Nat) (fs2 : List Str) (ts2 : List OT) (j2 : Nat) (d0 : D), ρ1[i]? = some (.od x (.ins n fs ts)) ∧ fldAt fs ts f j (.ins n2 fs2 ts2) ∧ fldAt fs2 ts2 g j2 (.sh d0) ∧ fs2.length < 1000 ∧
    E.nx (ρ1.set i (.od x (.ins n fs (ts.set j (.ins n2 fs2 (ts2.set j2 (.sh d)))))))
theorem zC {i : Nat} {n f n2 g : Str} {w : WE} {ρ : List Sl} {E : EnD} : wOFSet2 i n f n2 g w ρ E = w ρ fun d ρ1 =>
  ∃ (x : V) (fs : List Str) (ts : List OT) (j : Nat) (fs2 : List Str) (ts2 : List OT) (j2 : Nat) (d0 : D), ρ1[i]? = some (.od x (.ins n fs ts)) ∧ fldAt fs ts f j (.ins n2 fs2 ts2) ∧ fldAt fs2 ts2 g j2 (.sh d0) ∧ fs2.length < 1000 ∧
    E.nx (ρ1.set i (.od x (.ins n fs (ts.set j (.ins n2 fs2 (ts2.set j2 (.sh d))))))) := rfl
end
end DL
namespace DL
open PySem PySem.Spec PyProof.Rows L2
variable [Lk]
def wMethR (i : Nat) (n f n2 m : Str) (wf : OT → (D → Prop) → Prop) : WE := fun ρ Q => ∃ (x : V) (fs : List Str) (ts : List OT) (j : Nat) (fs2 : List Str) (ts2 : List OT), ρ[i]? = some (.od x (.ins n fs ts)) ∧ fldAt fs ts f j (.ins n2 fs2 ts2) ∧ m ∉ fs2 ∧ wf (.ins n2 fs2 ts2) fun d => Q d ρ
theorem zD {i : Nat} {n f n2 m : Str} {wf : OT → (D → Prop) → Prop} {ρ : List Sl} {Q : D → List Sl → Prop} : wMethR i n f n2 m wf ρ Q = ∃ (x : V) (fs : List Str) (ts : List OT) (j : Nat) (fs2 : List Str) (ts2 : List OT), ρ[i]? = some (.od x (.ins n fs ts)) ∧ fldAt fs ts f j (.ins n2 fs2 ts2) ∧ m ∉ fs2 ∧ wf (.ins n2 fs2 ts2) fun d => Q d ρ := rfl
end DL
namespace DL
open PySem PySem.Spec PyProof.Rows L2
variable [Lk]
section
variable {X : Cx} {p p2 pos : Pos} {k : Nat} {f C : Addr} {fd : FuncData} {ps : List Str} {n : Str}
/-- name.f.g where g holds shared data -/
def wOFldS2 (i : Nat) (n f n2 g : Str) : WE := fun ρ Q => ∃ (x : V) (fs : List Str) (ts : List OT) (j : Nat) (fs2 : List Str) (ts2 : List OT) (j2 : Nat) (d : D), ρ[i]? = some (.od x (.ins n fs ts)) ∧ fldAt fs ts f j (.ins n2 fs2 ts2) ∧ fldAt fs2 ts2 g j2 (.sh d) ∧ Q d ρ
theorem zA {i : Nat} {n f n2 g : Str} {ρ : List Sl} {Q : D → List Sl → Prop} : wOFldS2 i n f n2 g ρ Q = ∃ (x : V) (fs : List Str) (ts : List OT) (j : Nat) (fs2 : List Str) (ts2 : List OT) (j2 : Nat) (d : D), ρ[i]? = some (.od x (.ins n fs ts)) ∧ fldAt fs ts f j (.ins n2 fs2 ts2) ∧ fldAt fs2 ts2 g j2 (.sh d) ∧ Q d ρ := rfl
end
end DL
namespace DL
open PySem PySem.Spec PyProof.Rows L2
variable [Lk]
theorem zB {i : Nat} {n f n2 g : Str} {w : WE} {ρ : List Sl} {E : EnD} : wOApp2 i n f n2 g w ρ E = ((∃ (x : V) (fs : List Str) (ts : List OT) (j : Nat) (fs2 : List Str) (ts2 : List OT) (j2 : Nat) (ds : List D), ρ[i]? = some (.od x (.ins n fs ts)) ∧ fldAt fs ts f j (.ins n2 fs2 ts2) ∧ fldAt fs2 ts2 g j2 (.lst (ds.map OT.sh))) ∧ w ρ fun d ρ1 =>
  ∃ (x : V) (fs : List Str) (ts : List OT) (j : Nat) (fs2 : List Str) (ts2 : List OT) (j2 : Nat) (ds : List D), ρ1[i]? = some (.od x (.ins n fs ts)) ∧ fldAt fs ts f j (.ins n2 fs2 ts2) ∧ fldAt fs2 ts2 g j2 (.lst (ds.map OT.sh)) ∧ ds.length < sizeLine ∧
    E.nx (ρ1.set i (.od x (.ins n fs (ts.set j (.ins n2 fs2 (ts2.set j2 (.lst ((ds ++ [d]).map OT.sh))))))))) := rfl
def wLcX (vs : List Nat) (wi : WA) (wg : WG) (wt : WT) (we : WE) : WE := fun ρ Q => wLc vs wi wg wt we ρ fun sl ρ' => Q (obD sl) ρ'
theorem zE {vs : List Nat} {wi : WA} {wg : WG} {wt : WT} {we : WE} {ρ : List Sl} {Q : D → List Sl → Prop} : wLcX vs wi wg wt we ρ Q = wLc vs wi wg wt we ρ fun sl ρ' => Q (obD sl) ρ' := rfl
end DL
namespace DL
open PySem PySem.Spec PyProof.Rows L2
def FnTab (K : PySem.W.Frag) (h : Heap) : Prop := ∀ f oc od fd sl c, K.lookup f = some ⟨oc, od, .func fd, sl⟩ → fd.code = .ref c → ∃ T, h.IsCode c T #[] ∧ h.TableAt c T #[]
theorem FnTab.keeps {K : PySem.W.Frag} {h h' : Heap} (x : FnTab K h) (k : ∀ b o, h.get? b = some o → h'.get? b = some o) : FnTab K h' := fun f oc od fd sl c lf hc =>
  let ⟨T, a, b⟩ := x f oc od fd sl c lf hc
  ⟨T, a.keeps k, b.keeps k⟩
end DL
namespace L2
open PySem PySem.Spec PyProof.Rows
def inTx (xs : List Str) (i : Nat) : Str → Bool := fun z => decide (z ∈ xs.take i)
end L2
namespace DL
open PySem PySem.Spec PyProof.Rows L2
section
variable [Lk]
variable {X : Cx}
def wLenSetS (w : WE) : WE := fun ρ Q => w ρ fun d ρ1 => ∃ ns : List Str, d = .lst (ns.map D.str) ∧ ns.length ≤ 4000 ∧ ns.Nodup ∧ Q (.int (ns.length : Nat)) ρ1
theorem zM {w : WE} {ρ : List Sl} {Q : D → List Sl → Prop} : wLenSetS w ρ Q = w ρ fun d ρ1 => ∃ ns : List Str, d = .lst (ns.map D.str) ∧ ns.length ≤ 4000 ∧ ns.Nodup ∧ Q (.int (ns.length : Nat)) ρ1 := rfl
end
end DL
namespace DL
open PySem PySem.Spec PyProof.Rows L2
abbrev WFu := List Sl → (D → List Sl → Prop) → (Xn → Prop) → Prop
section
variable {X : Cx} {F0 M00 : Hp} {E : XK} {EX : Xn → Prop} {tb : List Addr} {CX : CXT}
variable {f : Addr} {fd : FuncData} {ps : List Str} {x : Str} {p pos : Pos} {k : Nat} {e : Expr} {es : List Expr} {ta : TA} {wa : WAs} {wf : WFx}
/-- a call of a def with own arguments, the first one an own instance of ours, that may raise -/
def wCallOU (EX : Xn → Prop) (i : Nat) (wf : WFu) (wa : WAs) : WE := fun ρ Q => (∃ (x : V) (t : OT), ρ[i]? = some (.od x t)) ∧ wa ρ fun as ρ1 => match ρ1[i]? with
  | some (.od x t) => wf (.od x t :: as) (fun r as' => ∃ t', as' = .od x t' :: as ∧ Q r (ρ1.set i (.od x t'))) EX
  | _ => False
theorem zN {EX : Xn → Prop} {i : Nat} {wf : WFu} {wa : WAs} {ρ : List Sl} {Q : D → List Sl → Prop} : wCallOU EX i wf wa ρ Q = ((∃ (x : V) (t : OT), ρ[i]? = some (.od x t)) ∧ wa ρ fun as ρ1 => match ρ1[i]? with
  | some (.od x t) => wf (.od x t :: as) (fun r as' => ∃ t', as' = .od x t' :: as ∧ Q r (ρ1.set i (.od x t'))) EX
  | _ => False) := rfl
/-- name.m(..), name an own instance, that may raise -/
def wMethU (EX : Xn → Prop) (i : Nat) (n m : Str) (wf : WFu) (wa : WAs) : WE := fun ρ Q => (∃ (x : V) (fs : List Str) (ts : List OT), ρ[i]? = some (.od x (.ins n fs ts)) ∧ m ∉ fs) ∧ wa ρ fun as ρ1 => match ρ1[i]? with
  | some (.od x t) => wf (.od x t :: as) (fun r as' => ∃ t', as' = .od x t' :: as ∧ Q r (ρ1.set i (.od x t'))) EX
  | _ => False
theorem zO {EX : Xn → Prop} {i : Nat} {n m : Str} {wf : WFu} {wa : WAs} {ρ : List Sl} {Q : D → List Sl → Prop} : wMethU EX i n m wf wa ρ Q = ((∃ (x : V) (fs : List Str) (ts : List OT), ρ[i]? = some (.od x (.ins n fs ts)) ∧ m ∉ fs) ∧ wa ρ fun as ρ1 => match ρ1[i]? with
  | some (.od x t) => wf (.od x t :: as) (fun r as' => ∃ t', as' = .od x t' :: as ∧ Q r (ρ1.set i (.od x t'))) EX
  | _ => False) := rfl
end
end DL
namespace DL
open PySem PySem.Spec PyProof.Rows L2
section
variable {X : Cx} {CX : CXT} {k : Nat} {f C : Addr} {fd : FuncData} {ps : List Str} {sp : Sp} {E : L2.St → XK} {m : Str} {pos apos : Pos} {e o : Expr} {es : List Expr} {ta : TE} {t : TA}
theorem pe_methE {pl : Sem Bool} (he : PE X o ta) (c : Cls X.K C) (hm : Meth X.K C m f) (F : FnOk X.prog X.w X.K X.mg X.base CX k f fd ps sp) (hr : Room k X.A) (hb : Binds X.K fd ps []) (hx : ∀ σ, PassesAt CX X σ (E σ)) (ha : PA X (e :: es) t)
    (hst : starEach (e :: es) X.env = (false, eval e X.env) :: starEach es X.env := by rfl) (hpl : (backTo pos (starEach es X.env)).any (·.1) = false := by rfl)
    (ht : eval (.Call (.Attribute o m apos) (e :: es) [] pos) X.env = (do
      let ov ← eval o X.env
      standAt apos.atName
      let (f, first) ← holding [ov] (getMethod ov m pl)
      callWith pos f first (backTo pos (starEach (e :: es) X.env)) (backToKw pos (keywordEach [] X.env))) := by rfl) :
    PE X (.Call (.Attribute o m apos) (e :: es) [] pos) (L2H.tMethH C m sp E ta t) :=
  ⟨fun pins s σ H Q I h => PySem.W.methodCall_KW (pl := pl) (thn (he.run pins s σ H _ I h) fun u s1 ⟨x, H1, I1, rx, a, dx, fs, ex, ea, l, q⟩ => by
    subst ex
    cases (show u = Value.ref a from rx)
    exact getmeth_ok I1 ea c hm l (PySem.W.callWith_K (first := [.ref a]) (h₀ := X.base) I.ok.mod.kin hm.kp (thn (ha.run pos pins s1 σ H1 _ I1 q) fun us s2 ⟨vs, H2, I2, r, q2⟩ => ⟨I2.kIn, run_fnS (us := .ref a :: us) (vs := .ref a :: vs) F hr hb (hx σ) I2 (.cons rfl r) q2⟩) hst hpl)) ht⟩
end
section
variable {X : Cx} {F0 M00 : Hp} {E : XK} {EX : Xn → Prop} {tb : List Addr}
def wTryOU (i : Nat) (ns : List Str) (wf : WFu) (wa : WAs) (EX : Xn → Prop) (n2 : Str) (flds : List Str) (wa2 : WA) : WS := fun ρ Ed => (∃ (x : V) (t : OT), ρ[i]? = some (.od x t)) ∧ wa ρ fun as ρ1 => match ρ1[i]? with
  | some (.od x t) => wf (.od x t :: as) (fun _ as' => ∃ t', as' = .od x t' :: as ∧ Ed.nx (ρ1.set i (.od x t'))) fun xn => xn.n ∈ ns ∧ wRaiseA EX n2 flds wa2 (ρ1.set i .no) Ed
  | _ => False
theorem zP {i : Nat} {ns : List Str} {wf : WFu} {wa : WAs} {EX : Xn → Prop} {n2 : Str} {flds : List Str} {wa2 : WA} {ρ : List Sl} {Ed : EnD} : wTryOU i ns wf wa EX n2 flds wa2 ρ Ed = ((∃ (x : V) (t : OT), ρ[i]? = some (.od x t)) ∧ wa ρ fun as ρ1 => match ρ1[i]? with
  | some (.od x t) => wf (.od x t :: as) (fun _ as' => ∃ t', as' = .od x t' :: as ∧ Ed.nx (ρ1.set i (.od x t'))) fun xn => xn.n ∈ ns ∧ wRaiseA EX n2 flds wa2 (ρ1.set i .no) Ed
  | _ => False) := rfl
def wTryMU (i : Nat) (n m : Str) (ns : List Str) (wf : WFu) (wa : WAs) (EX : Xn → Prop) (n2 : Str) (flds : List Str) (wa2 : WA) : WS := fun ρ Ed => (∃ (x : V) (fs : List Str) (ts : List OT), ρ[i]? = some (.od x (.ins n fs ts)) ∧ m ∉ fs) ∧ wTryOU i ns wf wa EX n2 flds wa2 ρ Ed
theorem zQ {i : Nat} {n m : Str} {ns : List Str} {wf : WFu} {wa : WAs} {EX : Xn → Prop} {n2 : Str} {flds : List Str} {wa2 : WA} {ρ : List Sl} {Ed : EnD} : wTryMU i n m ns wf wa EX n2 flds wa2 ρ Ed = ((∃ (x : V) (fs : List Str) (ts : List OT), ρ[i]? = some (.od x (.ins n fs ts)) ∧ m ∉ fs) ∧ wTryOU i ns wf wa EX n2 flds wa2 ρ Ed) := rfl
end
end DL
namespace DL
open PySem PySem.Spec PyProof.Rows L2
open Builtin Builtin.Str
/-- the text with its first part y replaced -/
def rep1 (x y z : Str) : Str := if (occurrences x y 0 x.length 1).isEmpty = true then x else glued z (partsBetween x (occurrences x y 0 x.length 1) y.length)
section
variable [Lk]
variable {X : Cx} {o e : Expr} {te to : TE} {es : List Expr} {t : TA} {y z : Str} {j k l : Nat} {c0 c1 c2 apos pos : Pos} {w : WE} {wt : WA}
def wRep1 (y z : Str) (w : WE) : WE := fun ρ Q => w ρ fun d ρ1 => match d with
  | .str x => x.length + z.length ≤ 16777216 ∧ (rep1 x y z).length ≤ 16777216 ∧ Q (.str (rep1 x y z)) ρ1
  | _ => False
theorem zK {y z : Str} {w : WE} {ρ : List Sl} {Q : D → List Sl → Prop} : wRep1 y z w ρ Q = w ρ fun d ρ1 => match d with
  | .str x => x.length + z.length ≤ 16777216 ∧ (rep1 x y z).length ≤ 16777216 ∧ Q (.str (rep1 x y z)) ρ1
  | _ => False := rfl
end
end DL
namespace L2
open PySem PySem.Spec PyProof.Rows
/-- how many unlike texts stand among the first i -/
def cntTx (xs : List Str) : Nat → Nat
  | 0 => 0
  | i + 1 => if inTx xs i (xs.getD i Str.empty) = true then cntTx xs i else cntTx xs i + 1
end L2
namespace DL
open PySem PySem.Spec PyProof.Rows L2
section
variable [Lk]
variable {X : Cx}
def wLenSetW (w : WE) : WE := fun ρ Q => w ρ fun d ρ1 => ∃ ns : List Str, d = .lst (ns.map D.str) ∧ ns.length ≤ 4000 ∧ Q (.int (cntTx ns ns.length : Nat)) ρ1
theorem zL {w : WE} {ρ : List Sl} {Q : D → List Sl → Prop} : wLenSetW w ρ Q = w ρ fun d ρ1 => ∃ ns : List Str, d = .lst (ns.map D.str) ∧ ns.length ≤ 4000 ∧ Q (.int (cntTx ns ns.length : Nat)) ρ1 := rfl
end
end DL
namespace DL
open PySem PySem.Spec PyProof.Rows L2
abbrev Cl := Addr × D
def ghS (g : Cl) : Sl := .gh g.1 g.2
/-- cells: their own heap -/
def CH (c : Cy) (F : Hp) : List Cl → Hp → Prop
  | [], C => C = emp
  | g :: gs, C => ∃ Mo C', OTR c F (shT g.2) (.ref g.1) Mo ∧ CH c F gs C' ∧ Dj C' Mo ∧ C = HH C' Mo
/-- cells are taken out of their slots -/
def pickK : List Nat → List Sl → (List Cl → List Sl → Prop) → Prop
  | [], ρ, k => k [] ρ
  | j :: js, ρ, k => match ρ[j]? with
    | some (.gh a d) => pickK js (ρ.set j .no) fun gs ρ' => k ((a, d) :: gs) ρ'
    | _ => False
/-- cells are put into slots -/
def putK : List Nat → List Cl → List Sl → (List Sl → Prop) → Prop
  | [], [], ρ, k => k ρ
  | j :: js, g :: gs, ρ, k => putK js gs ρ fun ρ' => ρ'[j]? = some .no ∧ k (ρ'.set j (.gh g.1 g.2))
  | _, _, _, _ => False
theorem zf {ρ : List Sl} {k : List Cl → List Sl → Prop} : pickK [] ρ k = k [] ρ := rfl
theorem zg {j : Nat} {js : List Nat} {ρ : List Sl} {k : List Cl → List Sl → Prop} : pickK (j :: js) ρ k = match ρ[j]? with
    | some (.gh a d) => pickK js (ρ.set j .no) fun gs ρ' => k ((a, d) :: gs) ρ'
    | _ => False := rfl
theorem zh {ρ : List Sl} {k : List Sl → Prop} : putK [] [] ρ k = k ρ := rfl
theorem zi {j : Nat} {js : List Nat} {g : Cl} {gs : List Cl} {ρ : List Sl} {k : List Sl → Prop} : putK (j :: js) (g :: gs) ρ k = putK js gs ρ fun ρ' => ρ'[j]? = some .no ∧ k (ρ'.set j (.gh g.1 g.2)) := rfl
theorem set_same {α : Type} {σ : List (Option α)} {i : Nat} : σ.set i (σ[i]?.getD none) = σ := by
  cases h : σ[i]? with
  | none => rw [List.set_eq_of_length_le (List.getElem?_eq_none_iff.mp h)]
  | some x =>
    obtain ⟨hi, ei⟩ := List.getElem?_eq_some_iff.mp h
    show σ.set i x = σ
    rw [← ei]; exact List.set_getElem_self hi
section
variable {c : Cy} {b : Option Addr} {F G M0 : Hp}
theorem CH.dj : ∀ {gs : List Cl} {C : Hp}, CH c F gs C → Dj F C
  | [], C, h => by rw [show C = emp from h]; exact fun a o q => nomatch q
  | g :: gs, C, h => by
    obtain ⟨Mo, C', r, t, d, rfl⟩ := h
    intro a o q
    rcases hh_some q with z | ⟨_, z⟩
    · exact OTR.dj _ r a o z
    · exact CH.dj t a o z
theorem CH.nt : ∀ {gs : List Cl} {C : Hp}, CH c F gs C → NT C
  | [], C, h => by rw [show C = emp from h]; exact NT.emp
  | g :: gs, C, h => by
    obtain ⟨Mo, C', r, t, d, rfl⟩ := h
    exact (CH.nt t).hh (OTR.nt _ r)
theorem CH.leD (s : LeD F G) : ∀ {gs : List Cl} {C : Hp}, (∀ a o, C a = some o → F a = none → G a = none) → CH c F gs C → CH c G gs C
  | [], C, n, h => h
  | g :: gs, C, n, h => by
    obtain ⟨Mo, C', r, t, d, rfl⟩ := h
    exact ⟨Mo, C', OTR.leD s _ (fun x o q => n x o (hh_m q)) r, CH.leD s (fun x o q => n x o (d.f q)) t, d, rfl⟩
theorem pick_ok : ∀ (js : List Nat) {ρ : List Sl} {σ : L2.St} {M : Hp} {k : List Cl → List Sl → Prop}, RelE c b F M0 ρ σ M → pickK js ρ k → ∃ gs ρ' M' C, k gs ρ' ∧ RelE c b F M0 ρ' σ M' ∧ CH c F gs C ∧ Dj M' C ∧ M = HH M' C
  | [], ρ, σ, M, k, R, h => ⟨[], ρ, M, emp, h, R, rfl, (fun a o q => nomatch q), (hh_emp M).symm⟩
  | j :: js, ρ, σ, M, k, R, h => by
    rw [zg] at h
    cases e : ρ[j]? with
    | none => rw [e] at h; exact h.elim
    | some sl =>
      rw [e] at h
      cases sl with
      | gh a d =>
        obtain ⟨Mo, M1, h2, h3, h4, h5, h6, h7⟩ := R.ghT e
        have R1 := h6 (σ[j]?.getD none)
        rw [set_same] at R1
        obtain ⟨gs, ρ', M', C, hk, R', hc, dj, e2⟩ := pick_ok js R1 h
        subst e2
        refine ⟨(a, d) :: gs, ρ', M', HH C Mo, hk, R', ⟨Mo, C, h2, hc, dj_r h3, rfl⟩, fun x o q => ?_, ?_⟩
        · rcases hh_some q with z | ⟨_, z⟩
          · exact (hh_none (h3 x o z)).1
          · exact dj x o z
        · rw [h4, hh_assoc]
      | _ => exact h.elim
theorem put_ok : ∀ (js : List Nat) (gs : List Cl) {ρ : List Sl} {σ : L2.St} {M C : Hp} {k : List Sl → Prop}, RelE c b F M0 ρ σ M → CH c F gs C → Dj M C → putK js gs ρ k → ∃ ρ', k ρ' ∧ RelE c b F M0 ρ' σ (HH M C)
  | [], [], ρ, σ, M, C, k, R, hc, dj, h => by
    rw [show C = emp from hc, hh_emp]
    exact ⟨ρ, h, R⟩
  | [], _ :: _, ρ, σ, M, C, k, R, hc, dj, h => h.elim
  | _ :: _, [], ρ, σ, M, C, k, R, hc, dj, h => h.elim
  | j :: js, g :: gs, ρ, σ, M, C, k, R, hc, dj, h => by
    obtain ⟨Mo, C', r, t, d, rfl⟩ := hc
    obtain ⟨ρ', ⟨e, hk⟩, R'⟩ := put_ok js gs R t (fun x o q => dj x o (d.f q)) h
    refine ⟨_, hk, ?_⟩
    rw [hh_assoc]
    exact RelE.setGh r R' (fun x o q => by rw [hh_n (d x o q)]; exact dj x o (hh_m q)) e (fun z => z)
/-- the cells that a def is lent -/
theorem CH.rel {n : Nat} (nt : NT M0) : ∀ {gs : List Cl} {C : Hp}, CH c F gs C → Dj M0 C → RelE c b F M0 (gs.map ghS ++ List.replicate n .no) (List.replicate (gs.length + n) none) (HH M0 C)
  | [], C, h, d => by
    rw [show C = emp from h, hh_emp]
    simpa using rel_nos nt n
  | g :: gs, C, h, d => by
    obtain ⟨Mo, C', r, t, dd, rfl⟩ := h
    have d' : Dj M0 C' := fun x o q => d x o (dd.f q)
    have ih := CH.rel (n := n) nt t d'
    rw [show (g :: gs).length + n = (gs.length + n) + 1 by simp; omega, List.replicate_succ]
    refine ⟨none, _, rfl, Mo, HH M0 C', r, fun x o q => ?_, hh_assoc, ih⟩
    rw [hh_n (dd x o q)]; exact d x o (hh_m q)
theorem relE_nosL {M : Hp} {ρ : List Sl} {σ : L2.St} (h : RelE c b F M0 ρ σ M) : ∀ (n : Nat), RelE c b F M0 (List.replicate n .no ++ ρ) (List.replicate n none ++ σ) M
  | 0 => h
  | n + 1 => ⟨none, List.replicate n none ++ σ, rfl, relE_nosL h n⟩
theorem ArgsD.relL {M : Hp} {ρ : List Sl} {σ : L2.St} (h : RelE c b F M0 ρ σ M) : ∀ {as : List Sl} {vs : List V}, ArgsD c b F as vs → RelE c b F M0 (as ++ ρ) (vs.map some ++ σ) M
  | [], vs, a => by rw [show vs = [] from a]; exact h
  | s :: r, vs, a => by
    obtain ⟨v, vr, rfl, q, t⟩ := a
    refine ⟨some v, vr.map some ++ σ, rfl, ?_⟩
    cases s with
    | sh d => exact ⟨⟨v, rfl, q⟩, ArgsD.relL h t⟩
    | bx => obtain ⟨a, e1, e2⟩ := q; exact ⟨⟨a, e1, by rw [e2]⟩, ArgsD.relL h t⟩
    | _ => exact q.elim
end
abbrev WFg := List Sl → List Cl → (D → List Cl → Prop) → Prop
/-- a def with cells: what it is lent, what it hands back -/
def spG (c : Cy) (wf : WFg) : Sp := fun vs H Q _ => ∃ (b : Option Addr) (F M C : Hp) (as : List Sl) (gs : List Cl) (Qd : D → List Cl → Prop), H = HH F (HH M C) ∧ Dj F (HH M C) ∧ Dj M C ∧ ((∀ a, b = some a → Box F M a) ∧ NT M) ∧ ArgsD c b F as vs ∧ CH c F gs C ∧ wf as gs Qd ∧
  ∀ d v gs' F' M' C', Qd d gs' → Same F F' → Dj F' (HH M' C') → Dj M' C' → (∀ a, b = some a → Box F' M' a) → MR b M M' → CH c F' gs' C' → Dr c F' v d → Q v (HH F' (HH M' C'))
def startG (nl ng : Nat) (as : List Sl) (gs : List Cl) : List Sl := as ++ (List.replicate nl .no ++ (gs.map ghS ++ List.replicate (ng - gs.length) .no))
/-- where a def's ends hand the cells back -/
def endG (outs : List Nat) (Qd : D → List Cl → Prop) : EnD := { nx := fun ρ => pickK outs ρ fun gs _ => Qd .non gs, rt := fun d ρ => pickK outs ρ fun gs _ => Qd d gs }
section
variable [Lk] {c : Cy} {b : Option Addr} {F M C : Hp} {as : List Sl} {gs : List Cl} {vs : List V} {N : List Str} {nl ng : Nat}
theorem startG_rel (hN : N.length = as.length + nl + ng) (hg : gs.length ≤ ng) (dj : Dj F (HH M C)) (dm : Dj M C) (bx : (∀ a, b = some a → Box F M a) ∧ NT M) (ar : ArgsD c b F as vs) (ch : CH c F gs C) (hl : Lk.lk b F M) : Rel c b (startG nl ng as gs) (L2.start N vs) F (HH M C) M := by
  refine ⟨dj, ?_, bx.1, hl⟩
  unfold startG L2.start
  have h1 := CH.rel (b := b) (n := ng - gs.length) bx.2 ch dm
  rw [show gs.length + (ng - gs.length) = ng by omega] at h1
  have h2 := ArgsD.relL (relE_nosL h1 nl) ar
  rw [show N.length - vs.length = nl + ng by rw [ar.length]; omega, ← List.replicate_append_replicate]
  exact h2
theorem CH.end {Q : VK} {Qd : D → List Cl → Prop} {outs : List Nat} {d : D} {v : V} {ρ' : List Sl} {σ' : L2.St} {F' M' M0' : Hp} (hq : ∀ d v gs' F' M' C', Qd d gs' → Same F F' → Dj F' (HH M' C') → Dj M' C' → (∀ a, b = some a → Box F' M' a) → MR b M M' → CH c F' gs' C' → Dr c F' v d → Q v (HH F' (HH M' C')))
    (hp : pickK outs ρ' fun gs _ => Qd d gs) (s : Same F F') (R : Rel c b ρ' σ' F' M' M0') (mr : MR b M M0') (r : Dr c F' v d) : Q v (HH F' M') := by
  obtain ⟨gs', ρ2, M2, C', hk, R2, ch, djC, rfl⟩ := pick_ok outs R.env hp
  have dj2 : Dj F' M2 := fun x o q => R.dj x o (djC.f q)
  obtain ⟨F2, s2, eh, dj3⟩ := R2.frzAll dj2
  have nF : ∀ x o, C' x = some o → F2 x = none ∧ M0' x = none := fun x o q => by
    have h1 : HH F' M2 x = none := by rw [hh_n (djC x o q)]; exact R.dj x o (hh_m q)
    rw [eh] at h1
    exact hh_none h1
  have e : HH F' (HH M2 C') = HH F2 (HH M0' C') := by rw [hh_assoc, eh, hh_assoc]
  rw [e]
  refine hq d v gs' F2 M0' C' hk (s.trans s2) (fun x o q => ?_) (fun x o q => (nF x o q).2) (fun a z => (R.box a z).leD (.of s2)) mr (CH.leD (.of s2) (fun x o q _ => (nF x o q).1) ch) (r.up s2)
  rcases hh_some q with z | ⟨_, z⟩
  · exact (nF x o z).1
  · exact dj3 x o z
theorem endG_fin {Q : VK} {Qd : D → List Cl → Prop} {outs : List Nat} (hq : ∀ d v gs' F' M' C', Qd d gs' → Same F F' → Dj F' (HH M' C') → Dj M' C' → (∀ a, b = some a → Box F' M' a) → MR b M M' → CH c F' gs' C' → Dr c F' v d → Q v (HH F' (HH M' C'))) :
    Fin c b F M (endG outs Qd) { nx := fun _ H' => Q .non H', rt := Q } :=
  ⟨fun ρ' σ' F' M' M0' e s' R' m' => CH.end hq e s' R' m' .of_non, fun _ _ _ _ _ z => z.elim, fun _ _ _ _ _ z => z.elim, fun d v ρ' σ' F' M' M0' e s' R' m' r => CH.end hq e s' R' m' r⟩
end
section
variable {P : Program} {w : World} {K : PySem.W.Frag} {mg : Str → Option Value} {base : Heap}
/-- THE RULE for defs with cells -/
theorem fun_okC {x qual : Str} {st : Stmt} {f : Addr} {fd : FuncData} {N ps : List Str} {k : Nat} {wf : WFg} (FF : Fun K x qual st f fd) (S : FnScope N ps (defScope st)) (nl ng : Nat) (outs : List Nat) (hN : N.length = ps.length + nl + ng) (len : ∀ as gs Qd, wf as gs Qd → as.length = ps.length ∧ gs.length ≤ ng)
    (hbody : ∀ (cdv : Value) (A : Around) (outer : List Env) (s : Shared) (H : Hp) (E : XK), Room k (A.deeper (envOfC qual (defScope st) s.heap.objs.size f cdv)) →
      letI := Lk.top
      ∃ t ws, DSs (cxOf CX0 P w K mg base N qual (defScope st) f cdv A outer s H E).nox (defBody st) t ws ∧ ∀ as gs Qd, wf as gs Qd → ws (startG nl ng as gs) (endG outs Qd)) :
    FnOk P w K mg base CX0 (k + 1) f fd ps (spG ⟨K, mg⟩ wf) := by
  refine FF.ok S (fun vs H Q E h => ?_) (fun cdv A outer s H vs Q E hr h => ?_)
  · obtain ⟨b, F, M, C, as, gs, Qd, _, _, _, _, ar, _, hw, _⟩ := h
    rw [ar.length, (len as gs Qd hw).1]
  · obtain ⟨b, F, M, C, as, gs, Qd, rfl, dj, dm, bx, ar, ch, hw, hq⟩ := h
    letI := Lk.top
    obtain ⟨t, ws, hd, hp⟩ := hbody cdv A outer s (HH F (HH M C)) E hr
    refine ⟨t, hd.ps, ?_⟩
    have hl := len as gs Qd hw
    exact hd.sn (startG_rel (by rw [hN, hl.1]) hl.2 dj dm bx ar ch trivial) _ _ (hp as gs Qd hw) (endG_fin hq)
/-- .. where no repr is under way -/
theorem fun_okCG {x qual : Str} {st : Stmt} {f : Addr} {fd : FuncData} {N ps : List Str} {k : Nat} {wf : WFg} (FF : Fun K x qual st f fd) (S : FnScope N ps (defScope st)) (nl ng : Nat) (outs : List Nat) (hN : N.length = ps.length + nl + ng) (len : ∀ as gs Qd, wf as gs Qd → as.length = ps.length ∧ gs.length ≤ ng)
    (hbody : ∀ (cdv : Value) (A : Around) (outer : List Env) (s : Shared) (H : Hp), Room k (A.deeper (envOfC qual (defScope st) s.heap.objs.size f cdv)) → (A.deeper (envOfC qual (defScope st) s.heap.objs.size f cdv)).guards = some [] →
      letI := Lk.top
      ∃ t ws, DSs (cxOf CX0 P w K mg base N qual (defScope st) f cdv A outer s H E0).nox (defBody st) t ws ∧ ∀ as gs Qd, wf as gs Qd → ws (startG nl ng as gs) (endG outs Qd)) :
    FnG P w K mg base (k + 1) f fd ps (spG ⟨K, mg⟩ wf) := by
  refine fnG_of FF S (fun vs H Q E h => ?_) (fun cdv A outer s H vs Q hr hgd h => ?_)
  · obtain ⟨b, F, M, C, as, gs, Qd, _, _, _, _, ar, _, hw, _⟩ := h
    rw [ar.length, (len as gs Qd hw).1]
  · obtain ⟨b, F, M, C, as, gs, Qd, rfl, dj, dm, bx, ar, ch, hw, hq⟩ := h
    letI := Lk.top
    obtain ⟨t, ws, hd, hp⟩ := hbody cdv A outer s (HH F (HH M C)) hr hgd
    have hl := len as gs Qd hw
    exact ⟨t, hd.ps, hd.sn (startG_rel (by rw [hN, hl.1]) hl.2 dj dm bx ar ch trivial) _ _ (hp as gs Qd hw) (endG_fin hq)⟩
end
variable [Lk]
/-- arguments that may change own things -/
def Snasx (c : Cy) (ta : TA) (w : WAs) : Prop := ∀ {b : Option Addr} {ρ : List Sl} {σ : L2.St} {F M M0 : Hp}, Rel c b ρ σ F M M0 → ∀ (Qd : List Sl → List Sl → Prop) (Q : List V → Hp → Prop), w ρ Qd →
  (∀ as ρ' vs F' M' M0', Qd as ρ' → Same F F' → Rel c b ρ' σ F' M' M0' → MR b M0 M0' → ArgsD c b F' as vs → Q vs (HH F' M')) → ta σ (HH F M) Q
structure DXAs (X : Cx) (es : List Expr) (ta : TA) (w : WAs) : Prop where
  pe : PA X es ta
  sn : Snasx (cy X) ta w
def wCallC (js js' : List Nat) (wf : WFg) (wa : WAs) : WE := fun ρ Q => wa ρ fun as ρ1 => pickK js ρ1 fun gs ρ2 => wf as gs fun d gs' => putK js' gs' ρ2 fun ρ3 => Q d ρ3
theorem zj {js js' : List Nat} {wf : WFg} {wa : WAs} {ρ : List Sl} {Q : D → List Sl → Prop} : wCallC js js' wf wa ρ Q = wa ρ fun as ρ1 => pickK js ρ1 fun gs ρ2 => wf as gs fun d gs' => putK js' gs' ρ2 fun ρ3 => Q d ρ3 := rfl
/-- .. the slots are found while the proof goes on -/
def wCallCE (wf : WFg) (wa : WAs) : WE := fun ρ Q => wa ρ fun as ρ1 => ∃ js js', pickK js ρ1 fun gs ρ2 => wf as gs fun d gs' => putK js' gs' ρ2 fun ρ3 => Q d ρ3
theorem ze {wf : WFg} {wa : WAs} {ρ : List Sl} {Q : D → List Sl → Prop} : wCallCE wf wa ρ Q = wa ρ fun as ρ1 => ∃ js js', pickK js ρ1 fun gs ρ2 => wf as gs fun d gs' => putK js' gs' ρ2 fun ρ3 => Q d ρ3 := rfl
section
variable {c : Cy} {t : TA} {wa : WAs} {wf : WFg} {js js' : List Nat}
/-- the callee's side -/
theorem lend_C {b : Option Addr} {ρ : List Sl} {σ : L2.St} {F M0 F1 M1 M01 : Hp} {as : List Sl} {vs : List V} {Qd : D → List Sl → Prop} {Q : VK} {E : XK} (s0 : Same F F1) (R : Rel c b ρ σ F1 M1 M01) (m0 : MR b M0 M01) (ar : ArgsD c b F1 as vs)
    (hw : pickK js ρ fun gs ρ2 => wf as gs fun d gs' => putK js' gs' ρ2 fun ρ3 => Qd d ρ3)
    (hq : ∀ d ρ' v F' M' M0', Qd d ρ' → Same F F' → Rel c b ρ' σ F' M' M0' → MR b M0 M0' → Dr c F' v d → Q v (HH F' M')) : spG c wf vs (HH F1 M1) Q E := by
  obtain ⟨gs, ρ2, M2, C, hk, R2, ch, dm, rfl⟩ := pick_ok js R.env hw
  have R2' : Rel c b ρ2 σ F1 M2 M01 := ⟨fun x o q => R.dj x o (dm.f q), R2, R.box, R.lk⟩
  refine ⟨b, F1, M2, C, as, gs, _, rfl, R.dj, dm, ⟨fun a z => ?_, R2.nt⟩, ar, ch, hk, fun d v gs' F' M' C' q s dj dm' bx mr ch' r => ?_⟩
  · obtain ⟨da, ns, n, h1, h2, h3⟩ := R.box a z
    exact ⟨da, ns, n, R2.sub _ _ h1, h2, h3⟩
  · obtain ⟨M0', A2⟩ := R2'.after s (fun x o q => dj x o (dm'.f q)) bx mr
    obtain ⟨ρ3, q3, R3⟩ := put_ok js' gs' A2.rel.env ch' dm' q
    exact hq d ρ3 v F' _ M0' q3 (s0.trans s) ⟨dj, R3, A2.rel.box, A2.rel.lk⟩ (m0.trans A2.mr) r
theorem snx_callC {E : XK} (ha : Snasx c t wa) : Sndx c (tCall (spG c wf) [] E t) (wCallC js js' wf wa) := fun {b ρ σ F M M0} R Qd Q hw k => by
  refine ha R _ _ hw fun as ρ1 vs F1 M1 M01 q s R1 m ar => ?_
  rw [List.append_nil]
  exact lend_C s R1 m ar q k
theorem snx_callCE {E : XK} (ha : Snasx c t wa) : Sndx c (tCall (spG c wf) [] E t) (wCallCE wf wa) := fun {b ρ σ F M M0} R Qd Q hw k => by
  refine ha R _ _ hw fun as ρ1 vs F1 M1 M01 q s R1 m ar => ?_
  rw [List.append_nil]
  obtain ⟨js, js', q⟩ := q
  exact lend_C s R1 m ar q k
end
section
variable {X : Cx} {e o : Expr} {es : List Expr} {te : TE} {t : TA} {w : WE} {wa : WAs} {pos : Pos}
theorem DAs.dx (h : DAs X es t wa) : DXAs X es t wa := ⟨h.pe, fun {b ρ σ F M M0} R Qd Q hw k => h.sn R Qd Q hw fun as ρ' vs F' M' M0' q A r => k as ρ' vs F' M' M0' q A.same A.rel A.mr r⟩
theorem dxa_nil : DXAs X [] tNil asNil := das_nil.dx
theorem dxa_cons (ha : DX X e te w) (hr : DXAs X es t wa) (hs : starEach (e :: es) X.env = (false, eval e X.env) :: starEach es X.env := by rfl) : DXAs X (e :: es) (tCons te t) (asCons w wa) :=
  ⟨pa_cons ha.pe hr.pe hs, fun {b ρ σ F M M0} R Qd Q hw k => by
    refine ha.sn R _ _ hw fun d ρ1 v F1 M1 M01 q1 s1 R1 m1 r1 => ?_
    exact hr.sn R1 _ _ q1 fun as ρ2 vs F2 M2 M02 q2 s2 R2 m2 r2 => k (.sh d :: as) ρ2 (v :: vs) F2 M2 M02 q2 (s1.trans s2) R2 (m1.trans m2) ⟨v, vs, rfl, r1.up s2, r2⟩⟩
variable {k : Nat} {f : Addr} {fd : FuncData} {ps : List Str} {x : Str} {p : Pos} {wf : WFg}
theorem dx_callC (js js' : List Nat) (G : FnOk X.prog X.w X.K X.mg X.base CX0 k f fd ps (spG (cy X) wf)) (hr : Room k X.A) (hg : Gl X x) (hm : X.mg x = some (.ref f)) (hk : PySem.W.keepIn X.K (.ref f) = true) (hb : Binds X.K fd ps [])
    (ha : DXAs X (e :: es) t wa) (hdb : (x == ("__debug__" : Str)) = false := by decide) (he : starEach (e :: es) X.env = (false, eval e X.env) :: starEach es X.env := by rfl) (hpl : (backTo pos (starEach es X.env)).any (·.1) = false := by rfl) :
    DX X (.Call (.Name x p) (e :: es) [] pos) (tCall (spG (cy X) wf) [] E0 t) (wCallC js js' wf wa) := ⟨pe_call G hr hg hm hk hb .nil pass0 ha.pe hdb he hpl, snx_callC ha.sn⟩
theorem dx_callCE (G : FnOk X.prog X.w X.K X.mg X.base CX0 k f fd ps (spG (cy X) wf)) (hr : Room k X.A) (hg : Gl X x) (hm : X.mg x = some (.ref f)) (hk : PySem.W.keepIn X.K (.ref f) = true) (hb : Binds X.K fd ps [])
    (ha : DXAs X (e :: es) t wa) (hdb : (x == ("__debug__" : Str)) = false := by decide) (he : starEach (e :: es) X.env = (false, eval e X.env) :: starEach es X.env := by rfl) (hpl : (backTo pos (starEach es X.env)).any (·.1) = false := by rfl) :
    DX X (.Call (.Name x p) (e :: es) [] pos) (tCall (spG (cy X) wf) [] E0 t) (wCallCE wf wa) := ⟨pe_call G hr hg hm hk hb .nil pass0 ha.pe hdb he hpl, snx_callCE ha.sn⟩
theorem dx_callCGE (G : FnG X.prog X.w X.K X.mg X.base k f fd ps (spG (cy X) wf)) (hr : Room k X.A) (hgd : X.A.guards = some []) (hg : Gl X x) (hm : X.mg x = some (.ref f)) (hk : PySem.W.keepIn X.K (.ref f) = true) (hb : Binds X.K fd ps [])
    (ha : DXAs X (e :: es) t wa) (hdb : (x == ("__debug__" : Str)) = false := by decide) (he : starEach (e :: es) X.env = (false, eval e X.env) :: starEach es X.env := by rfl) (hpl : (backTo pos (starEach es X.env)).any (·.1) = false := by rfl) :
    DX X (.Call (.Name x p) (e :: es) [] pos) (tCall (spG (cy X) wf) [] E0 t) (wCallCE wf wa) := ⟨peG_call G hr hgd hg hm hk hb ha.pe hdb he hpl, snx_callCE ha.sn⟩
end
end DL
namespace DL
open PySem PySem.Spec PyProof.Rows L2
def slOf : D → Sl
  | .lst ds => .ol ds
  | .dk ks ds => .ok ks ds
  | .dt ks ds => .ot ks ds
  | .ins n fs ds => .oi n fs ds
  | _ => .no
def isCell : D → Prop
  | .lst _ => True
  | .dk _ _ => True
  | .dt _ _ => True
  | .ins _ _ _ => True
  | _ => False
theorem slOf_obD : ∀ {sl : Sl}, isShal sl → slOf (obD sl) = sl
  | .ol _, _ => rfl
  | .ok _ _, _ => rfl
  | .ot _ _, _ => rfl
  | .oi _ _ _, _ => rfl
section
variable {c : Cy} {F : Hp} {a : Addr}
theorem cell_of {d : D} {Mo : Hp} (hc : isCell d) (h : OTR c F (shT d) (.ref a) Mo) : ∃ o, Mo = upd emp a o ∧ ObR c F (slOf d) o ∧ F a = none := by
  cases d with
  | lst ds =>
    simp only [shT, OTR] at h
    obtain ⟨l, vs, M1, e, r1, f1, m1, rfl⟩ := h
    cases e
    obtain ⟨r2, rfl⟩ := OTRL.unsh r1
    exact ⟨_, rfl, ⟨vs, rfl, r2⟩, f1⟩
  | dk ks ds =>
    simp only [shT, OTR] at h
    obtain ⟨l, ps, M1, e, e1, r1, f1, m1, rfl⟩ := h
    cases e
    obtain ⟨r2, rfl⟩ := OTRL.unsh r1
    exact ⟨_, rfl, ⟨ps, rfl, e1, r2⟩, f1⟩
  | dt ks ds =>
    simp only [shT, OTR] at h
    obtain ⟨l, ps, M1, e, e1, r1, f1, m1, rfl⟩ := h
    cases e
    obtain ⟨r2, rfl⟩ := OTRL.unsh r1
    exact ⟨_, rfl, ⟨ps, rfl, e1, r2⟩, f1⟩
  | ins n fs ds =>
    simp only [shT, OTR] at h
    obtain ⟨l, C, dx, ps, M1, e, hg, e1, r1, f1, m1, rfl⟩ := h
    cases e
    obtain ⟨r2, rfl⟩ := OTRL.unsh r1
    exact ⟨_, rfl, ⟨C, dx, ps, rfl, hg, e1, r2⟩, f1⟩
  | _ => exact hc.elim
theorem cell_mk {d : D} {o : HO} (h : ObR c F (slOf d) o) (f : F a = none) : OTR c F (shT d) (.ref a) (upd emp a o) := by
  cases d with
  | lst ds =>
    obtain ⟨vs, rfl, r⟩ := h
    simp only [shT, OTR]
    exact ⟨a, vs, emp, rfl, OTRL.shs r, f, rfl, rfl⟩
  | dk ks ds =>
    obtain ⟨ps, rfl, k, r⟩ := h
    simp only [shT, OTR]
    exact ⟨a, ps, emp, rfl, k, OTRL.shs r, f, rfl, rfl⟩
  | dt ks ds =>
    obtain ⟨ps, rfl, k, r⟩ := h
    simp only [shT, OTR]
    exact ⟨a, ps, emp, rfl, k, OTRL.shs r, f, rfl, rfl⟩
  | ins n fs ds =>
    obtain ⟨C, dx, ps, rfl, g, k, r⟩ := h
    simp only [shT, OTR]
    exact ⟨a, C, dx, ps, emp, rfl, g, k, OTRL.shs r, f, rfl, rfl⟩
  | _ => exact h.elim
theorem hh_one1 {M : Hp} {a : Addr} {o : HO} : HH M (upd emp a o) = upd M a o := by rw [← hh_updM, hh_emp]
theorem dj_one {M : Hp} {a : Addr} {o : HO} (h : M a = none) : Dj M (upd emp a o) := fun x u q => by
  by_cases e : x = a
  · rw [e]; exact h
  · rw [upd_ne e] at q; cases q
end
section
variable {c : Cy} {b : Option Addr} {F M M0 : Hp} {ρ : List Sl} {σ : L2.St} {g : Nat} {a : Addr} {d : D}
/-- a cell's object -/
theorem RelE.cell (R : RelE c b F M0 ρ σ M) (e : ρ[g]? = some (.gh a d)) (hc : isCell d) : ∃ o M', ObR c F (slOf d) o ∧ F a = none ∧ M' a = none ∧ M = upd M' a o ∧ M0 a = none ∧
    ∀ (d' : D) (o' : HO), ObR c F (slOf d') o' → RelE c b F M0 (ρ.set g (.gh a d')) σ (upd M' a o') := by
  obtain ⟨Mo, M', h2, h3, h4, h5, h6, h7⟩ := R.ghT e
  obtain ⟨o, rfl, ho, f⟩ := cell_of hc h2
  have m : M' a = none := h3 a o upd_same
  refine ⟨o, M', ho, f, m, by rw [h4, hh_one1], ?_, fun d' o' h' => ?_⟩
  · cases z : M0 a with
    | none => rfl
    | some u => rw [h5 a u z] at m; cases m
  · rw [← hh_one1]
    exact h7 d' _ (cell_mk h' f) (dj_one m)
/-- a new cell -/
theorem RelE.newCell {o : HO} (R : RelE c b F M0 ρ σ M) (e : ρ[g]? = some .no) (f : F a = none) (m : M a = none) (h : ObR c F (slOf d) o) : RelE c b F M0 (ρ.set g (.gh a d)) σ (upd M a o) := by
  rw [← hh_one1]
  exact RelE.setGh (cell_mk h f) R (dj_one m) e (fun z => z)
end
variable [Lk]
theorem Rel.cell {c : Cy} {b : Option Addr} {F M M0 : Hp} {ρ : List Sl} {σ : L2.St} {g : Nat} {a : Addr} {d : D} (R : Rel c b ρ σ F M M0) (e : ρ[g]? = some (.gh a d)) (hc : isCell d) : ∃ o, ObR c F (slOf d) o ∧ HH F M a = some o ∧ b ≠ some a ∧
    ∀ (d' : D) (o' : HO), ObR c F (slOf d') o' → Rel c b (ρ.set g (.gh a d')) σ F (upd M a o') M0 := by
  obtain ⟨o, M', ho, f, m, rfl, m0, hs⟩ := R.env.cell e hc
  refine ⟨o, ho, hh_m upd_same, fun z => ?_, fun d' o' h' => ⟨fun x u q => ?_, by rw [upd_upd]; exact hs d' o' h', R.box, R.lk⟩⟩
  · obtain ⟨_, _, _, h1, _⟩ := R.box a z
    rw [m0] at h1; cases h1
  · by_cases z : x = a
    · rw [z]; exact f
    · rw [upd_ne z] at q; exact R.dj x u q
theorem cell_rk {c : Cy} {b : Option Addr} {F M : Hp} {a : Addr} {d : D} {o : HO} (ho : ObR c F (slOf d) o) (hH : HH F M a = some o) (nb : b ≠ some a) : Rk c b F M (.ref a) d := by
  cases d with
  | lst ds => obtain ⟨vs, rfl, r⟩ := ho; exact ⟨a, vs, rfl, nb, hH, r⟩
  | dk ks ds => obtain ⟨ps, rfl, k, r⟩ := ho; exact ⟨a, ps, rfl, nb, .inl hH, k, r⟩
  | dt ks ds => obtain ⟨ps, rfl, k, r⟩ := ho; exact ⟨a, ps, rfl, nb, .inl hH, k, r⟩
  | ins n fs ds => obtain ⟨C, dx, ps, rfl, g, k, r⟩ := ho; exact ⟨a, C, dx, ps, rfl, nb, hH, g, k, r⟩
  | _ => exact ho.elim
theorem Dr.ad_of {c : Cy} {F : Hp} {v : V} {a : Addr} (h : Dr c F v (.ad a)) : v = .ref a := by simpa only [Dr] using h
theorem Dr.of_ad {c : Cy} {F : Hp} {a : Addr} : Dr c F (.ref a) (.ad a) := by simp only [Dr]
section
variable {X : Cx} {e ev : Expr} {te tv : TE} {w wv : WE} {pos : Pos}
def wDer (g : Nat) (w : WE) : WE := fun ρ Q => w ρ fun d ρ1 => ∃ (a : Addr) (d' : D), d = .ad a ∧ ρ1[g]? = some (.gh a d') ∧ isCell d' ∧ Q d' ρ1
theorem dp_der (g : Nat) (he : DE X e te w) : DP X e te (wDer g w) := ⟨he.pe, fun {b ρ σ F M M0} R Qd Q hw k => by
  refine he.sn R _ _ hw fun d ρ1 v F1 M1 M01 q A r => ?_
  obtain ⟨a, d', rfl, e1, hc, q⟩ := q
  obtain ⟨o, ho, hH, nb, _⟩ := A.rel.cell e1 hc
  rw [r.ad_of]
  exact k d' ρ1 _ F1 M1 M01 q A (cell_rk ho hH nb)⟩
/-- .. the slot is found while the proof goes on -/
def wDerE (w : WE) : WE := fun ρ Q => w ρ fun d ρ1 => ∃ (g : Nat) (a : Addr) (d' : D), d = .ad a ∧ ρ1[g]? = some (.gh a d') ∧ isCell d' ∧ Q d' ρ1
theorem zd {w : WE} {ρ : List Sl} {Q : D → List Sl → Prop} : wDerE w ρ Q = w ρ fun d ρ1 => ∃ (g : Nat) (a : Addr) (d' : D), d = .ad a ∧ ρ1[g]? = some (.gh a d') ∧ isCell d' ∧ Q d' ρ1 := rfl
theorem dp_derE (he : DE X e te w) : DP X e te (wDerE w) := ⟨he.pe, fun {b ρ σ F M M0} R Qd Q hw k => by
  refine he.sn R _ _ hw fun d ρ1 v F1 M1 M01 q A r => ?_
  obtain ⟨g, a, d', rfl, e1, hc, q⟩ := q
  obtain ⟨o, ho, hH, nb, _⟩ := A.rel.cell e1 hc
  rw [r.ad_of]
  exact k d' ρ1 _ F1 M1 M01 q A (cell_rk ho hH nb)⟩
def wNew (g : Nat) (wf : List Sl → (Sl → List Sl → Prop) → Prop) : WE := fun ρ Q => wf ρ fun sl ρ1 => ρ1[g]? = some .no ∧ ∀ a, Q (.ad a) (ρ1.set g (.gh a (obD sl)))
theorem zn {g : Nat} {wf : List Sl → (Sl → List Sl → Prop) → Prop} {ρ : List Sl} {Q : D → List Sl → Prop} : wNew g wf ρ Q = wf ρ fun sl ρ1 => ρ1[g]? = some .no ∧ ∀ a, Q (.ad a) (ρ1.set g (.gh a (obD sl))) := rfl
theorem de_new (g : Nat) {wf : List Sl → (Sl → List Sl → Prop) → Prop} (h : DF X e te wf) : DE X e te (wNew g wf) := ⟨h.pe, fun {b ρ σ F M M0} R Qd Q hw k => by
  refine h.sn R _ _ hw fun sl ρ1 a o F1 M1 M01 q A hs r f m => ?_
  have t : RelE (cy X) b F1 M01 (ρ1.set g (.gh a (obD sl))) σ (upd M1 a o) := A.rel.env.newCell q.1 f m (by rw [slOf_obD hs]; exact r)
  refine k _ _ _ F1 _ M01 (q.2 a) (A.trans ⟨Same.refl _, fun x u nx z => ?_, ⟨A.rel.dj.updM f, t, A.rel.box, A.rel.lk⟩, MR.refl _ _⟩) .of_ad
  have ne : x ≠ a := fun e => by rw [e, hh_n m, f] at z; cases z
  rw [← hh_updM, upd_ne ne]; exact z⟩
def wAppC (g : Nat) (w wv : WE) : WS := fun ρ E => w ρ fun d ρ1 => ∃ a, d = .ad a ∧ (∃ ds, ρ1[g]? = some (.gh a (.lst ds))) ∧ wv ρ1 fun d2 ρ2 => ∃ ds, ρ2[g]? = some (.gh a (.lst ds)) ∧ ds.length < sizeLine ∧ E.nx (ρ2.set g (.gh a (.lst (ds ++ [d2]))))
theorem ds_appC (g : Nat) {apos cpos spos : Pos} (he : DE X e te w) (hv : DX X ev tv wv)
    (hbase : attributeBase e "append" X.env (eval e X.env) = eval e X.env := by rfl)
    (hfew : ((backTo cpos (starEach (ev :: []) X.env)).all (fun x => !x.1) && (backToKw cpos (keywordEach [] X.env)).all (fun x => x.1.isSome)
      && decide ((ev :: []).length + ([] : List Keyword).length + (if ([] : List Keyword).isEmpty then 0 else 1) < 30)) = true := by rfl)
    (hline : (apos.endLine == cpos.line) = true := by rfl) (hs : starEach (ev :: []) X.env = (false, eval ev X.env) :: starEach [] X.env := by rfl) (hplain : (backTo cpos (starEach [] X.env)).any (·.1) = false := by rfl)
    (hsw : swapsWith (.Call (.Attribute e "append" apos) [ev] [] cpos) none spos.line X.env = pure false := by rfl) :
    DS X (.Expr (.Call (.Attribute e "append" apos) [ev] [] cpos) spos) (tDrop (tBM X.K "list" rAppend te (tCons tv tNil))) (wAppC g w wv) :=
  ⟨ps_expr (pe_bm PySem.F.plainAttrs_list PySem.F.slot_list_append PySem.F.type_list_append mt_append he.pe (pa_cons hv.pe pa_nil hs) hbase hfew hline hs hplain) hsw, fun {b ρ σ F M M0} R E Dn hw fin => by
    refine he.sn R _ _ hw fun d ρ1 v F1 M1 M01 q A r => ?_
    obtain ⟨a, rfl, ⟨ds0, e1⟩, q⟩ := q
    obtain ⟨o, ⟨vs0, rfl, _⟩, hH, nb, _⟩ := A.rel.cell e1 trivial
    rw [r.ad_of]
    refine ⟨.inl ⟨rfl, vs0, SqL.of hH⟩, ?_⟩
    refine hv.sn A.rel _ _ q fun d2 ρ2 v2 F2 M2 M02 q2 s2 R2 m2 r2 => ?_
    obtain ⟨ds, e2, hz, q2⟩ := q2
    obtain ⟨o, ⟨vs, rfl, rl⟩, hH, nb, hset⟩ := R2.cell e2 trivial
    refine ⟨a, vs, v2, rfl, rfl, hH, by rw [rl.length]; exact hz, ?_⟩
    rw [hh_updM]
    exact fin.nx _ _ F2 _ M02 q2 (A.same.trans s2) (hset (.lst (ds ++ [d2])) (.lst (vs ++ [v2])) ⟨_, rfl, rl.append (.cons r2 .nil)⟩) (A.mr.trans m2)⟩
def wPopC (g : Nat) (w : WE) : WE := fun ρ Q => w ρ fun d ρ1 => ∃ a ds d2, d = .ad a ∧ ρ1[g]? = some (.gh a (.lst ds)) ∧ ds.getLast? = some d2 ∧ Q d2 (ρ1.set g (.gh a (.lst ds.dropLast)))
theorem DrL.dropLast {c : Cy} {F : Hp} {ds : List D} {vs : List V} (h : DrL c F vs ds) : DrL c F vs.dropLast ds.dropLast := by
  rw [List.dropLast_eq_take, List.dropLast_eq_take, h.length]
  exact h.take _
theorem dx_popC (g : Nat) {apos cpos : Pos} (he : DE X e te w) (hbase : attributeBase e "pop" X.env (eval e X.env) = eval e X.env := by rfl) (hline : (apos.endLine == cpos.line) = true := by rfl) :
    DX X (.Call (.Attribute e "pop" apos) [] [] cpos) (tBM0 X.K "list" rPop te) (wPopC g w) :=
  ⟨pe_bm0 PySem.F.plainAttrs_list PySem.F.slot_list_pop PySem.F.type_list_pop mt_pop he.pe hbase hline, fun {b ρ σ F M M0} R Qd Q hw k => by
    refine he.sn R _ _ hw fun d ρ1 v F1 M1 M01 q A r => ?_
    obtain ⟨a, ds, d2, rfl, e1, el, q⟩ := q
    obtain ⟨o, ⟨vs, rfl, rl⟩, hH, nb, hset⟩ := A.rel.cell e1 trivial
    rw [r.ad_of]
    rw [List.getLast?_eq_getElem?] at el
    obtain ⟨y, hy, ry⟩ := rl.get el
    refine ⟨.inl ⟨rfl, vs, SqL.of hH⟩, a, vs, y, rfl, rfl, hH, by rw [rl.length]; exact hy, ?_⟩
    rw [hh_updM]
    exact k _ _ _ F1 _ M01 q A.same (hset (.lst ds.dropLast) (.lst vs.dropLast) ⟨_, rfl, rl.dropLast⟩) A.mr ry⟩
end
def fldF : List Str → Str → List Str
  | [], f => [f]
  | g :: fs, f => if g = f then g :: fs else g :: fldF fs f
def fldD : List Str → List D → Str → D → List D
  | g :: fs, d :: ds, f, y => if g = f then y :: ds else d :: fldD fs ds f y
  | _, ds, _, y => ds ++ [y]
theorem putF_A {c : Cy} {F : Hp} {f : Str} {v : V} {d : D} (r : Dr c F v d) : ∀ {ps : List (Str × V)} {ds : List D}, DrL c F (ps.map (·.2)) ds → (putF f v ps).map (·.1) = fldF (ps.map (·.1)) f ∧ DrL c F ((putF f v ps).map (·.2)) (fldD (ps.map (·.1)) ds f d)
  | [], ds, h => by
    rw [show ds = [] by cases ds with | nil => rfl | cons x y => obtain ⟨_, _, e, _⟩ := h.cons_iff; cases e]
    exact ⟨rfl, .cons r .nil⟩
  | (g, u) :: ps, [], h => by have := h.nil_iff; simp at this
  | (g, u) :: ps, d0 :: ds, h => by
    obtain ⟨u', vr, e, q, t⟩ := h.cons_iff
    simp only [List.map_cons] at e
    cases e
    have ih := putF_A (f := f) r t
    unfold putF
    simp only [List.map_cons, fldF, fldD]
    by_cases z : g = f
    · rw [if_pos z, if_pos z, if_pos z]
      exact ⟨by first | rfl | (subst z; rfl), .cons r t⟩
    · rw [if_neg z, if_neg z, if_neg z]
      exact ⟨by rw [List.map_cons, ih.1], .cons q ih.2⟩
section
variable {X : Cx} {e ev : Expr} {te tv : TE} {w wv : WE} {pos : Pos}
def wSetC (g : Nat) (n f : Str) (w wv : WE) : WS := fun ρ E => wv ρ fun d ρ1 => w ρ1 fun d1 ρ2 => ∃ a fs ds, d1 = .ad a ∧ ρ2[g]? = some (.gh a (.ins n fs ds)) ∧ fs.length < 1000 ∧ E.nx (ρ2.set g (.gh a (.ins n (fldF fs f) (fldD fs ds f d))))
theorem ds_setC (g : Nat) {n f : Str} {C : Addr} {pos' : Pos} (hm : X.mg n = some (.ref C)) (hc : Cls X.K C) (hn : NoAttr X.K C f) (he : DE X e te w) (hv : DX X ev tv wv)
    (hs : swapsWith ev (some (.Attribute e f pos')) pos.line X.env = pure false := by rfl) : DS X (.Assign [.Attribute e f pos'] ev pos) (sFld X.K te tv f) (wSetC g n f w wv) :=
  ⟨ps_fld he.pe hv.pe hs, fun {b ρ σ F M M0} R E Dn hw fin => by
    refine hv.sn R _ _ hw fun d ρ1 y F1 M1 M01 q s1 R1 m1 r => ?_
    refine he.sn R1 _ _ q fun d1 ρ2 y1 F2 M2 M02 q A r1 => ?_
    obtain ⟨a, fs, ds, rfl, e1, hl, q⟩ := q
    obtain ⟨o, ⟨C', dx, ps, rfl, hg, rfl, rl⟩, hH, nb, hset⟩ := A.rel.cell e1 trivial
    have eC := cls_eq hm hg
    subst eC
    rw [r1.ad_of]
    refine ⟨a, C', dx, ps, rfl, hH, hc, hn, by rw [← List.length_map (f := (·.1))]; exact hl, ?_⟩
    rw [hh_updM]
    have pa := putF_A (f := f) (r.up A.same) rl
    exact fin.nx _ σ F2 _ M02 q (s1.trans A.same) (hset (.ins n _ _) _ ⟨C', dx, _, rfl, hg, pa.1, pa.2⟩) (m1.trans A.mr)⟩
end
def wMakeC (n : Str) (js js' : List Nat) (wf : WFg) (wa : WAs) : WE := fun ρ Q => wa ρ fun as ρ1 => pickK js ρ1 fun gs ρ2 => ∀ x, wf (.sh (.ad x) :: as) ((x, .ins n [] []) :: gs) fun r gs' => r = .non ∧ putK js' gs' ρ2 fun ρ3 => Q (.ad x) ρ3
theorem zk {n : Str} {js js' : List Nat} {wf : WFg} {wa : WAs} {ρ : List Sl} {Q : D → List Sl → Prop} : wMakeC n js js' wf wa ρ Q = wa ρ fun as ρ1 => pickK js ρ1 fun gs ρ2 => ∀ x, wf (.sh (.ad x) :: as) ((x, .ins n [] []) :: gs) fun r gs' => r = .non ∧ putK js' gs' ρ2 fun ρ3 => Q (.ad x) ρ3 := rfl
section
variable {c : Cy} {t : TA} {wa : WAs} {wf : WFg} {js js' : List Nat}
theorem snx_makeC {E : XK} {n : Str} {C : Addr} (hm : c.mg n = some (.ref C)) (ha : Snasx c t wa) : Sndx c (tMake C (spG c wf) [] E t) (wMakeC n js js' wf wa) := fun {b ρ σ F M M0} R Qd Q hw k => by
  refine ha R _ _ hw fun as ρ1 vs F1 M1 M01 q s1 R1 m1 ar => ?_
  intro x dx hx hdx ne
  rw [List.append_nil]
  obtain ⟨gs, ρ2, M2, C0, hk, R2, ch, dm, rfl⟩ := pick_ok js R1.env q
  obtain ⟨fx, mx⟩ := hh_none hx
  obtain ⟨fdx, mdx⟩ := hh_none hdx
  have sF : Same F1 (upd F1 dx (.own x)) := Same.updF fdx
  have dj1 : Dj (upd F1 dx (.own x)) (HH M2 C0) := R1.dj.updF mdx
  have eH : upd (upd (HH F1 (HH M2 C0)) dx (.own x)) x (.ins C dx []) = HH (upd F1 dx (.own x)) (HH M2 (upd C0 x (.ins C dx []))) := by rw [hh_updF mdx, hh_updM, hh_updM]
  have fx' : (upd F1 dx (.own x)) x = none := by rw [upd_ne (fun z => ne z.symm)]; exact fx
  have dm' : Dj M2 (upd C0 x (.ins C dx [])) := dm.updM (hh_none mx).1
  have dj2 : Dj (upd F1 dx (.own x)) (HH M2 (upd C0 x (.ins C dx []))) := by rw [← hh_updM]; exact dj1.updM fx'
  have ch2 : CH c (upd F1 dx (.own x)) ((x, .ins n [] []) :: gs) (upd C0 x (.ins C dx [])) := by
    refine ⟨upd emp x (.ins C dx []), C0, cell_mk (d := .ins n [] []) ⟨C, dx, [], rfl, hm, rfl, .nil⟩ fx', CH.leD (.of sF) (fun a o z y => ?_) ch, dj_one (hh_none mx).2, hh_one1.symm⟩
    rw [upd_ne fun e => by rw [← e, hh_m z] at mdx; cases mdx]; exact y
  have R2' : Rel c b ρ2 σ F1 M2 M01 := ⟨fun y o z => R1.dj y o (dm.f z), R2, R1.box, R1.lk⟩
  refine ⟨b, upd F1 dx (.own x), M2, upd C0 x (.ins C dx []), .sh (.ad x) :: as, (x, .ins n [] []) :: gs, _, eH, dj2, dm', ⟨fun a z => ?_, R2.nt⟩, ⟨.ref x, vs, rfl, .of_ad, ar.up sF⟩, ch2, hk x, fun d v gs' F' M' C' q s dj dmm bx mr ch' r => ?_⟩
  · obtain ⟨da, ns, n, h1, h2, h3⟩ := R1.box a z
    exact ⟨da, ns, n, R2.sub _ _ h1, sF _ _ h2, h3⟩
  · obtain ⟨rfl, q⟩ := q
    refine ⟨r.non_of, ?_⟩
    obtain ⟨M0', A2⟩ := R2'.after (sF.trans s) (fun y o z => dj y o (dmm.f z)) bx mr
    obtain ⟨ρ3, q3, R3⟩ := put_ok js' gs' A2.rel.env ch' dmm q
    exact k _ ρ3 _ F' _ M0' q3 (s1.trans (sF.trans s)) ⟨dj, R3, A2.rel.box, A2.rel.lk⟩ (m1.trans A2.mr) .of_ad
end
section
variable {X : Cx} {o e : Expr} {es : List Expr} {te : TE} {t : TA} {w : WE} {wa : WAs} {p pos apos : Pos} {k : Nat} {f C : Addr} {fd : FuncData} {ps : List Str} {n m : Str} {wf : WFg}
theorem dx_makeC (js js' : List Nat) (Mm : Mk X.K C f) (G : FnOk X.prog X.w X.K X.mg X.base CX0 k f fd ps (spG (cy X) wf)) (hr : Room (k + 1) X.A) (hg : Gl X n) (hm : X.mg n = some (.ref C)) (hb : Binds X.K fd ps []) (ha : DXAs X (e :: es) t wa)
    (hdb : (n == ("__debug__" : Str)) = false := by decide) (he : starEach (e :: es) X.env = (false, eval e X.env) :: starEach es X.env := by rfl) (hpl : (backTo pos (starEach es X.env)).any (·.1) = false := by rfl) :
    DX X (.Call (.Name n p) (e :: es) [] pos) (tMake C (spG (cy X) wf) [] E0 t) (wMakeC n js js' wf wa) := ⟨pe_make Mm G hr hg hm hb .nil pass0 ha.pe hdb he hpl, snx_makeC hm ha.sn⟩
def wMethC (g : Nat) (n m : Str) (js js' : List Nat) (wf : WFg) (w : WE) (wa : WAs) : WE := fun ρ Q => w ρ fun d ρ1 => ∃ a, d = .ad a ∧ (∃ fs ds, ρ1[g]? = some (.gh a (.ins n fs ds)) ∧ m ∉ fs) ∧ wa ρ1 fun as ρ2 => pickK js ρ2 fun gs ρ3 => wf (.sh (.ad a) :: as) gs fun d gs' => putK js' gs' ρ3 fun ρ4 => Q d ρ4
theorem wMethC_e {g : Nat} {n m : Str} {js js' : List Nat} {wf : WFg} {w : WE} {wa : WAs} {ρ : List Sl} {Q : D → List Sl → Prop} : wMethC g n m js js' wf w wa ρ Q = w ρ fun d ρ1 => ∃ a, d = .ad a ∧ (∃ fs ds, ρ1[g]? = some (.gh a (.ins n fs ds)) ∧ m ∉ fs) ∧ wa ρ1 fun as ρ2 => pickK js ρ2 fun gs ρ3 => wf (.sh (.ad a) :: as) gs fun d gs' => putK js' gs' ρ3 fun ρ4 => Q d ρ4 := rfl
def wMethCE (n m : Str) (wf : WFg) (w : WE) (wa : WAs) : WE := fun ρ Q => ∃ g js js', wMethC g n m js js' wf w wa ρ Q
theorem wMethCE_e {n m : Str} {wf : WFg} {w : WE} {wa : WAs} {ρ : List Sl} {Q : D → List Sl → Prop} : wMethCE n m wf w wa ρ Q = ∃ g js js', wMethC g n m js js' wf w wa ρ Q := rfl
theorem snx_methC {E : XK} {g : Nat} {js js' : List Nat} {c : Cy} (hm : c.mg n = some (.ref C)) (he : Snd c te w) (ha : Snasx c t wa) : Sndx c (tMeth C m (spG c wf) [] E te t) (wMethC g n m js js' wf w wa) := fun {b ρ σ F M M0} R Qd Q hw kk => by
  refine he R _ _ hw fun d ρ1 v F1 M1 M01 q A r => ?_
  obtain ⟨a, rfl, ⟨fs, ds, e1, hno⟩, q⟩ := q
  obtain ⟨o, ⟨C', dx, ps, rfl, hg, rfl, rl⟩, hH, nb, _⟩ := A.rel.cell e1 trivial
  have eC : C' = C := by rw [hm] at hg; cases hg; rfl
  subst eC
  rw [r.ad_of]
  refine ⟨a, dx, ps, rfl, hH, lookup_no hno, ?_⟩
  refine ha A.rel _ _ q fun as ρ2 vs F2 M2 M02 q2 s2 R2 m2 ar => ?_
  rw [List.append_nil]
  exact lend_C (as := .sh (.ad a) :: as) (js := js) (js' := js') (A.same.trans s2) R2 (A.mr.trans m2) ⟨.ref a, vs, rfl, .of_ad, ar⟩ q2 kk
theorem dx_methC0 (g : Nat) (js js' : List Nat) {pl : Sem Bool} (G : FnOk X.prog X.w X.K X.mg X.base CX0 k f fd ps (spG (cy X) wf)) (hr : Room k X.A) (hm : X.mg n = some (.ref C)) (hc : Cls X.K C) (hme : Meth X.K C m f) (hb : Binds X.K fd ps []) (ho : DE X o te w)
    (ht : eval (.Call (.Attribute o m apos) [] [] pos) X.env = (do
      let ov ← eval o X.env
      standAt apos.atName
      let (f, first) ← holding [ov] (getMethod ov m pl)
      callWith pos f first (backTo pos (starEach [] X.env)) (backToKw pos (keywordEach [] X.env))) := by rfl) :
    DX X (.Call (.Attribute o m apos) [] [] pos) (tMeth C m (spG (cy X) wf) [] E0 te tNil) (wMethC g n m js js' wf w asNil) :=
  ⟨pe_meth0 ho.pe hc hme G hr hb .nil pass0 ht, snx_methC hm ho.sn dxa_nil.sn⟩
theorem DX.methCE {E : XK} {g : Nat → List Nat → List Nat → WE} {e : Expr} {te : TE} (h : ∀ a b c, DX X e te (g a b c)) : DX X e te (fun ρ Q => ∃ a b c, g a b c ρ Q) := ⟨(h 0 [] []).pe, fun {b ρ σ F M M0} R Qd Q hw k => by
  obtain ⟨a, b, c, hw⟩ := hw
  exact (h a b c).sn R Qd Q hw k⟩
end
end DL
namespace DL
open PySem PySem.Spec PyProof.Rows L2
variable [Lk]
def Sntx (c : Cy) (tt : TT) (w : WT) : Prop := ∀ {b : Option Addr} {ρ : List Sl} {σ : L2.St} {F M M0 : Hp}, Rel c b ρ σ F M M0 → ∀ (Qd : Bool → List Sl → Prop) (Q : Bool → Hp → Prop), w ρ Qd →
  (∀ k ρ' F' M' M0', Qd k ρ' → Same F F' → Rel c b ρ' σ F' M' M0' → MR b M0 M0' → Q k (HH F' M')) → tt σ (HH F M) Q
structure DTX (X : Cx) (e : Expr) (tt : TT) (w : WT) : Prop where
  pe : PT X e tt
  sn : Sntx (cy X) tt w
section
variable {X : Cx} {e a b' : Expr} {te ta tb : TE} {w wa wb : WE} {pos : Pos} {tA tB' : TT} {wA wB : WT} {rest : List Expr} {t u : TS} {wt wu : WS}
theorem dtx_val (h : DX X e te w) (he : ∀ whole, isTrue e X.env whole = (do let v ← whole; standAt e.pos; holding [v] (truthy v)) := by intro _; rfl) : DTX X e (tB te) (wTst w) := ⟨pt_val h.pe he, fun {b ρ σ F M M0} R Qd Q hw k => by
  refine h.sn R _ _ hw fun d ρ' v F' M' M0' q s R' m r => ?_
  cases d with
  | bl j => simp only [Dr] at r; exact ⟨j, r, k j ρ' F' M' M0' q s R' m⟩
  | _ => exact q.elim⟩
theorem dtx_not (ha : DTX X a tA wA) : DTX X (.UnaryOp .Not a pos) (tNot tA) (wNot wA) := ⟨pt_not ha.pe, fun {b ρ σ F M M0} R Qd Q hw k => ha.sn R _ _ hw fun j ρ1 F1 M1 M01 q1 s R' m => k _ ρ1 F1 M1 M01 q1 s R' m⟩
theorem dsx_if {c : Expr} {a b : List Stmt} {tc : TT} {wc : WT} (hc : DTX X c tc wc) (ha : DSs X a t wt) (hb : DSs X b u wu) : DS X (.If c a b pos) (tIfS tc t u) (wIf wc wt wu) := ⟨ps_if hc.pe ha.ps hb.ps, fun {b ρ σ F M M0} R E Dn hw f => by
  refine hc.sn R _ _ hw fun k ρ1 F1 M1 M01 q s R1 m => ?_
  cases k with
  | true =>
    rw [if_pos rfl]
    exact ha.sn R1 E Dn q (f.on s m)
  | false =>
    rw [if_neg Bool.false_ne_true]
    exact hb.sn R1 E Dn q (f.on s m)⟩
theorem dx_one {op} (h : DX X a ta wa) : DX X (.BoolOp op [a] pos) ta wa := ⟨pe_one h.pe, h.sn⟩
theorem dx_and (ha : DX X a ta wa) (hb : DX X (.BoolOp .And (b' :: rest) pos) tb wb) : DX X (.BoolOp .And (a :: b' :: rest) pos) (tAndV ta tb) (wAndV wa wb) := ⟨pe_and ha.pe hb.pe, fun {b ρ σ F M M0} R Qd Q hw k => by
  refine ha.sn R _ _ hw fun d ρ1 v F1 M1 M01 q1 s1 R1 m1 r => ?_
  cases d with
  | bl j =>
    simp only [Dr] at r
    refine ⟨j, r, ?_⟩
    cases j with
    | true =>
      rw [if_pos rfl]
      exact hb.sn R1 _ _ q1 fun d ρ2 v F2 M2 M02 q2 s2 R2 m2 r2 => k d ρ2 v F2 M2 M02 q2 (s1.trans s2) R2 (m1.trans m2) r2
    | false =>
      rw [if_neg Bool.false_ne_true]
      exact k _ _ _ _ _ _ q1 s1 R1 m1 (by simp only [Dr])
  | _ => exact q1.elim⟩
/-- an operation, its left side changes own things -/
theorem snx_op {c : Cy} {r : R2} {wr : D → D → (D → Prop) → Prop} (hr : Rop c r wr) (ha : Sndx c ta wa) (hb : Snp c tb wb) : Sndx c (tOp r ta tb) (wOp wr wa wb) := fun {b ρ σ F M M0} R Qd Q hw k => by
  refine ha R _ _ hw fun d1 ρ1 x F1 M1 M01 q1 s1 R1 m1 r1 => ?_
  refine hb R1 _ _ q1 fun d2 ρ2 y F2 M2 M02 q2 A2 r2 => ?_
  refine hr (b := b) _ _ A2.rel.dj (Rk.of A2.rel.dj (fun a o z => A2.rel.nb z) (r1.up A2.same)) r2 q2 fun d v F3 q s dj nf rv => ?_
  have A3 := A2.trans (A2.rel.grow s dj)
  exact k d ρ2 v F3 M2 M02 q (s1.trans A3.same) A3.rel (m1.trans A3.mr) rv
theorem dx_cmp {op : CmpOp} {r : R2} {wr : D → D → (D → Prop) → Prop} (ho : OpR X (compareOp op) r) (hr : Rop (cy X) r wr) (ha : DX X a ta wa) (hb : DP X b' tb wb) (hm : behindInMarks op b' = false) : DX X (.Compare a [op] [b'] pos) (tOp r ta tb) (wOp wr wa wb) :=
  ⟨pe_cmpR ho ha.pe hb.pe hm, snx_op hr ha.sn hb.sn⟩
end
def Snax (c : Cy) (ta : TA) (w : WA) : Prop := ∀ {b : Option Addr} {ρ : List Sl} {σ : L2.St} {F M M0 : Hp}, Rel c b ρ σ F M M0 → ∀ (Qd : List D → List Sl → Prop) (Q : List V → Hp → Prop), w ρ Qd →
  (∀ ds ρ' vs F' M' M0', Qd ds ρ' → Same F F' → Rel c b ρ' σ F' M' M0' → MR b M0 M0' → DrL c F' vs ds → Q vs (HH F' M')) → ta σ (HH F M) Q
structure DXA (X : Cx) (es : List Expr) (ta : TA) (w : WA) : Prop where
  pe : PA X es ta
  sn : Snax (cy X) ta w
/-- a new own object -/
def Snfx (c : Cy) (te : TE) (w : List Sl → (Sl → List Sl → Prop) → Prop) : Prop := ∀ {b : Option Addr} {ρ : List Sl} {σ : L2.St} {F M M0 : Hp}, Rel c b ρ σ F M M0 → ∀ (Qd : Sl → List Sl → Prop) (Q : VK), w ρ Qd →
  (∀ sl ρ' a o F' M' M0', Qd sl ρ' → Same F F' → Rel c b ρ' σ F' M' M0' → MR b M0 M0' → isShal sl → ObR c F' sl o → F' a = none → M' a = none → Q (.ref a) (HH F' (upd M' a o))) → te σ (HH F M) Q
structure DFX (X : Cx) (e : Expr) (te : TE) (w : List Sl → (Sl → List Sl → Prop) → Prop) : Prop where
  pe : PE X e te
  sn : Snfx (cy X) te w
section
variable {X : Cx} {e : Expr} {es : List Expr} {te : TE} {t : TA} {w : WE} {wt : WA} {pos : Pos} {wf : List Sl → (Sl → List Sl → Prop) → Prop}
theorem dxd_nil : DXA X [] tNil waNil := ⟨pa_nil, fun {b ρ σ F M M0} R Qd Q hw k => k [] ρ [] F M M0 hw (Same.refl _) R (MR.refl _ _) .nil⟩
theorem dxd_cons (ha : DX X e te w) (hr : DXA X es t wt) (hs : starEach (e :: es) X.env = (false, eval e X.env) :: starEach es X.env := by rfl) : DXA X (e :: es) (tCons te t) (waCons w wt) :=
  ⟨pa_cons ha.pe hr.pe hs, fun {b ρ σ F M M0} R Qd Q hw k => by
    refine ha.sn R _ _ hw fun d ρ1 v F1 M1 M01 q1 s1 R1 m1 r1 => ?_
    exact hr.sn R1 _ _ q1 fun ds ρ2 vs F2 M2 M02 q2 s2 R2 m2 r2 => k (d :: ds) ρ2 (v :: vs) F2 M2 M02 q2 (s1.trans s2) R2 (m1.trans m2) (.cons (r1.up s2) r2)⟩
theorem dfx_lst (h : DXA X es t wt) : DFX X (.List es pos) (tLst t) (wfLst wt) := ⟨pe_lst h.pe, fun {b ρ σ F M M0} R Qd Q hw k => by
  refine h.sn R _ _ hw fun ds ρ1 vs F1 M1 M01 q1 s1 R1 m1 r1 => ⟨by rw [r1.length]; exact q1.1, fun p hp => ?_⟩
  obtain ⟨hf, hm⟩ := hh_none hp
  rw [hh_updM]
  exact k (.ol ds) ρ1 p _ F1 M1 M01 q1.2 s1 R1 m1 trivial ⟨vs, rfl, r1⟩ hf hm⟩
theorem DFX.dx (h : DFX X e te wf) : DX X e te (wFz wf) := ⟨h.pe, fun {b ρ σ F M M0} R Qd Q hw k => by
  refine h.sn R _ _ hw fun sl ρ1 a o F1 M1 M01 q1 s1 R1 m1 hs r f m => ?_
  rw [hh_freeze m]
  have s : Same F1 (upd F1 a o) := Same.updF f
  have A := R1.grow s (R1.dj.updF m)
  exact k _ ρ1 _ _ M1 M01 q1 (s1.trans s) A.rel m1 ((r.leD (.of s)).dr upd_same)⟩
theorem dx_new (g : Nat) (h : DFX X e te wf) : DX X e te (wNew g wf) := ⟨h.pe, fun {b ρ σ F M M0} R Qd Q hw k => by
  refine h.sn R _ _ hw fun sl ρ1 a o F1 M1 M01 q s1 R1 m1 hs r f m => ?_
  have t : RelE (cy X) b F1 M01 (ρ1.set g (.gh a (obD sl))) σ (upd M1 a o) := R1.env.newCell q.1 f m (by rw [slOf_obD hs]; exact r)
  exact k _ _ _ F1 _ M01 (q.2 a) s1 ⟨R1.dj.updM f, t, R1.box, R1.lk⟩ m1 .of_ad⟩
end
mutual
/-- addresses give way to what lies there -/
def rsD (ρ : List Sl) : D → D → Prop
  | .ad a, d' => ∃ j : Nat, ρ[j]? = some (.gh a d')
  | .lst ds, d' => ∃ es, d' = .lst es ∧ rsDL ρ ds es
  | .tup ds, d' => ∃ es, d' = .tup es ∧ rsDL ρ ds es
  | d, d' => d' = d
def rsDL (ρ : List Sl) : List D → List D → Prop
  | [], es => es = []
  | d :: ds, es => ∃ e er, es = e :: er ∧ rsD ρ d e ∧ rsDL ρ ds er
end
def rsAs (ρ : List Sl) : List Sl → List Sl → Prop
  | [], as' => as' = []
  | .sh d :: as, as' => ∃ d' r, as' = .sh d' :: r ∧ rsD ρ d d' ∧ rsAs ρ as r
  | _ :: _, _ => False
section
variable {c : Cy} {b : Option Addr} {F M M0 : Hp} {ρ : List Sl} {σ : L2.St}
omit [Lk] in
mutual
theorem rs_ok (R : RelE c b F M0 ρ σ M) (dj : Dj F M) : ∀ (d : D) {d' : D} {v : V}, rsD ρ d d' → Dr c F v d → Dr c (HH F M) v d'
  | .ad a, d', v, h, r => by
    simp only [rsD] at h
    obtain ⟨j, e⟩ := h
    obtain ⟨Mo, M', h2, h3, h4, _⟩ := R.ghT e
    rw [r.ad_of]
    have := OTR.frz (G := HH F M) dj.same (shT d') (fun x o q => hh_m (by rw [h4]; exact hh_m q)) h2
    rwa [otD_shT] at this
  | .lst ds, d', v, h, r => by
    simp only [rsD] at h
    obtain ⟨es, rfl, h⟩ := h
    simp only [Dr] at r ⊢
    obtain ⟨a, vs, e, q, r⟩ := r
    exact ⟨a, vs, e, dj.f q, rsL_ok R dj ds h r⟩
  | .tup ds, d', v, h, r => by
    simp only [rsD] at h
    obtain ⟨es, rfl, h⟩ := h
    simp only [Dr] at r ⊢
    obtain ⟨a, vs, e, q, r⟩ := r
    exact ⟨a, vs, e, dj.f q, rsL_ok R dj ds h r⟩
  | .non, d', v, h, r => by simp only [rsD] at h; subst h; exact r.up dj.same
  | .bl _, d', v, h, r => by simp only [rsD] at h; subst h; exact r.up dj.same
  | .int _, d', v, h, r => by simp only [rsD] at h; subst h; exact r.up dj.same
  | .str _, d', v, h, r => by simp only [rsD] at h; subst h; exact r.up dj.same
  | .emt, d', v, h, r => by simp only [rsD] at h; subst h; exact r.up dj.same
  | .fn _, d', v, h, r => by simp only [rsD] at h; subst h; exact r.up dj.same
  | .scr _, d', v, h, r => by simp only [rsD] at h; subst h; exact r.up dj.same
  | .dk _ _, d', v, h, r => by simp only [rsD] at h; subst h; exact r.up dj.same
  | .dt _ _, d', v, h, r => by simp only [rsD] at h; subst h; exact r.up dj.same
  | .ins _ _ _, d', v, h, r => by simp only [rsD] at h; subst h; exact r.up dj.same
theorem rsL_ok (R : RelE c b F M0 ρ σ M) (dj : Dj F M) : ∀ (ds : List D) {es : List D} {vs : List V}, rsDL ρ ds es → DrL c F vs ds → DrL c (HH F M) vs es
  | [], es, vs, h, r => by
    simp only [rsDL] at h
    subst h
    rw [r.nil_iff]; exact .nil
  | d :: ds, es, vs, h, r => by
    simp only [rsDL] at h
    obtain ⟨e, er, rfl, h1, h2⟩ := h
    obtain ⟨v, vr, rfl, r1, r2⟩ := r.cons_iff
    exact .cons (rs_ok R dj d h1 r1) (rsL_ok R dj ds h2 r2)
end
omit [Lk] in
theorem rsAs_ok (R : RelE c b F M0 ρ σ M) (dj : Dj F M) : ∀ (as : List Sl) {as' : List Sl} {vs : List V}, rsAs ρ as as' → ArgsD c b F as vs → ArgsD c none (HH F M) as' vs
  | [], as', vs, h, r => by
    rw [show as' = [] from h]
    exact (show vs = [] from r)
  | s :: as, as', vs, h, r => by
    cases s with
    | sh d =>
      obtain ⟨d', er, rfl, h1, h2⟩ := h
      obtain ⟨v, vr, rfl, r1, r2⟩ := r
      exact ⟨v, vr, rfl, rs_ok R dj d h1 r1, rsAs_ok R dj as h2 r2⟩
    | _ => exact h.elim
end
def wCallPk (wf : WFn) (wa : WAs) : WE := fun ρ Q => wa ρ fun as ρ1 => ∃ as', rsAs ρ1 as as' ∧ wf as' fun d => scalD d = true ∧ Q d ρ1
theorem zt {wf : WFn} {wa : WAs} {ρ : List Sl} {Q : D → List Sl → Prop} : wCallPk wf wa ρ Q = wa ρ fun as ρ1 => ∃ as', rsAs ρ1 as as' ∧ wf as' fun d => scalD d = true ∧ Q d ρ1 := rfl
omit [Lk] in
theorem scal_any1 {c : Cy} {F G : Hp} {v : V} {d : D} (h : scalD d = true) (r : Dr c F v d) : Dr c G v d := by
  cases d <;> first | (simp only [Dr] at r ⊢; exact r) | simp [scalD] at h
section
variable {c : Cy} {t : TA} {wa : WAs} {wf : WFn}
theorem snx_callPk {E : XK} (ha : Snasx c t wa) : Sndx c (tCall (spF c wf) [] E t) (wCallPk wf wa) := fun {b ρ σ F M M0} R Qd Q hw k => by
  refine ha R _ _ hw fun as ρ1 vs F1 M1 M01 q s1 R1 m1 ar => ?_
  obtain ⟨as', h1, q⟩ := q
  rw [List.append_nil]
  refine ⟨none, HH F1 M1, emp, as', _, (hh_emp _).symm, (fun _ _ z => nomatch z), ⟨(fun _ z => nomatch z), NT.emp⟩, rsAs_ok R1.env R1.dj as h1 ar, q, fun d v F' M' hq s dj bx mr r => ?_⟩
  obtain ⟨hsc, hq⟩ := hq
  have e := mr_none mr
  subst e
  rw [hh_emp]
  let G : Hp := fun x => match M1 x with | some _ => none | none => F' x
  have gn : ∀ {x}, M1 x = none → G x = F' x := fun {x} z => by show (match M1 x with | some _ => none | none => F' x) = _; rw [z]
  have gs : ∀ {x o}, M1 x = some o → G x = none := fun {x o} z => by show (match M1 x with | some _ => none | none => F' x) = _; rw [z]
  have eH : F' = HH G M1 := funext fun x => by
    cases z : M1 x with
    | some o => rw [hh_m z]; exact s _ _ (hh_m z)
    | none => rw [hh_n z, gn z]
  have sG : Same F1 G := fun x o z => by
    rw [gn (R1.dj.mn z)]
    exact s _ _ (R1.dj.f z)
  have dG : Dj G M1 := fun x o z => gs z
  rw [eH]
  have A := R1.grow sG dG
  exact k d ρ1 v G M1 M01 hq (s1.trans sG) A.rel m1 (scal_any1 hsc r)
end
section
variable {X : Cx} {e : Expr} {es : List Expr} {t : TA} {wa : WAs} {wf : WFn} {pos : Pos} {k : Nat} {f : Addr} {fd : FuncData} {ps : List Str} {x : Str} {p : Pos}
theorem dx_callPkG (G : FnG X.prog X.w X.K X.mg X.base k f fd ps (spF (cy X) wf)) (hr : Room k X.A) (hgd : X.A.guards = some []) (hg : Gl X x) (hm : X.mg x = some (.ref f)) (hk : PySem.W.keepIn X.K (.ref f) = true) (hb : Binds X.K fd ps [])
    (ha : DXAs X (e :: es) t wa) (hdb : (x == ("__debug__" : Str)) = false := by decide) (he : starEach (e :: es) X.env = (false, eval e X.env) :: starEach es X.env := by rfl) (hpl : (backTo pos (starEach es X.env)).any (·.1) = false := by rfl) :
    DX X (.Call (.Name x p) (e :: es) [] pos) (tCall (spF (cy X) wf) [] E0 t) (wCallPk wf wa) := ⟨peG_call G hr hgd hg hm hk hb ha.pe hdb he hpl, snx_callPk ha.sn⟩
/-- a call, its arguments change own things -/
theorem snx_call {c : Cy} {E : XK} (ha : Snasx c t wa) : Sndx c (tCall (spF c wf) [] E t) (wCall wf wa) := fun {b ρ σ F M M0} R Qd Q hw k => by
  refine ha R _ _ hw fun as ρ1 vs F1 M1 M01 q1 s1 R1 m1 r1 => ?_
  rw [List.append_nil]
  refine ⟨b, F1, M1, as, _, rfl, R1.dj, ⟨fun a z => ?_, R1.env.nt⟩, r1, q1, fun d v F' M' q s dj bx mr r => ?_⟩
  · obtain ⟨da, ns, n, h1, h2, h3⟩ := R1.box a z
    exact ⟨da, ns, n, R1.env.sub _ _ h1, h2, h3⟩
  · obtain ⟨M0', A2⟩ := R1.after s dj bx mr
    exact k d ρ1 v F' M' M0' q (s1.trans A2.same) A2.rel (m1.trans A2.mr) r
theorem dx_callGx (G : FnG X.prog X.w X.K X.mg X.base k f fd ps (spF (cy X) wf)) (hr : Room k X.A) (hgd : X.A.guards = some []) (hg : Gl X x) (hm : X.mg x = some (.ref f)) (hk : PySem.W.keepIn X.K (.ref f) = true) (hb : Binds X.K fd ps [])
    (ha : DXAs X (e :: es) t wa) (hdb : (x == ("__debug__" : Str)) = false := by decide) (he : starEach (e :: es) X.env = (false, eval e X.env) :: starEach es X.env := by rfl) (hpl : (backTo pos (starEach es X.env)).any (·.1) = false := by rfl) :
    DX X (.Call (.Name x p) (e :: es) [] pos) (tCall (spF (cy X) wf) [] E0 t) (wCall wf wa) := ⟨peG_call G hr hgd hg hm hk hb ha.pe hdb he hpl, snx_call ha.sn⟩
end
end DL
namespace PySem
open PySem.Spec PyProof.V PyProof.Rows
section
variable {prog : Program} {w : World} {K : Type} [DecidableEq K] {kn : KeyKind prog w K} {A : Around} {E : Value → Shared → Prop} {s : Shared}
theorem ktH_call_dict {o : Addr} {more : List (List K × Addr × Value)} {Q : Value → Shared → Prop} (hu : A.units + 8 < cLine) (hoS : (o == sysModules) = false) (ho : s.heap.DictOfH (tupleKind kn) o more) (hsz : more.length ≤ sizeLine)
    (hap : (more.map fun x => tupleKeyHash kn x.1).Nodup)
    (h : ∀ h', h'.DictOfH (tupleKind kn) s.heap.objs.size more → Heap.SameBut s.heap.objs.size (s.heap.push { cls := .type "dict", data := .dict #[] }) h' → Q (.ref s.heap.objs.size) { s with heap := h' }) :
    wpAny (model prog w) A (call (.type "dict") [.ref o]) Q E s := by
  refine callType_codes (Q₁ := fun obj s₁ => obj = .ref s.heap.objs.size ∧ s₁ = { s with heap := s.heap.push { cls := .type "dict", data := .dict #[] } }) F.kt_called_dict (F.kt_typeCall_dict_1 _) F.entry_dict_init (kt_code_dict_new _ ⟨rfl, rfl⟩) ?_
  rintro obj s₁ ⟨rfl, rfl⟩
  have hnew : (s.heap.push { cls := .type "dict", data := .dict #[] }).DictOfH (tupleKind kn) s.heap.objs.size [] := Heap.DictOfH.new s.heap
  have hdo : s.heap.objs.size ≠ o := by
    obtain ⟨_, _, _, hg, _⟩ := ho
    exact fun e => absurd (Heap.lt_size hg) (by rw [e]; exact Nat.lt_irrefl _)
  have hkey : ∀ y ∈ more, (tupleKind kn).is (s.heap.push { cls := .type "dict", data := .dict #[] }) y.1 y.2.1 := fun y hy => by
    obtain ⟨_, _, _, _, _, _, _, his, _⟩ := ho
    obtain ⟨o2, its, n, h1, h2, h3, h4⟩ := (show IsTupleKey kn s.heap y.1 y.2.1 from his y hy)
    exact ⟨o2, its, n, Heap.get?_push_of_some _ h1, h2, h3, h4⟩
  have hty : ∀ x ∈ more, ({ s with heap := s.heap.push { cls := .type "dict", data := .dict #[] } } : Shared).TypeIs (.ref x.2.1) "tuple" := fun x hx => IsTupleKey.typeIs (show IsTupleKey kn _ x.1 x.2.1 from hkey x hx)
  have ho' : (s.heap.push { cls := .type "dict", data := .dict #[] }).DictOfH (tupleKind kn) o more := ho.at' (fun u e => Heap.get?_push_of_some _ e) hkey
  have hn : (more.map (·.1)).Nodup := ho.nodup
  refine ⟨hnew.typeIs, F.args_dict_init_2 _ _, ?_⟩
  unfold Builtin.«dict.__init__»
  refine wpAny_bind ?_
  unfold Builtin.Dict.selfAndRest
  refine wpAny_bind (wpAny_notOrdered_dict hnew.typeIs ?_)
  show wpAny _ _ (pure (s.heap.objs.size, [Value.ref o])) _ _ _
  refine wpAny_pure ?_
  show wpAny _ _ (Builtin.Dict.updateFrom "dict.__init__" s.heap.objs.size (.ref o) [] .none) _ _ _
  unfold Builtin.Dict.updateFrom
  refine wpAny_bind (wpAny_typeOf ho'.typeIs ?_)
  rw [if_neg (by decide)]
  refine wpAny_bind ?_
  unfold Builtin.Dict.merge
  refine wpAny_bind ?_
  unfold Builtin.Dict.readDirectly
  refine wpAny_bind (wpAny_isInstance ho'.typeIs isSubtype_dict_dict ?_)
  simp only [Bool.not_true, Bool.false_eq_true, if_false]
  refine wpAny_bind (wpAny_specialOf ho'.typeIs F.slot_dict_iter.lookup (wpAny_pure ?_))
  simp only [beq_self_eq_true, if_true]
  refine wpAny_bind (wpAny_pure ?_)
  refine wpAny_mergeDict_heap (hsz := by simpa using hsz) ?_ hdo hoS hnew ho' (.inr ⟨hty, hap⟩) fun h' hd' _ hs' => ?_
  · show A.units + 1 + 1 < cLine
    omega
  show wpAny _ _ (Builtin.Dict.addKeywords s.heap.objs.size [] >>= _) _ _ _
  rw [storedAllH_nil_of_nodup more hn] at hd'
  exact wpAny_bind (wpAny_pure (wpAny_pure ⟨rfl, h h' hd' hs'⟩))
end
end PySem
namespace DL
open PySem PySem.Spec PyProof.Rows L2
/-- the hash of two numbers -/
def th2 (p : Int × Int) : Int := reduceHash (Builtin.Tuple.tupleHashOf [hashInt p.1, hashInt p.2])
theorem th2_eq {P : Program} {w : World} (p : Int × Int) : tupleKeyHash (mixKind P w) (pkey p) = th2 p := by
  have h : ∀ i : Int, (mixKind P w).hash (Sum.inl i) = hashInt i := fun i => rfl
  unfold tupleKeyHash th2 pkey
  rw [List.map_cons, List.map_cons, List.map_nil, h, h]
theorem ths_eq {P : Program} {w : World} : ∀ (ps : List (Int × Int)) (xs : List (List Key × Addr × Value)), xs.map (·.1) = ps.map pkey → (xs.map fun x => tupleKeyHash (mixKind P w) x.1) = ps.map th2
  | [], [], _ => rfl
  | [], _ :: _, h => by cases h
  | _ :: _, [], h => by cases h
  | p :: ps, x :: xs, h => by
    rw [List.map_cons, List.map_cons] at h
    injection h with h1 h2
    rw [List.map_cons, List.map_cons, h1, th2_eq, ths_eq ps xs h2]
def rDictC : List V → Hp → VK → Prop := fun xs H Q => ∃ (a : Addr) (kvs : List (List Key × V)) (ps : List (Int × Int)), xs = [.ref a] ∧ Rd H a (.dT kvs) ∧ kvs.map (·.1) = ps.map pkey ∧ (ps.map th2).Nodup ∧ ∀ p, H p = none → Q (.ref p) (upd H p (.dT kvs))
theorem kt_keys {H : Hp} : ∀ {kvs : List (List Key × V)} {xs : List (List Key × Addr × Value)}, KT H kvs xs → xs.map (·.1) = kvs.map (·.1)
  | _, _, .nil => rfl
  | _, _, .cons h t => by rw [List.map_cons, List.map_cons, kt_keys t, ← h.1]
section
variable {X : Cx}
theorem call_dictC (hu : X.A.units + 65 < cLine) : CallR X (.type "dict") rDictC := by
  intro pins s σ H xs us Q I r q
  obtain ⟨a, kvs, ps, ex, hd, hk, hn, q⟩ := q
  subst ex
  obtain ⟨u, eu, rx⟩ := vals1 r
  subst eu
  cases rx
  obtain ⟨z, lo, xs, rel, dd⟩ := dt_rd I.hok hd
  have ek := kt_keys rel
  refine ktH_call_dict (by omega) lo dd (by rw [← Paired.length rel]; exact z) ?_ fun h' d' hs => ?_
  · rw [ths_eq ps xs (by rw [ek, hk])]; exact hn
  have hm : (s.heap.objs.size == sysModules) = false := beq_eq_false_iff_ne.mpr (Nat.ne_of_gt I.big)
  have fr := I.hok.fresh (Nat.le_refl s.heap.objs.size)
  exact ⟨.ref s.heap.objs.size, upd H s.heap.objs.size (.dT kvs), I.laid (t' := s.toks) (fun b u e => (hs.2 b (Nat.ne_of_lt (Heap.lt_size e))).trans (Heap.get?_push_of_some _ e)) (Nat.le_refl _) (dt_made z hm rel fr d'), rfl, q _ fr⟩
variable [Lk]
def dDictC : D → (D → Prop) → Prop
  | .dt ks ds, Q => ∃ ps : List (Int × Int), ks = ps.map pkey ∧ (ps.map th2).Nodup ∧ Q (.dt ks ds)
  | _, _ => False
theorem ro1_dictC : Ro1 (cy X) (fun x H Q => rDictC [x] H Q) dDictC := fun {b F M x d1} Qd Q dj r1 hw k => by
  cases d1 with
  | dt ks ds =>
    obtain ⟨ps, e, hn, q⟩ := hw
    obtain ⟨a, kvs, rfl, _, h, e2, r⟩ := r1
    refine ⟨a, kvs, ps, rfl, h, by rw [e2, e], hn, fun p hp => ?_⟩
    exact new_dt dj r hp (by rw [e2]; exact q) k
  | _ => exact hw.elim
variable {e ev : Expr} {te tv : TE} {w wv : WE} {pos : Pos}
def wAugC (g : Nat) (n f : Str) (wr : D → D → (D → Prop) → Prop) (w wv : WE) : WS := fun ρ E => w ρ fun d ρ1 => ∃ (a : Addr) (fs : List Str) (ds : List D) (d0 : D), d = .ad a ∧ ρ1[g]? = some (.gh a (.ins n fs ds)) ∧ lookD fs ds f = some d0 ∧ wv ρ1 fun d2 ρ2 => wr d0 d2 fun d3 => ∃ (fs2 : List Str) (ds2 : List D), ρ2[g]? = some (.gh a (.ins n fs2 ds2)) ∧ fs2.length < 1000 ∧ E.nx (ρ2.set g (.gh a (.ins n (fldF fs2 f) (fldD fs2 ds2 f d3))))
end
end DL
namespace DL
open PySem PySem.Spec PyProof.Rows L2
/-- an address, and the cell in a slot -/
def cellK (g : Nat) (d : D) (ρ : List Sl) (k : Addr → D → Prop) : Prop := match d with
  | .ad a => (match ρ[g]? with
    | some (.gh a1 d1) => a1 = a ∧ k a d1
    | _ => False)
  | _ => False
def lstK (d : D) (k : List D → Prop) : Prop := match d with
  | .lst ds => k ds
  | _ => False
def insK (n : Str) (d : D) (k : List Str → List D → Prop) : Prop := match d with
  | .ins n1 fs ds => n1 = n ∧ k fs ds
  | _ => False
section
variable {g a : Nat} {n f : Str} {d d1 : D} {ρ : List Sl} {k : Addr → D → Prop}
theorem zv : cellK g (.ad a) ρ k = match ρ[g]? with
    | some (.gh a1 d1) => a1 = a ∧ k a d1
    | _ => False := rfl
theorem zw {ds : List D} {k : List D → Prop} : lstK (.lst ds) k = k ds := rfl
theorem zx {n1 : Str} {fs : List Str} {ds : List D} {k : List Str → List D → Prop} : insK n (.ins n1 fs ds) k = (n1 = n ∧ k fs ds) := rfl
theorem cellK_iff : cellK g d ρ k ↔ ∃ a d1, d = .ad a ∧ ρ[g]? = some (.gh a d1) ∧ k a d1 := by
  unfold cellK
  constructor
  · intro h
    cases d with
    | ad a =>
      simp only at h
      cases e : ρ[g]? with
      | none => rw [e] at h; exact h.elim
      | some sl =>
        rw [e] at h
        cases sl with
        | gh a1 d1 => obtain ⟨rfl, h⟩ := h; exact ⟨_, _, rfl, rfl, h⟩
        | _ => exact h.elim
    | _ => exact h.elim
  · rintro ⟨a, d1, rfl, e, h⟩
    simp only [e]
    exact ⟨trivial, h⟩
theorem lstK_iff {k : List D → Prop} : lstK d k ↔ ∃ ds, d = .lst ds ∧ k ds := by
  unfold lstK
  constructor
  · intro h
    cases d with
    | lst ds => exact ⟨ds, rfl, h⟩
    | _ => exact h.elim
  · rintro ⟨ds, rfl, h⟩; exact h
theorem insK_iff {k : List Str → List D → Prop} : insK n d k ↔ ∃ fs ds, d = .ins n fs ds ∧ k fs ds := by
  unfold insK
  constructor
  · intro h
    cases d with
    | ins n1 fs ds => obtain ⟨rfl, h⟩ := h; exact ⟨fs, ds, rfl, h⟩
    | _ => exact h.elim
  · rintro ⟨fs, ds, rfl, h⟩; exact ⟨rfl, h⟩
end
section
variable {g : Nat} {n f m : Str} {w wv : WE} {wa : WAs} {js js' : List Nat} {wf : WFg} {ρ : List Sl} {Q : D → List Sl → Prop} {E : EnD} {wr : D → D → (D → Prop) → Prop}
theorem zm : wDer g w ρ Q = w ρ fun d ρ1 => cellK g d ρ1 fun _ d' => isCell d' ∧ Q d' ρ1 := by
  unfold wDer
  congr 1; funext d ρ1
  exact propext ⟨fun ⟨a, d', h1, h2, h⟩ => cellK_iff.mpr ⟨a, d', h1, h2, h⟩, fun h => cellK_iff.mp h⟩
theorem zo : wAppC g w wv ρ E = w ρ fun d ρ1 => cellK g d ρ1 fun a d1 => lstK d1 fun _ => wv ρ1 fun d2 ρ2 => cellK g (.ad a) ρ2 fun _ d3 => lstK d3 fun ds => ds.length < sizeLine ∧ E.nx (ρ2.set g (.gh a (.lst (ds ++ [d2])))) := by
  unfold wAppC
  congr 1; funext d ρ1
  refine propext ⟨fun ⟨a, h1, ⟨ds0, h2⟩, h⟩ => cellK_iff.mpr ⟨a, _, h1, h2, lstK_iff.mpr ⟨ds0, rfl, ?_⟩⟩, fun h => ?_⟩
  · have e : (fun (d2 : D) (ρ2 : List Sl) => ∃ ds, ρ2[g]? = some (.gh a (.lst ds)) ∧ ds.length < sizeLine ∧ E.nx (ρ2.set g (.gh a (.lst (ds ++ [d2]))))) = fun d2 ρ2 => cellK g (.ad a) ρ2 fun _ d3 => lstK d3 fun ds => ds.length < sizeLine ∧ E.nx (ρ2.set g (.gh a (.lst (ds ++ [d2])))) := by
      funext d2 ρ2
      refine propext ⟨fun ⟨ds, h1, h⟩ => cellK_iff.mpr ⟨a, _, rfl, h1, lstK_iff.mpr ⟨ds, rfl, h⟩⟩, fun h => ?_⟩
      obtain ⟨a', d1, e, h1, h⟩ := cellK_iff.mp h
      cases e
      obtain ⟨ds, rfl, h⟩ := lstK_iff.mp h
      exact ⟨ds, h1, h⟩
    rw [← e]; exact h
  · obtain ⟨a, d1, e1, h1, h⟩ := cellK_iff.mp h
    obtain ⟨ds0, rfl, h⟩ := lstK_iff.mp h
    refine ⟨a, e1, ⟨ds0, h1⟩, ?_⟩
    have e : (fun (d2 : D) (ρ2 : List Sl) => ∃ ds, ρ2[g]? = some (.gh a (.lst ds)) ∧ ds.length < sizeLine ∧ E.nx (ρ2.set g (.gh a (.lst (ds ++ [d2]))))) = fun d2 ρ2 => cellK g (.ad a) ρ2 fun _ d3 => lstK d3 fun ds => ds.length < sizeLine ∧ E.nx (ρ2.set g (.gh a (.lst (ds ++ [d2])))) := by
      funext d2 ρ2
      refine propext ⟨fun ⟨ds, h1, h⟩ => cellK_iff.mpr ⟨a, _, rfl, h1, lstK_iff.mpr ⟨ds, rfl, h⟩⟩, fun h => ?_⟩
      obtain ⟨a', d1, e, h1, h⟩ := cellK_iff.mp h
      cases e
      obtain ⟨ds, rfl, h⟩ := lstK_iff.mp h
      exact ⟨ds, h1, h⟩
    rw [e]; exact h
theorem zp : wPopC g w ρ Q = w ρ fun d ρ1 => cellK g d ρ1 fun a d1 => lstK d1 fun ds => ∃ d2, ds.getLast? = some d2 ∧ Q d2 (ρ1.set g (.gh a (.lst ds.dropLast))) := by
  unfold wPopC
  congr 1; funext d ρ1
  refine propext ⟨fun ⟨a, ds, d2, h1, h2, h⟩ => cellK_iff.mpr ⟨a, _, h1, h2, lstK_iff.mpr ⟨ds, rfl, d2, h⟩⟩, fun h => ?_⟩
  obtain ⟨a, x, e1, h1, y⟩ := cellK_iff.mp h
  obtain ⟨ds, rfl, d2, z⟩ := lstK_iff.mp y
  exact ⟨a, ds, d2, e1, h1, z⟩
theorem zq : wSetC g n f w wv ρ E = wv ρ fun d ρ1 => w ρ1 fun d1 ρ2 => cellK g d1 ρ2 fun a d2 => insK n d2 fun fs ds => fs.length < 1000 ∧ E.nx (ρ2.set g (.gh a (.ins n (fldF fs f) (fldD fs ds f d)))) := by
  unfold wSetC
  congr 1; funext d ρ1; congr 1; funext d1 ρ2
  refine propext ⟨fun ⟨a, fs, ds, h1, h2, h⟩ => cellK_iff.mpr ⟨a, _, h1, h2, insK_iff.mpr ⟨fs, ds, rfl, h⟩⟩, fun h => ?_⟩
  obtain ⟨a, x, e1, h1, y⟩ := cellK_iff.mp h
  obtain ⟨fs, ds, rfl, z⟩ := insK_iff.mp y
  exact ⟨a, fs, ds, e1, h1, z⟩
theorem zl : wMethC g n m js js' wf w wa ρ Q = w ρ fun d ρ1 => cellK g d ρ1 fun a d1 => insK n d1 fun fs _ => m ∉ fs ∧ wa ρ1 fun as ρ2 => pickK js ρ2 fun gs ρ3 => wf (.sh (.ad a) :: as) gs fun d gs' => putK js' gs' ρ3 fun ρ4 => Q d ρ4 := by
  unfold wMethC
  congr 1; funext d ρ1
  refine propext ⟨fun ⟨a, h1, ⟨fs, ds, h2, h3⟩, h⟩ => cellK_iff.mpr ⟨a, _, h1, h2, insK_iff.mpr ⟨fs, ds, rfl, h3, h⟩⟩, fun h => ?_⟩
  obtain ⟨a, x, e1, h1, y⟩ := cellK_iff.mp h
  obtain ⟨fs, ds, rfl, h2, z⟩ := insK_iff.mp y
  exact ⟨a, e1, ⟨fs, ds, h1, h2⟩, z⟩
theorem zr : wAugC g n f wr w wv ρ E = w ρ fun d ρ1 => cellK g d ρ1 fun a d1 => insK n d1 fun fs ds => ∃ d0, lookD fs ds f = some d0 ∧ wv ρ1 fun d2 ρ2 => wr d0 d2 fun d3 => cellK g (.ad a) ρ2 fun _ d4 => insK n d4 fun fs2 ds2 => fs2.length < 1000 ∧ E.nx (ρ2.set g (.gh a (.ins n (fldF fs2 f) (fldD fs2 ds2 f d3)))) := by
  unfold wAugC
  have e : ∀ (a : Addr) (ρ2 : List Sl) (d3 : D), (∃ fs2 ds2, ρ2[g]? = some (.gh a (.ins n fs2 ds2)) ∧ fs2.length < 1000 ∧ E.nx (ρ2.set g (.gh a (.ins n (fldF fs2 f) (fldD fs2 ds2 f d3))))) = cellK g (.ad a) ρ2 fun _ d4 => insK n d4 fun fs2 ds2 => fs2.length < 1000 ∧ E.nx (ρ2.set g (.gh a (.ins n (fldF fs2 f) (fldD fs2 ds2 f d3)))) := fun a ρ2 d3 => by
    refine propext ⟨fun ⟨fs2, ds2, h1, h⟩ => cellK_iff.mpr ⟨a, _, rfl, h1, insK_iff.mpr ⟨fs2, ds2, rfl, h⟩⟩, fun h => ?_⟩
    obtain ⟨a', d1, e, h1, y⟩ := cellK_iff.mp h
    cases e
    obtain ⟨fs2, ds2, rfl, z⟩ := insK_iff.mp y
    exact ⟨fs2, ds2, h1, z⟩
  simp only [e]
  congr 1; funext d ρ1
  refine propext ⟨fun ⟨a, fs, ds, d0, h1, h2, h3, h⟩ => cellK_iff.mpr ⟨a, _, h1, h2, insK_iff.mpr ⟨fs, ds, rfl, d0, h3, h⟩⟩, fun h => ?_⟩
  obtain ⟨a, x, e1, h1, y⟩ := cellK_iff.mp h
  obtain ⟨fs, ds, rfl, d0, h2, z⟩ := insK_iff.mp y
  exact ⟨a, fs, ds, d0, e1, h1, h2, z⟩
end
theorem z3 {outs : List Nat} {Qd : D → List Cl → Prop} {ρ : List Sl} : (endG outs Qd).nx ρ = pickK outs ρ fun gs _ => Qd .non gs := rfl
theorem z7 {outs : List Nat} {Qd : D → List Cl → Prop} {d : D} {ρ : List Sl} : (endG outs Qd).rt d ρ = pickK outs ρ fun gs _ => Qd d gs := rfl
theorem zy {ds : List D} : isCell (.lst ds) = True := rfl
theorem zz {n : Str} {fs : List Str} {ds : List D} : isCell (.ins n fs ds) = True := rfl
end DL
namespace DL
open PySem PySem.Spec PyProof.Rows L2
def rIsBI (g : Bool → Bool) : R2 := fun x y H Q => ∃ b : Bool, y = .bl b ∧ ((∃ a : Bool, x = .bl a ∧ Q (.bl (g (decide (a = b)))) H) ∨ (∃ i : Int, x = .int i ∧ Q (.bl (g false)) H))
section
variable {X : Cx}
theorem op_isBI : OpR X (compareOp .Is) (rIsBI id) := by
  intro pins s σ H x y v u Q I rx ry h
  obtain ⟨b, rfl, h⟩ := h
  cases (show u = Value.bool b from ry)
  rcases h with ⟨a, rfl, q⟩ | ⟨i, rfl, q⟩
  · cases (show v = Value.bool a from rx)
    by_cases e : a = b
    · subst e
      exact wpAny_is_self rfl ⟨.bl true, H, I, rfl, by simpa using q⟩
    · exact wpAny_is_other rfl (fun z => e (Value.bool.inj z)) ⟨.bl false, H, I, rfl, by simpa [e] using q⟩
  · obtain ⟨t, rfl⟩ := rx
    exact wpAny_is_other rfl (fun z => nomatch z) ⟨.bl false, H, I, rfl, q⟩
def dIsBI (g : Bool → Bool) : D → D → (D → Prop) → Prop
  | .bl a, .bl b, Q => Q (.bl (g (decide (a = b))))
  | .int _, .bl _, Q => Q (.bl (g false))
  | _, _, _ => False
theorem rop_isBI {c : Cy} {g : Bool → Bool} : Rop c (rIsBI g) (dIsBI g) := fun {b F M x y d1 d2} Qd Q dj q1 q2 hw k => by
  cases d2 with
  | bl j =>
    cases d1 with
    | bl i => rw [q1.bl_of, q2.bl_of]; exact ⟨j, rfl, .inl ⟨i, rfl, k _ _ F hw (Same.refl _) dj (fun _ f _ => f) .of_bl⟩⟩
    | int i => rw [q1.int_of, q2.bl_of]; exact ⟨j, rfl, .inr ⟨i, rfl, k _ _ F hw (Same.refl _) dj (fun _ f _ => f) .of_bl⟩⟩
    | _ => exact hw.elim
  | _ => cases d1 <;> exact hw.elim
end
mutual
theorem rsD_same {ρ : List Sl} : ∀ (d : D), okD d = true → rsD ρ d d
  | .non, _ => by simp only [rsD]
  | .bl _, _ => by simp only [rsD]
  | .int _, _ => by simp only [rsD]
  | .str _, _ => by simp only [rsD]
  | .lst ds, h => by simp only [rsD]; exact ⟨ds, rfl, rsDL_same ds (by simpa only [okD] using h)⟩
  | .tup ds, h => by simp only [rsD]; exact ⟨ds, rfl, rsDL_same ds (by simpa only [okD] using h)⟩
  | .emt, h => by simp [okD] at h
  | .fn _, h => by simp [okD] at h
  | .ad _, h => by simp [okD] at h
  | .scr _, h => by simp [okD] at h
  | .dk _ _, h => by simp [okD] at h
  | .dt _ _, h => by simp [okD] at h
  | .ins _ _ _, h => by simp [okD] at h
theorem rsDL_same {ρ : List Sl} : ∀ (ds : List D), okDL ds = true → rsDL ρ ds ds
  | [], _ => by simp only [rsDL]
  | d :: ds, h => by
    simp only [okDL, Bool.and_eq_true] at h
    simp only [rsDL]
    exact ⟨d, ds, rfl, rsD_same d h.1, rsDL_same ds h.2⟩
end
theorem rsD_ad {ρ : List Sl} {a : Addr} {d : D} (j : Nat) (h : ρ[j]? = some (.gh a d)) : rsD ρ (.ad a) d := by simp only [rsD]; exact ⟨j, h⟩
theorem rsD_lst {ρ : List Sl} {ds es : List D} (h : rsDL ρ ds es) : rsD ρ (.lst ds) (.lst es) := by simp only [rsD]; exact ⟨es, rfl, h⟩
theorem rsD_int {ρ : List Sl} {i : Int} : rsD ρ (.int i) (.int i) := by simp only [rsD]
theorem rsDL_nil {ρ : List Sl} : rsDL ρ [] [] := by simp only [rsDL]
theorem rsDL_cons {ρ : List Sl} {d e : D} {ds es : List D} (h : rsD ρ d e) (t : rsDL ρ ds es) : rsDL ρ (d :: ds) (e :: es) := by simp only [rsDL]; exact ⟨e, es, rfl, h, t⟩
theorem rsAs_nil {ρ : List Sl} : rsAs ρ [] [] := rfl
theorem rsAs_cons {ρ : List Sl} {d e : D} {as bs : List Sl} (h : rsD ρ d e) (t : rsAs ρ as bs) : rsAs ρ (.sh d :: as) (.sh e :: bs) := ⟨e, bs, rfl, h, t⟩
end DL
namespace DL
open PySem PySem.Spec PyProof.Rows L2
variable [Lk]
def wForCL (g : Nat) (a : Addr) (all : List D) (wg : WG) (wb : WS) : List D → WS
  | [], ρ, E => ρ[g]? = some (.gh a (.lst all)) ∧ E.nx ρ
  | d :: ds, ρ, E => ρ[g]? = some (.gh a (.lst all)) ∧ wg d ρ fun ρ1 => wb ρ1 { nx := fun ρ2 => wForCL g a all wg wb ds ρ2 E, ct := fun ρ2 => wForCL g a all wg wb ds ρ2 E, bk := E.nx, rt := E.rt }
theorem wForCL_at {g : Nat} {a : Addr} {all : List D} {wg : WG} {wb : WS} : ∀ {ds : List D} {ρ : List Sl} {E : EnD}, wForCL g a all wg wb ds ρ E → ρ[g]? = some (.gh a (.lst all))
  | [], _, _, h => h.1
  | _ :: _, _, _, h => h.1
def wForC (g : Nat) (w : WE) (wg : WG) (wb : WS) : WS := fun ρ E => w ρ fun d ρ1 => cellK g d ρ1 fun a d1 => lstK d1 fun ds => wForCL g a ds wg wb ds ρ1 E
theorem zu {g : Nat} {w : WE} {wg : WG} {wb : WS} {ρ : List Sl} {E : EnD} : wForC g w wg wb ρ E = w ρ fun d ρ1 => cellK g d ρ1 fun a d1 => lstK d1 fun ds => wForCL g a ds wg wb ds ρ1 E := rfl
section
variable {X : Cx} {pos : Pos} {tg iter : Expr} {body : List Stmt} {te : TE} {w : WE} {g : TG} {wg : WG} {tb : TS} {wb : WS}
theorem sns_forC {c : Cy} {is : List Nat} {j : Nat} (he : Snd c te w) (hg : Sng c g wg is) (hb : Sns c tb wb) : Sns c (tFor (iList c.K te) g tb) (wForC j w wg wb) := fun {b ρ σ F M M0} R E Dn hw f => by
  refine he R _ _ hw fun d ρ1 v F1 M1 M01 q A r => ?_
  obtain ⟨a, d1, rfl, e1, q⟩ := cellK_iff.mp q
  obtain ⟨ds, rfl, q⟩ := lstK_iff.mp q
  rw [r.ad_of]
  have at' : ∀ {ρ' : List Sl} {σ' : L2.St} {F' M' M0' : Hp}, Rel c b ρ' σ' F' M' M0' → ρ'[j]? = some (.gh a (.lst ds)) → ∃ vs, SqL c.K (HH F' M') a vs ∧ DrL c F' vs ds := fun R' e' => by
    obtain ⟨o, ⟨vs, rfl, rl⟩, hH, _⟩ := R'.cell e' trivial
    exact ⟨vs, SqL.of hH, rl⟩
  obtain ⟨vs1, hs1, _⟩ := at' A.rel e1
  refine ⟨a, rfl, ⟨vs1, hs1⟩, ?_⟩
  refine ⟨fun i m σ' H' => m = ds.length - i ∧ i ≤ ds.length ∧ ∃ ρ' F' M' M0', H' = HH F' M' ∧ Same F1 F' ∧ Rel c b ρ' σ' F' M' M0' ∧ MR b M01 M0' ∧ wForCL j a ds wg wb (ds.drop i) ρ' E,
    ⟨ds.length, by simp, Nat.zero_le _, ρ1, F1, M1, M01, rfl, Same.refl _, A.rel, MR.refl _ _, q⟩, ?_⟩
  rintro i m σ' H' ⟨rfl, hil, ρ', F', M', M0', rfl, s, R', mr, hw'⟩
  obtain ⟨vs, hs, rl⟩ := at' R' (wForCL_at hw')
  by_cases hlt : i < ds.length
  · have ed : ds.drop i = ds[i] :: ds.drop (i + 1) := List.drop_eq_getElem_cons hlt
    rw [ed] at hw'
    have hd : ds[i]? = some ds[i] := List.getElem?_eq_getElem hlt
    obtain ⟨v, hv, rv⟩ := rl.get hd
    refine .inr ⟨⟨vs, v, hs, hv⟩, fun σ2 H2 => i + 1 ≤ ds.length ∧ ∃ ρ' F' M' M0', H2 = HH F' M' ∧ Same F1 F' ∧ Rel c b ρ' σ2 F' M' M0' ∧ MR b M01 M0' ∧ wForCL j a ds wg wb (ds.drop (i + 1)) ρ' E,
      fun σ2 H2 n2 => ⟨ds.length - (i + 1), by omega, rfl, n2.1, n2.2⟩, fun x H3 hy => ?_⟩
    obtain ⟨rfl, hy⟩ := hy
    have e : x = v := Option.some.inj ((hy vs hs).symm.trans hv)
    subst e
    refine hg R' rv _ _ hw'.2 fun ρ4 σ4 F4 M4 M04 q4 s4 x4 R4 m4 _ => ?_
    have sAll := s.trans s4
    have mAll := mr.trans m4
    refine hb R4 _ { Dn with nx := _, ct := _, bk := Dn.nx } q4 ⟨fun ρ5 σ5 F5 M5 M05 e5 s5 R5 m5 => ⟨hlt, ρ5, F5, M5, M05, rfl, sAll.trans s5, R5, mAll.trans m5, e5⟩,
      fun ρ5 σ5 F5 M5 M05 e5 s5 R5 m5 => f.nx ρ5 σ5 F5 M5 M05 e5 ((A.same.trans sAll).trans s5) R5 ((A.mr.trans mAll).trans m5),
      fun ρ5 σ5 F5 M5 M05 e5 s5 R5 m5 => ⟨hlt, ρ5, F5, M5, M05, rfl, sAll.trans s5, R5, mAll.trans m5, e5⟩,
      fun d v ρ5 σ5 F5 M5 M05 e5 s5 R5 m5 r5 => f.rt d v ρ5 σ5 F5 M5 M05 e5 ((A.same.trans sAll).trans s5) R5 ((A.mr.trans mAll).trans m5) r5⟩
  · have e : i = ds.length := by omega
    subst e
    rw [List.drop_length] at hw'
    exact .inl ⟨⟨vs, hs, by rw [rl.length]; exact Nat.le_refl _⟩, f.nx ρ' σ' F' M' M0' hw'.2 (A.same.trans s) R' (A.mr.trans mr)⟩
theorem ds_forC (j : Nat) (hp : PassesOwn (model X.prog X.w) X.A X.env X.xe) (hc : X.calm = true) {is : List Nat} (he : DE X iter te w) (hg : DG X tg g wg is) (hb : DSs X body tb wb)
    (hs : ∀ x, foldedSetIterable iter X.env x = pure x := by intro _; rfl) : DS X (.For tg iter body [] pos) (tFor (iList X.K te) g tb) (wForC j w wg wb) := ⟨ps_for hp hc (pi_list he.pe) hg.pg hb.ps hs, sns_forC he.sn hg.sn hb.sn⟩
end
/-- the loop's rule -/
theorem forC_pre {α : Type} {f : α → D} {g : Nat} {a : Addr} {wg : WG} {wb : WS} {E : EnD} {l : List α} (I : List α → List Sl → Prop) (hI : ∀ dn ρ, I dn ρ → ρ[g]? = some (.gh a (.lst (l.map f))))
    (step : ∀ dn x rest, l = dn ++ x :: rest → ∀ ρ, I dn ρ → ∀ K : List Sl → Prop, (∀ ρ', I (dn ++ [x]) ρ' → K ρ') → wg (f x) ρ fun ρ1 => wb ρ1 { nx := K, ct := K, bk := E.nx, rt := E.rt })
    (fin : ∀ ρ, I l ρ → E.nx ρ) : ∀ (rest dn : List α), l = dn ++ rest → ∀ ρ, I dn ρ → wForCL g a (l.map f) wg wb (rest.map f) ρ E
  | [], dn, e, ρ, h => by
    rw [List.append_nil] at e
    subst e
    exact ⟨hI _ _ h, fin _ h⟩
  | x :: rest, dn, e, ρ, h => ⟨hI _ _ h, step dn x rest e ρ h _ fun ρ' h' => forC_pre I hI step fin rest (dn ++ [x]) (by rw [e]; simp) ρ' h'⟩
end DL
namespace DL
open PySem PySem.Spec PyProof.Rows L2
abbrev WFgx := List Sl → List Cl → (D → List Cl → Prop) → (Xn → List Cl → Prop) → Prop
/-- a def with cells that may raise -/
def spGX (c : Cy) (wf : WFgx) : Sp := fun vs H Q E => ∃ (F M C : Hp) (as : List Sl) (gs : List Cl) (Qd : D → List Cl → Prop) (EX : Xn → List Cl → Prop), H = HH F (HH M C) ∧ Dj F (HH M C) ∧ Dj M C ∧ NT M ∧ ArgsD c none F as vs ∧ CH c F gs C ∧ wf as gs Qd EX ∧
  (∀ d v gs' F' C', Qd d gs' → Same F F' → Dj F' (HH M C') → Dj M C' → CH c F' gs' C' → Dr c F' v d → Q v (HH F' (HH M C'))) ∧
  ∀ x gs' cls d F' M' C' H', EX x gs' → Same F F' → (∀ a o, M a = some o → M' a = some o) → Dj F' (HH M' C') → Dj M' C' → CH c F' gs' C' → Ext none (HH F' (HH M' C')) H' → XnR c.mg H' x cls d → E cls d H'
/-- what an exception leaves -/
def XOut (c : Cy) (F0 M00 : Hp) (EXρ : Xn → List Sl → Prop) (E : XK) : Prop :=
  ∀ x ρ σ F' M' M0' cls d H', EXρ x ρ → @Rel (Lk.from F0 M00) c none ρ σ F' M' M0' → Ext none (HH F' M') H' → XnR c.mg H' x cls d → E cls d H'
theorem CH.endX {c : Cy} {F M : Hp} {EX : Xn → List Cl → Prop} {outs : List Nat} {E : XK}
    (hE : ∀ x gs' cls d F' M' C' H', EX x gs' → Same F F' → (∀ a o, M a = some o → M' a = some o) → Dj F' (HH M' C') → Dj M' C' → CH c F' gs' C' → Ext none (HH F' (HH M' C')) H' → XnR c.mg H' x cls d → E cls d H') :
    XOut c F M (fun x ρ => pickK outs ρ fun gs _ => EX x gs) E := fun x ρ σ F' M' M0' cls d H' hp R ex xr => by
  letI := Lk.from F M
  obtain ⟨gs', ρ2, M2, C', hk, R2, ch, djC, rfl⟩ := pick_ok outs R.env hp
  exact hE x gs' cls d F' M2 C' H' hk R.lk.2.1 (fun a o z => R2.sub _ _ (R.lk.2.2 a o z)) R.dj djC ch ex xr
section
variable {P : Program} {w : World} {K : PySem.W.Frag} {mg : Str → Option Value} {base : Heap} {CX : CXT}
/-- THE RULE for defs with cells that may raise -/
theorem fun_okCX {x qual : Str} {st : Stmt} {f : Addr} {fd : FuncData} {N ps : List Str} {k : Nat} {wf : WFgx} (FF : Fun K x qual st f fd) (S : FnScope N ps (defScope st)) (nl ng : Nat) (outs : List Nat) (hN : N.length = ps.length + nl + ng) (len : ∀ as gs Qd EX, wf as gs Qd EX → as.length = ps.length ∧ gs.length ≤ ng)
    (ws : (Xn → List Sl → Prop) → WS)
    (hbody : ∀ (cdv : Value) (A : Around) (outer : List Env) (s : Shared) (F M H : Hp) (E : XK) (EX : Xn → List Sl → Prop), fd.code = cdv → Room k (A.deeper (envOfC qual (defScope st) s.heap.objs.size f cdv)) → XOut ⟨K, mg⟩ F M EX E →
      letI := Lk.from F M
      ∃ t, DSs (cxOf CX P w K mg base N qual (defScope st) f cdv A outer s H E) (defBody st) t (ws EX))
    (hp : ∀ as gs Qd EX, wf as gs Qd EX → ws (fun x ρ => pickK outs ρ fun gs' _ => EX x gs') (startG nl ng as gs) (endG outs Qd)) :
    FnOk P w K mg base CX (k + 1) f fd ps (spGX ⟨K, mg⟩ wf) := by
  obtain ⟨oc, od, kV, doc, pm, an, cdv, ct, osl, rfl, lk, hcd⟩ := FF.ex
  refine fn_of lk hcd S (fun vs H Q E h => ?_) fun A outer s H vs Q E hr h => ?_
  · obtain ⟨F, M, C, as, gs, Qd, EX, _, _, _, _, ar, _, hw, _⟩ := h
    rw [ar.length, (len as gs Qd EX hw).1]
  · obtain ⟨F, M, C, as, gs, Qd, EX, rfl, dj, dm, nt, ar, ch, hw, hq, hE⟩ := h
    letI := Lk.from F M
    obtain ⟨t, hd⟩ := hbody cdv A outer s F M (HH F (HH M C)) E _ rfl hr (CH.endX (outs := outs) hE)
    refine ⟨t, hd.ps, ?_⟩
    have hl := len as gs Qd EX hw
    refine hd.sn (startG_rel (b := none) (by rw [hN, hl.1]) hl.2 dj dm ⟨(fun a (z : none = some a) => nomatch z), nt⟩ ar ch ⟨rfl, Same.refl _, fun _ _ q => q⟩) _ _ (hp as gs Qd EX hw) (endG_fin fun d v gs' F' M' C' q s dj' dm' _ mr ch' r => ?_)
    have e := mr_none mr
    subst e
    exact hq d v gs' F' C' q s dj' dm' ch' r
end
def wRaiseC (EX : Xn → List Sl → Prop) (n : Str) (flds : List Str) (wa : WA) : WS := fun ρ _ => wa ρ fun ds ρ1 => ds.length = flds.length ∧ (∀ d ∈ ds, xOk d) ∧ EX ⟨n, (flds.zip (ds.map vOf)).reverse⟩ ρ1
theorem za {EX : Xn → List Sl → Prop} {n : Str} {flds : List Str} {wa : WA} {ρ : List Sl} {E : EnD} : wRaiseC EX n flds wa ρ E = wa ρ fun ds ρ1 => ds.length = flds.length ∧ (∀ d ∈ ds, xOk d) ∧ EX ⟨n, (flds.zip (ds.map vOf)).reverse⟩ ρ1 := rfl
section
variable {X : Cx} {F0 M00 : Hp} {E : XK} {EX : Xn → List Sl → Prop}
theorem ds_raiseC {n : Str} {C Di fI : Addr} {k : Nat} {fd : FuncData} {ps flds : List Str} {e : Expr} {es : List Expr} {ta : TA} {wa : WA} {p pos pos' : Pos} (hc : X.calm = true) (tk : Takes X (fun cls d _ H => E cls d H)) (T : SupC X.K C Di) (hne : flds ≠ []) (hfl : flds.length ≤ 100)
    (hfs : ∀ f ∈ flds, PySem.W.findIn X.K (.ref C) f = some none) (iC : PySem.W.findIn X.K (.ref C) "__init__" = some (some (.ref fI))) (tI : PySem.W.typeIn X.K (.ref fI) = some (.type "function"))
    (F1 : FnOk X.prog X.w X.K X.mg X.base CX0 k fI fd ps (spXI X.K Di flds)) (hr : Room (k + 1) X.A) (hb : Binds X.K fd ps []) (hg : Gl X n) (hm : X.mg n = some (.ref C)) (hE : XOut (cy X) F0 M00 EX E)
    (ha : letI := Lk.from F0 M00; DA X (e :: es) ta wa) (hdb : (n == ("__debug__" : Str)) = false := by decide) (he : starEach (e :: es) X.env = (false, eval e X.env) :: starEach es X.env := by rfl) (hpl : (backTo pos (starEach es X.env)).any (·.1) = false := by rfl) :
    letI := Lk.from F0 M00
    DS X (.Raise (some (.Call (.Name n p) (e :: es) [] pos)) none pos') (fun _ σ H => tMkO C (spXI X.K Di flds) [] ta σ H fun cls d H' => E cls d H') (wRaiseC EX n flds wa) :=
  letI := Lk.from F0 M00
  ⟨ps_raise (W := fun cls d _ H => E cls d H) hc tk (pmk_oex T.ox iC tI F1 hr hb .nil pass0 hg hm ha.pe hdb he hpl), fun {b ρ σ F M M0} R Ed Dn hw f => by
  have hbn : b = none := R.lk.1
  subst hbn
  refine ha.sn R _ _ hw fun ds ρ1 vs F1 M1 M01 q A r1 => ?_
  obtain ⟨hl, hok, hx⟩ := q
  obtain ⟨ev, okv⟩ := xOk_v r1 hok
  have hvl : vs.length = flds.length := by rw [r1.length, hl]
  refine ⟨by omega, fun a na => ?_⟩
  rw [List.append_nil]
  refine ⟨a, C, vs, rfl, hvl, okv, T, hfs, upd_same, fun dx H2 n1 n2 h1 h2 h3 => ?_⟩
  have nx : HH F1 M1 dx = none := by rw [upd_ne n2] at n1; exact n1
  refine ⟨rfl, dx, _, h1, h2, nx, hE _ _ _ _ _ _ _ _ _ hx A.rel (fun b o _ hb => ?_) ⟨C, hm, rfl, .inr ⟨?_, dx, rfl, ?_⟩⟩⟩
  · have nb1 : b ≠ a := fun z => by rw [z, na] at hb; cases hb
    have nb2 : b ≠ dx := fun z => by rw [z, nx] at hb; cases hb
    rw [upd_ne nb2, L2.del_ne nb1, h3 b nb1 nb2, upd_ne nb1]
    exact hb
  · intro z
    have hl2 : (flds.zip (ds.map vOf)).reverse.length = flds.length := by simp [hl]
    rw [show (flds.zip (ds.map vOf)).reverse = [] from z] at hl2
    exact hne (List.length_eq_zero_iff.mp hl2.symm)
  · rw [upd_same, ev]⟩
end
theorem lend_CX [Lk] {c : Cy} {b : Option Addr} {wf : WFgx} {js js' : List Nat} {ρ : List Sl} {σ : L2.St} {F1 M1 M01 : Hp} {as : List Sl} {vs : List V} {Qd : D → List Sl → Prop} {EX : Xn → List Sl → Prop} {Q : VK} {E : XK} (R : Rel c b ρ σ F1 M1 M01) (ar : ArgsD c b F1 as vs) (nb : ∀ s ∈ as, s ≠ .bx)
    (hw : pickK js ρ fun gs ρ2 => wf as gs (fun d gs' => putK js' gs' ρ2 fun ρ3 => Qd d ρ3) fun x gs' => putK js' gs' ρ2 fun ρ3 => EX x ρ3)
    (hq : ∀ d ρ' v F' M' M0', Qd d ρ' → Same F1 F' → Rel c b ρ' σ F' M' M0' → MR b M01 M0' → Dr c F' v d → Q v (HH F' M'))
    (hE : ∀ x ρ' cls d F' M' M0' H', EX x ρ' → Same F1 F' → Rel c b ρ' σ F' M' M0' → MR b M01 M0' → Ext none (HH F' M') H' → XnR c.mg H' x cls d → E cls d H') : spGX c wf vs (HH F1 M1) Q E := by
  obtain ⟨gs, ρ2, M2, C, hk, R2, ch, dm, rfl⟩ := pick_ok js R.env hw
  have R2' : Rel c b ρ2 σ F1 M2 M01 := ⟨fun x o q => R.dj x o (dm.f q), R2, R.box, R.lk⟩
  have box' : ∀ {F' : Hp}, Same F1 F' → ∀ a, b = some a → Box F' M2 a := fun s a z => by
    obtain ⟨da, ns, n, h1, h2, h3⟩ := R.box a z
    exact ⟨da, ns, n, R2.sub _ _ h1, s _ _ h2, h3⟩
  refine ⟨F1, M2, C, as, gs, _, _, rfl, R.dj, dm, R2.nt, ar.nobox nb, ch, hk, fun d v gs' F' C' q s dj dm' ch' r => ?_, fun x gs' cls d F' M' C' H' q s hs dj dm' ch' ex xr => ?_⟩
  · obtain ⟨M0', A2⟩ := R2'.after s (fun x o q => dj x o (dm'.f q)) (fun a z => box' s a z) (MR.refl _ _)
    obtain ⟨ρ3, q3, R3⟩ := put_ok js' gs' A2.rel.env ch' dm' q
    exact hq d ρ3 v F' _ M0' q3 s ⟨dj, R3, A2.rel.box, A2.rel.lk⟩ A2.mr r
  · have sub : ∀ a o, HH M2 C' a = some o → HH M' C' a = some o := fun a o z => by
      rcases hh_some z with z | ⟨z1, z2⟩
      · exact hh_m z
      · rw [hh_n z1]; exact hs a o z2
    have dj2 : Dj F' (HH M2 C') := fun y o z => dj y o (sub y o z)
    have dm2 : Dj M2 C' := fun y o z => by
      have := dm' y o z
      cases e : M2 y with
      | none => rfl
      | some u => rw [hs y u e] at this; cases this
    obtain ⟨M0', A2⟩ := R2'.after s (fun x o q => dj2 x o (dm2.f q)) (fun a z => box' s a z) (MR.refl _ _)
    obtain ⟨ρ3, q3, R3⟩ := put_ok js' gs' A2.rel.env ch' dm2 q
    exact hE x ρ3 cls d F' _ M0' H' q3 s ⟨dj2, R3, A2.rel.box, A2.rel.lk⟩ A2.mr (fun a o n z => ex a o n (by
      rcases hh_some z with z | ⟨z1, z2⟩
      · exact hh_m (sub a o z)
      · cases e : HH M' C' a with
        | none => rw [hh_n e]; exact z2
        | some u => rw [dj a u e] at z2; cases z2)) xr
section
variable [Lk] {X : Cx} {e : Expr} {es : List Expr} {t : TA} {wa : WAs} {j : Nat} {su : List Stmt} {b0 : Stmt} {ts : Addr → Value → Option Addr → TS} {ws : Xn → WS}
def wTryRetM (ns : List Str) (j : Nat) (ws : Xn → WS) (i : Nat) (n m : Str) (wf : WFgx) (wa : WAs) : WS := fun ρ E => (∃ (a : Addr) (g : Nat) (fs : List Str) (ds : List D), ρ[i]? = some (.sh (.ad a)) ∧ ρ[g]? = some (.gh a (.ins n fs ds)) ∧ m ∉ fs) ∧ wa ρ fun as ρ1 => ∃ (a : Addr) (js js' : List Nat), ρ[i]? = some (.sh (.ad a)) ∧ (∀ s ∈ as, s ≠ .bx) ∧ pickK js ρ1 fun gs ρ2 =>
  wf (.sh (.ad a) :: as) gs (fun d gs' => putK js' gs' ρ2 fun ρ3 => E.rt d ρ3) fun x gs' => putK js' gs' ρ2 fun ρ3 => ρ3[j]? = some .no ∧ x.n ∈ ns ∧ ws x ρ3 (endX j E)
theorem zb {ns : List Str} {j : Nat} {ws : Xn → WS} {i : Nat} {n m : Str} {wf : WFgx} {wa : WAs} {ρ : List Sl} {E : EnD} : wTryRetM ns j ws i n m wf wa ρ E = ((∃ (a : Addr) (g : Nat) (fs : List Str) (ds : List D), ρ[i]? = some (.sh (.ad a)) ∧ ρ[g]? = some (.gh a (.ins n fs ds)) ∧ m ∉ fs) ∧ wa ρ fun as ρ1 => ∃ (a : Addr) (js js' : List Nat), ρ[i]? = some (.sh (.ad a)) ∧ (∀ s ∈ as, s ≠ .bx) ∧ pickK js ρ1 fun gs ρ2 =>
  wf (.sh (.ad a) :: as) gs (fun d gs' => putK js' gs' ρ2 fun ρ3 => E.rt d ρ3) fun x gs' => putK js' gs' ρ2 fun ρ3 => ρ3[j]? = some .no ∧ x.n ∈ ns ∧ ws x ρ3 (endX j E)) := rfl
theorem ds_tryRetM {xc n nm xn m : Str} {C : Addr} {c : Value} {ns : List Str} {wf : WFgx} {np p1 p4 p5 p6 pos apos : Pos} (i : Nat) (hmC : X.mg n = some (.ref C)) (hs : X.stack = X.env :: X.outer) (hf : X.env.frame = some X.env.locals) (hN : X.N.Nodup) (hi : X.N[j]? = some nm) (hln : X.env.kindOf nm = some .local) (hc : Names X xc c) (hm : Takn X.K X.mg c ns)
    (has : DAs X es t wa) (hsu : DXS X j (b0 :: su) ts ws)
    (hb : ∀ (W : WX) (pn : List (Addr × Obj)) (xe : Value → Shared → Prop), Takes (X.tr pn xe) W → PE (X.tr pn xe) (.Call (.Attribute (.Name xn p5) m apos) es [] p6) (L2H.tMethH C m (spGX (cy X) wf) (fun σ => L2.WE W σ) (tVar i) t)) :
    DS X (.Try [.Return (some (.Call (.Attribute (.Name xn p5) m apos) es [] p6)) p1] [.ExceptHandler (some (.Name xc np)) (some nm) (b0 :: su) p4] [] [] pos)
      (fun D σ H => (tRet (L2H.tMethH C m (spGX (cy X) wf) (fun σ => L2.WE (wAs X.K c j ts (fun _ _ _ _ => False) D) σ) (tVar i) t)) D σ H) (wTryRetM ns j ws i n m wf wa) := by
  refine ⟨ps_try_as (X := X) (c := c) (i := j) (Wout := fun _ _ _ _ => False) (tb := fun W => tRet (L2H.tMethH C m (spGX (cy X) wf) (fun σ => L2.WE W σ) (tVar i) t)) hs hf hN hi hln hc takes0 (fun W pn xe tk _ => pss_one (ps_ret (hb W pn xe tk))) hsu.ps, ?_⟩
  intro b ρ σ F M M0 R E Dn hw fin
  obtain ⟨⟨a, g, fs, ds, e0, e1, hno⟩, hw⟩ := hw
  obtain ⟨v, h1, r1⟩ := R.env.get e0
  obtain ⟨o, ⟨C', dx, ps, rfl, hg, rfl, rl⟩, hH, nb, _⟩ := R.cell e1 trivial
  have eC : C' = C := by
    have hmC : (cy X).mg n = some (.ref C) := hmC
    rw [hmC] at hg; cases hg; rfl
  subst eC
  rw [r1.ad_of] at h1
  refine ⟨.ref a, h1, a, dx, ps, rfl, hH, lookup_no hno, ?_⟩
  refine has.sn R _ _ hw fun as ρ1 vs F1 M1 M01 q A ar => ?_
  obtain ⟨a', js, js', e0', hnb, q⟩ := q
  rw [e0] at e0'
  cases e0'
  refine lend_CX (as := .sh (.ad a) :: as) (js := js) (js' := js') A.rel ⟨.ref a, vs, rfl, .of_ad, ar⟩ (fun s hs => (List.mem_cons.mp hs).elim (fun e z => by rw [e] at z; cases z) fun hs => hnb s hs) q (fun d ρ' v F' M' M0' h s R' mr r => fin.rt d v ρ' σ F' M' M0' h (A.same.trans s) R' (A.mr.trans mr) r) fun x ρ' cls d F' M' M0' H' h s R' mr ex xr => ?_
  exact suite_ok hm hsu R'.aft h.2.1 h.1 h.2.2 (fin.on (A.same.trans s) (A.mr.trans mr)) ex xr
end
section
variable [Lk] {X : Cx} {e : Expr} {te : TE}
def wNewE (wf : List Sl → (Sl → List Sl → Prop) → Prop) : WE := fun ρ Q => wf ρ fun sl ρ1 => ∃ g : Nat, ρ1[g]? = some .no ∧ ∀ a, Q (.ad a) (ρ1.set g (.gh a (obD sl)))
theorem zc {wf : List Sl → (Sl → List Sl → Prop) → Prop} {ρ : List Sl} {Q : D → List Sl → Prop} : wNewE wf ρ Q = wf ρ fun sl ρ1 => ∃ g : Nat, ρ1[g]? = some .no ∧ ∀ a, Q (.ad a) (ρ1.set g (.gh a (obD sl))) := rfl
theorem de_newE {wf : List Sl → (Sl → List Sl → Prop) → Prop} (h : DF X e te wf) : DE X e te (wNewE wf) := ⟨h.pe, fun {b ρ σ F M M0} R Qd Q hw k => by
  refine h.sn R _ _ hw fun sl ρ1 a o F1 M1 M01 q A hs r f m => ?_
  obtain ⟨g, q1, q2⟩ := q
  have t : RelE (cy X) b F1 M01 (ρ1.set g (.gh a (obD sl))) σ (upd M1 a o) := A.rel.env.newCell q1 f m (by rw [slOf_obD hs]; exact r)
  refine k _ _ _ F1 _ M01 (q2 a) (A.trans ⟨Same.refl _, fun x u nx z => ?_, ⟨A.rel.dj.updM f, t, A.rel.box, A.rel.lk⟩, MR.refl _ _⟩) .of_ad
  have ne : x ≠ a := fun e => by rw [e, hh_n m, f] at z; cases z
  rw [← hh_updM, upd_ne ne]; exact z⟩
end
theorem pickK_seg : ∀ {gs : List Cl} {A B : List Sl} {k : List Cl → List Sl → Prop}, k gs (A ++ (List.replicate gs.length .no ++ B)) → pickK (List.range' A.length gs.length) (A ++ (gs.map ghS ++ B)) k
  | [], A, B, k, h => h
  | g :: gs, A, B, k, h => by
    rw [List.length_cons, List.range'_succ, zg, List.getElem?_append_right (Nat.le_refl _), Nat.sub_self]
    show pickK (List.range' (A.length + 1) gs.length) ((A ++ (ghS g :: (gs.map ghS ++ B))).set A.length .no) _
    rw [List.set_append_right _ _ (Nat.le_refl _), Nat.sub_self]
    have ih := pickK_seg (gs := gs) (A := A ++ [.no]) (B := B) (k := fun gs ρ' => k (g :: gs) ρ') (by
      rw [List.append_assoc]
      exact h)
    rw [List.length_append, List.length_singleton, List.append_assoc] at ih
    exact ih
theorem putK_seg : ∀ {gs : List Cl} {A B : List Sl} {k : List Sl → Prop}, k (A ++ (gs.map ghS ++ B)) → putK (List.range' A.length gs.length) gs (A ++ (List.replicate gs.length .no ++ B)) k
  | [], A, B, k, h => h
  | g :: gs, A, B, k, h => by
    rw [List.length_cons, List.range'_succ, zi]
    have ih := putK_seg (gs := gs) (A := A ++ [.no]) (B := B) (k := fun ρ' => ρ'[A.length]? = some .no ∧ k (ρ'.set A.length (.gh g.1 g.2))) (by
      refine ⟨?_, ?_⟩
      · rw [List.append_assoc, List.getElem?_append_right (Nat.le_refl _), Nat.sub_self]; rfl
      · rw [List.append_assoc, List.set_append_right _ _ (Nat.le_refl _), Nat.sub_self]
        exact h)
    rw [List.length_append, List.length_singleton, List.append_assoc] at ih
    exact ih
end DL
namespace DL
open PySem PySem.Spec PyProof.Rows L2
section
variable {H L1 B X : List Sl} {gs : List Cl} {n : Nat}
theorem pick_at {k : List Cl → List Sl → Prop} (hX : X = L1 ++ (gs.map ghS ++ B)) (hn : gs.length = n) (h : k gs (H ++ (L1 ++ (List.replicate n .no ++ B)))) : pickK (List.range' (H.length + L1.length) n) (H ++ X) k := by
  subst hX
  subst hn
  have := pickK_seg (gs := gs) (A := H ++ L1) (B := B) (k := k) (by rw [List.append_assoc]; exact h)
  rw [List.length_append, List.append_assoc] at this
  exact this
theorem put_at {k : List Sl → Prop} (hX : X = L1 ++ (List.replicate n .no ++ B)) (hn : gs.length = n) (h : k (H ++ (L1 ++ (gs.map ghS ++ B)))) : putK (List.range' (H.length + L1.length) n) gs (H ++ X) k := by
  subst hX
  subst hn
  have := putK_seg (gs := gs) (A := H ++ L1) (B := B) (k := k) (by rw [List.append_assoc]; exact h)
  rw [List.length_append, List.append_assoc] at this
  exact this
theorem get_at {g : Cl} {i : Nat} (hX : X = L1 ++ (gs.map ghS ++ B)) (h : gs[i]? = some g) : (H ++ X)[H.length + L1.length + i]? = some (.gh g.1 g.2) := by
  subst hX
  rw [List.getElem?_append_right (by omega), show H.length + L1.length + i - H.length = L1.length + i by omega, List.getElem?_append_right (by omega), show L1.length + i - L1.length = i by omega]
  have hi : i < gs.length := by
    rcases Nat.lt_or_ge i gs.length with z | z
    · exact z
    · rw [List.getElem?_eq_none z] at h; cases h
  rw [List.getElem?_append_left (by rw [List.length_map]; exact hi), List.getElem?_map, h]
  rfl
theorem free_at (hX : X = L1 ++ (.no :: B)) : (H ++ X)[H.length + L1.length]? = some .no ∧ ∀ s, (H ++ X).set (H.length + L1.length) s = H ++ (L1 ++ (s :: B)) := by
  subst hX
  refine ⟨?_, fun s => ?_⟩
  · rw [List.getElem?_append_right (by omega), show H.length + L1.length - H.length = L1.length by omega, List.getElem?_append_right (Nat.le_refl _), Nat.sub_self]; rfl
  · rw [List.set_append_right _ _ (by omega), show H.length + L1.length - H.length = L1.length by omega, List.set_append_right _ _ (Nat.le_refl _), Nat.sub_self]; rfl
end
theorem putK_app : ∀ {js js2 : List Nat} {gs gs2 : List Cl} {ρ : List Sl} {k : List Sl → Prop}, js.length = gs.length → putK js2 gs2 ρ (fun ρ' => putK js gs ρ' k) → putK (js ++ js2) (gs ++ gs2) ρ k
  | [], js2, [], gs2, ρ, k, _, h => h
  | [], _, _ :: _, _, _, _, e, _ => by cases e
  | _ :: _, _, [], _, _, _, e, _ => by cases e
  | j :: js, js2, g :: gs, gs2, ρ, k, e, h => by
    rw [List.cons_append, List.cons_append, zi]
    refine putK_app (by simpa using e) ?_
    simp only [zi] at h
    exact h
end DL
namespace DL
open PySem PySem.Spec PyProof.Rows L2
/-- a machine: facts, and for each state a row of steps, a row of gains (aligned with the facts), what leaving pays -/
structure Mach where
  facts : List Str
  step : List (List Int)
  gain : List (List Int)
  leave : List Int
def keysOf (fs : List Str) : List Key := fs.map Sum.inr
def rowOf (fs : List Str) (r : List Int) : RowD := (keysOf fs, r.map D.int)
def Mach.ds (m : Mach) : List D := [.lst (m.facts.map D.str), .lst (m.step.map fun r => rowD (rowOf m.facts r)), .lst (m.gain.map fun r => rowD (rowOf m.facts r)), .lst (m.leave.map D.int)]
def machF : List Str := ["facts", "step", "gain", "leave"]
def Mach.dd (m : Mach) : D := .ins "Machine" machF m.ds
structure Mach.ok (m : Mach) (top : Nat) (B : Int) : Prop where
  nd : m.facts.Nodup
  f1 : 1 ≤ m.facts.length
  f3 : m.facts.length ≤ 3
  n1 : 1 ≤ m.leave.length
  n8 : m.leave.length ≤ top
  ls : m.step.length = m.leave.length
  lg : m.gain.length = m.leave.length
  rs : ∀ r ∈ m.step, r.length = m.facts.length ∧ ∀ s ∈ r, 0 ≤ s ∧ s < m.leave.length
  rg : ∀ r ∈ m.gain, r.length = m.facts.length ∧ ∀ g ∈ r, -B ≤ g ∧ g ≤ B
  rl : ∀ l ∈ m.leave, -B ≤ l ∧ l ≤ B
theorem lk_facts (m : Mach) : lookD machF m.ds "facts" = some (.lst (m.facts.map D.str)) := by
  unfold machF Mach.ds
  simp only [lookD, if_true]
theorem lk_step (m : Mach) : lookD machF m.ds "step" = some (.lst (m.step.map fun r => rowD (rowOf m.facts r))) := by
  unfold machF Mach.ds
  simp only [lookD, if_true, show (("step" : Str) = "facts") = False from eq_false (by decide +kernel), if_false]
theorem lk_gain (m : Mach) : lookD machF m.ds "gain" = some (.lst (m.gain.map fun r => rowD (rowOf m.facts r))) := by
  unfold machF Mach.ds
  simp only [lookD, if_true, show (("gain" : Str) = "facts") = False from eq_false (by decide +kernel), show (("gain" : Str) = "step") = False from eq_false (by decide +kernel), if_false]
theorem lk_leave (m : Mach) : lookD machF m.ds "leave" = some (.lst (m.leave.map D.int)) := by
  unfold machF Mach.ds
  simp only [lookD, if_true, show (("leave" : Str) = "facts") = False from eq_false (by decide +kernel), show (("leave" : Str) = "step") = False from eq_false (by decide +kernel), show (("leave" : Str) = "gain") = False from eq_false (by decide +kernel), if_false]
/-- what stands in a row at a fact -/
def look : List Str → List Int → Str → Int
  | f :: fs, r :: rs, x => if f = x then r else look fs rs x
  | _, _, _ => 0
theorem look_al : ∀ {fs : List Str} {r : List Int} {x : Str}, r.length = fs.length → x ∈ fs → alD (keysOf fs) (r.map D.int) (Sum.inr x) = some (.int (look fs r x))
  | [], _, x, _, h => by cases h
  | f :: fs, [], x, h, _ => by simp at h
  | f :: fs, r :: rs, x, hl, h => by
    unfold keysOf
    simp only [List.map_cons, alD, look]
    by_cases z : f = x
    · rw [if_pos (by rw [z]), if_pos z]
    · rw [if_neg (fun e => z (Sum.inr.inj e)), if_neg z]
      exact look_al (by simpa using hl) (by
        rcases List.mem_cons.mp h with e | h
        · exact absurd e.symm z
        · exact h)
theorem look_mem : ∀ {fs : List Str} {r : List Int} {x : Str}, r.length = fs.length → x ∈ fs → look fs r x ∈ r
  | [], _, x, _, h => by cases h
  | f :: fs, [], x, h, _ => by simp at h
  | f :: fs, r :: rs, x, hl, h => by
    unfold look
    by_cases z : f = x
    · rw [if_pos z]; exact List.mem_cons_self
    · rw [if_neg z]
      exact List.mem_cons_of_mem _ (look_mem (by simpa using hl) (by
        rcases List.mem_cons.mp h with e | h
        · exact absurd e.symm z
        · exact h))
def Mach.stp (m : Mach) (s : Nat) (x : Str) : Int := look m.facts (m.step.getD s []) x
def Mach.gn (m : Mach) (s : Nat) (x : Str) : Int := look m.facts (m.gain.getD s []) x
def Mach.lv (m : Mach) (s : Nat) : Int := m.leave.getD s 0
theorem getD_at {α : Type} {l : List α} {s : Nat} {a : α} (h : s < l.length) : l[s]? = some (l.getD s a) := by
  rw [List.getD_eq_getElem?_getD, List.getElem?_eq_getElem h]; rfl
theorem getD_in {α : Type} {l : List α} {s : Nat} {a : α} (h : s < l.length) : l.getD s a ∈ l := by
  rw [List.getD_eq_getElem?_getD, List.getElem?_eq_getElem h]; exact List.getElem_mem h
section
variable {m : Mach} {top : Nat} {B : Int} (k : m.ok top B)
include k
/-- reading step[s][f], gain[s][f], leave[s] -/
theorem Mach.at_step {s : Int} (h0 : 0 ≤ s) (h1 : s < m.leave.length) : atI (m.step.map fun r => rowD (rowOf m.facts r)) s = some (rowD (rowOf m.facts (m.step.getD s.toNat []))) := by
  refine atI_nat h0 ?_
  rw [List.getElem?_map, getD_at (a := []) (by have := k.ls; omega)]; rfl
theorem Mach.at_gain {s : Int} (h0 : 0 ≤ s) (h1 : s < m.leave.length) : atI (m.gain.map fun r => rowD (rowOf m.facts r)) s = some (rowD (rowOf m.facts (m.gain.getD s.toNat []))) := by
  refine atI_nat h0 ?_
  rw [List.getElem?_map, getD_at (a := []) (by have := k.lg; omega)]; rfl
theorem Mach.at_leave {s : Int} (h0 : 0 ≤ s) (h1 : s < m.leave.length) : atI (m.leave.map D.int) s = some (.int (m.lv s.toNat)) := by
  refine atI_nat h0 ?_
  rw [List.getElem?_map, getD_at (a := 0) (by omega)]; rfl
theorem Mach.ix_step {s : Nat} {x : Str} {Q : D → Prop} (h1 : s < m.leave.length) (hx : x ∈ m.facts) (q : Q (.int (m.stp s x))) : dIx (rowD (rowOf m.facts (m.step.getD s []))) (.str x) Q := by
  have h := k.rs _ (getD_in (a := []) (show s < m.step.length by have := k.ls; omega))
  exact ⟨_, by show Option.map _ (some _) = _; exact congrArg some (look_al h.1 hx), q⟩
theorem Mach.ix_gain {s : Nat} {x : Str} {Q : D → Prop} (h1 : s < m.leave.length) (hx : x ∈ m.facts) (q : Q (.int (m.gn s x))) : dIx (rowD (rowOf m.facts (m.gain.getD s []))) (.str x) Q := by
  have h := k.rg _ (getD_in (a := []) (show s < m.gain.length by have := k.lg; omega))
  exact ⟨_, by show Option.map _ (some _) = _; exact congrArg some (look_al h.1 hx), q⟩
theorem Mach.stp_in {s : Nat} {x : Str} (h1 : s < m.leave.length) (hx : x ∈ m.facts) : 0 ≤ m.stp s x ∧ m.stp s x < m.leave.length := by
  have h := k.rs _ (getD_in (a := []) (show s < m.step.length by have := k.ls; omega))
  exact h.2 _ (look_mem h.1 hx)
theorem Mach.gn_in {s : Nat} {x : Str} (h1 : s < m.leave.length) (hx : x ∈ m.facts) : -B ≤ m.gn s x ∧ m.gn s x ≤ B := by
  have h := k.rg _ (getD_in (a := []) (show s < m.gain.length by have := k.lg; omega))
  exact h.2 _ (look_mem h.1 hx)
theorem Mach.lv_in {s : Nat} (h1 : s < m.leave.length) : -B ≤ m.lv s ∧ m.lv s ≤ B := k.rl _ (getD_in h1)
end
/-- a carry -/
structure Cary where
  to : List Int
  cost : List Int
structure Cary.ok (c : Cary) (n k : Nat) : Prop where
  lt : c.to.length = n
  lc : c.cost.length = n
  rt : ∀ s ∈ c.to, 0 ≤ s ∧ s < k
  rc : ∀ g ∈ c.cost, -20000 ≤ g ∧ g ≤ 20000
def caryF : List Str := ["to", "cost"]
def Cary.ds (c : Cary) : List D := [.lst (c.to.map D.int), .lst (c.cost.map D.int)]
def Cary.dd (c : Cary) : D := .ins "Carry" caryF c.ds
theorem lk_to (c : Cary) : lookD caryF c.ds "to" = some (.lst (c.to.map D.int)) := by
  unfold caryF Cary.ds
  simp only [lookD, if_true]
theorem lk_cost (c : Cary) : lookD caryF c.ds "cost" = some (.lst (c.cost.map D.int)) := by
  unfold caryF Cary.ds
  simp only [lookD, if_true, show (("cost" : Str) = "to") = False from eq_false (by decide +kernel), if_false]
theorem Cary.at_to {c : Cary} {n k : Nat} (h : c.ok n k) {s : Int} (h0 : 0 ≤ s) (h1 : s < n) : atI (c.to.map D.int) s = some (.int (c.to.getD s.toNat 0)) := by
  refine atI_nat h0 ?_
  rw [List.getElem?_map, getD_at (a := 0) (by have := h.lt; omega)]; rfl
theorem Cary.to_in {c : Cary} {n k : Nat} (h : c.ok n k) {s : Int} (h0 : 0 ≤ s) (h1 : s < n) : 0 ≤ c.to.getD s.toNat 0 ∧ c.to.getD s.toNat 0 < k := h.rt _ (getD_in (by have := h.lt; omega))
theorem Mach.ok.mono {m : Mach} {t t' : Nat} {B B' : Int} (h : m.ok t B) (ht : t ≤ t') (hB : B ≤ B') : m.ok t' B' :=
  ⟨h.nd, h.f1, h.f3, h.n1, Nat.le_trans h.n8 ht, h.ls, h.lg, h.rs, fun r hr => ⟨(h.rg r hr).1, fun g hg => by have := (h.rg r hr).2 g hg; omega⟩, fun l hl => by have := h.rl l hl; omega⟩
abbrev PL := List ((Int × Int) × Cary)
def qD (p : Int × Int) : D := .tup [.int p.1, .int p.2]
def qK (p : Int × Int) : List Key := [.inl p.1, .inl p.2]
theorem qK_inj {p q : Int × Int} (h : qK p = qK q) : p = q := by
  simp only [qK, List.cons.injEq, Sum.inl.injEq, and_true] at h
  obtain ⟨a, b⟩ := p
  obtain ⟨c, d⟩ := q
  simp only at h
  rw [h.1, h.2]
def ltQ (p q : Int × Int) : Prop := p.1 < q.1 ∨ (p.1 = q.1 ∧ p.2 < q.2)
def nst (ms : List Mach) (k : Int) : Nat := ((ms.map fun m => m.leave.length).getD k.toNat 0)
structure SOk (ms : List Mach) (pl : PL) : Prop where
  n1 : 1 ≤ ms.length
  n3 : ms.length ≤ 3
  mo : ∀ m ∈ ms, m.ok 3 10
  so : (pl.map (·.1)).Pairwise ltQ
  pr : ∀ e ∈ pl, 0 ≤ e.1.1 ∧ e.1.1 < ms.length ∧ 0 ≤ e.1.2 ∧ e.1.2 < ms.length ∧ e.2.ok (nst ms e.1.1) (nst ms e.1.2)
  pc : ∀ e ∈ pl, ∀ g ∈ e.2.cost, -10 ≤ g ∧ g ≤ 10
  pn : pl.length ≤ 9
abbrev Mv := (Int × Int) × Int
/-- the moves from a spot -/
def mvs (pl : PL) (s : Int × Int) : List Mv := (pl.filter fun e => decide (e.1.1 = s.1)).map fun e => ((e.1.2, e.2.to.getD s.2.toNat 0), -(e.2.cost.getD s.2.toNat 0))
def sptL (ms : List Mach) : List (Int × Int) := (List.range ms.length).flatMap fun k : Nat => (List.range (nst ms (k : Int))).map fun s : Nat => ((k : Int), (s : Int))
theorem sptL_mem {ms : List Mach} {p : Int × Int} : p ∈ sptL ms ↔ 0 ≤ p.1 ∧ p.1 < ms.length ∧ 0 ≤ p.2 ∧ p.2 < nst ms p.1 := by
  unfold sptL
  rw [List.mem_flatMap]
  constructor
  · rintro ⟨k, hk, hp⟩
    obtain ⟨s, hs, rfl⟩ := List.mem_map.mp hp
    have := List.mem_range.mp hk
    have := List.mem_range.mp hs
    simp only
    omega
  · rintro ⟨h0, h1, h2, h3⟩
    refine ⟨p.1.toNat, List.mem_range.mpr (by omega), List.mem_map.mpr ⟨p.2.toNat, List.mem_range.mpr ?_, ?_⟩⟩
    · rw [Int.toNat_of_nonneg h0]; omega
    · obtain ⟨a, b⟩ := p
      simp only at h0 h2 ⊢
      rw [Int.toNat_of_nonneg h0, Int.toNat_of_nonneg h2]
theorem ltQ_nd {l : List (Int × Int)} (h : l.Pairwise ltQ) : l.Nodup := h.imp fun {a b} h e => by
  subst e
  rcases h with h | ⟨_, h⟩ <;> omega
theorem nst_at {ms : List Mach} {k : Int} {m : Mach} (h0 : 0 ≤ k) (h : ms[k.toNat]? = some m) : nst ms k = m.leave.length := by
  unfold nst
  rw [List.getD_eq_getElem?_getD, List.getElem?_map, h]; rfl
section
variable {ms : List Mach} {pl : PL} (ok : SOk ms pl)
include ok
theorem SOk.nst3 (k : Int) : nst ms k ≤ 3 := by
  unfold nst
  rw [List.getD_eq_getElem?_getD, List.getElem?_map]
  cases e : ms[k.toNat]? with
  | none => simp
  | some m => exact (ok.mo m (List.mem_of_getElem? e)).n8
theorem SOk.nst1 {k : Int} (h0 : 0 ≤ k) (h1 : k < ms.length) : 1 ≤ nst ms k := by
  have hl : k.toNat < ms.length := by omega
  rw [nst_at h0 (List.getElem?_eq_getElem hl)]
  exact (ok.mo _ (List.getElem_mem hl)).n1
theorem SOk.len : (sptL ms).length ≤ 9 := by
  unfold sptL
  rw [List.length_flatMap]
  have : ∀ l : List Nat, (l.map fun k : Nat => ((List.range (nst ms (k : Int))).map fun s : Nat => ((k : Int), (s : Int))).length).sum ≤ 3 * l.length := fun l => by
    induction l with
    | nil => simp
    | cons a l ih =>
      have h := ok.nst3 a
      simp only [List.map_cons, List.sum_cons, List.length_cons, List.length_map, List.length_range] at ih ⊢
      omega
  have h := this (List.range ms.length)
  rw [List.length_range] at h
  have := ok.n3
  omega
theorem SOk.move {s : Int × Int} (hs : s ∈ sptL ms) {x : Mv} (hx : x ∈ mvs pl s) : x.1 ∈ sptL ms ∧ -10 ≤ x.2 ∧ x.2 ≤ 10 := by
  obtain ⟨h0, h1, h2, h3⟩ := sptL_mem.mp hs
  obtain ⟨e, he, rfl⟩ := List.mem_map.mp hx
  obtain ⟨he, hk⟩ := List.mem_filter.mp he
  have hk : e.1.1 = s.1 := of_decide_eq_true hk
  obtain ⟨p0, p1, p2, p3, co⟩ := ok.pr e he
  rw [hk] at co
  have hr := Cary.to_in co h2 (by omega)
  have hc := ok.pc e he _ (getD_in (a := 0) (show s.2.toNat < e.2.cost.length by have := co.lc; omega))
  refine ⟨sptL_mem.mpr ⟨p2, p3, hr.1, hr.2⟩, ?_⟩
  show -10 ≤ -(e.2.cost.getD s.2.toNat 0) ∧ -(e.2.cost.getD s.2.toNat 0) ≤ 10
  omega
theorem SOk.pnd : (pl.map (·.1)).Nodup := ltQ_nd ok.so
end
def plE (c : Cary) : D := .lst [.lst (c.to.map D.int), .lst (c.cost.map D.int)]
def plD (pl : PL) : D := .dt (pl.map fun e => qK e.1) (pl.map fun e => plE e.2)
def caD (pl : PL) : D := .dt (pl.map fun e => qK e.1) (pl.map fun e => e.2.dd)
theorem alD_pl {g : Cary → D} {e : (Int × Int) × Cary} : ∀ {pl : PL}, (pl.map (·.1)).Nodup → e ∈ pl → alD (pl.map fun e => qK e.1) (pl.map fun e => g e.2) (qK e.1) = some (g e.2)
  | x :: pl, nd, h => by
    rw [List.map_cons, List.nodup_cons] at nd
    simp only [List.map_cons, alD]
    rcases List.mem_cons.mp h with rfl | h
    · rw [if_pos rfl]
    · rw [if_neg (fun z => nd.1 (by rw [qK_inj z]; exact List.mem_map_of_mem h))]
      exact alD_pl nd.2 h
theorem alD_pl_none {g : Cary → D} {p : Int × Int} : ∀ {pl : PL}, p ∉ pl.map (·.1) → alD (pl.map fun e => qK e.1) (pl.map fun e => g e.2) (qK p) = none
  | [], _ => rfl
  | x :: pl, h => by
    simp only [List.map_cons, alD]
    rw [List.map_cons, List.mem_cons] at h
    rw [if_neg (fun z => h (.inl (qK_inj z).symm))]
    exact alD_pl_none fun z => h (.inr z)
theorem pl_ix {g : Cary → D} {pl : PL} {e : (Int × Int) × Cary} {Q : D → Prop} (nd : (pl.map (·.1)).Nodup) (h : e ∈ pl) (q : Q (g e.2)) : dIx (.dt (pl.map fun e => qK e.1) (pl.map fun e => g e.2)) (.tup [.int e.1.1, .int e.1.2]) Q :=
  ⟨_, by show Option.map _ (some _) = _; exact congrArg some (alD_pl nd h), q⟩
theorem pl_keys (pl : PL) : (pl.map fun e => qK e.1).map (fun k => D.tup (k.map kD)) = pl.map fun e => qD e.1 := by
  rw [List.map_map]; rfl
theorem ms_at {ms : List Mach} {k : Int} (h0 : 0 ≤ k) (h1 : k < ms.length) : ∃ m, ms[k.toNat]? = some m ∧ m ∈ ms ∧ atI (ms.map Mach.dd) k = some m.dd := by
  have hl : k.toNat < ms.length := by omega
  exact ⟨ms[k.toNat], List.getElem?_eq_getElem hl, List.getElem_mem hl, atI_nat h0 (by rw [List.getElem?_map, List.getElem?_eq_getElem hl]; rfl)⟩
theorem outs_map {α : Type} {g : α → D} {P : α → Prop} : ∀ {ds ys : List D}, Outs (fun _ o => ∃ a, o = some (g a) ∧ P a) ds ys → ∃ as : List α, ys = as.map g ∧ as.length = ds.length ∧ ∀ a ∈ as, P a
  | [], ys, h => ⟨[], h, rfl, fun a ha => by cases ha⟩
  | d :: ds, ys, h => by
    rcases h with ⟨y, r, ⟨a, e, hp⟩, rfl, h⟩ | ⟨⟨a, e, hp⟩, _⟩
    · cases e
      obtain ⟨as, h1, h2, h3⟩ := outs_map h
      refine ⟨a :: as, by rw [h1]; rfl, by simp [h2], fun b hb => ?_⟩
      rcases List.mem_cons.mp hb with rfl | hb
      · exact hp
      · exact h3 b hb
    · cases e
theorem szl : sizeLine = 16777216 := rfl
inductive Deed where
  | undo | move (n : Int) | year (cs : List Nat)
deriving DecidableEq
def Deed.ok : Deed → Prop
  | .undo => True
  | .move n => 0 ≤ n ∧ n < 256
  | .year cs => 1 ≤ cs.length ∧ cs.length ≤ 8 ∧ ∀ c ∈ cs, 97 ≤ c ∧ c ≤ 122
def Deed.dd : Deed → D
  | .undo => .tup [.str "undo"]
  | .move n => .tup [.str "move", .int n]
  | .year cs => .tup [.str "year", .str ⟨cs.toArray⟩]
def Deed.body : Deed → List Int
  | .undo => [3]
  | .move n => [2, n]
  | .year cs => 1 :: cs.map fun c : Nat => (c : Int)
def Oct (ns : List Int) : Prop := ∀ n ∈ ns, 0 ≤ n ∧ n < 256
theorem Oct.nil : Oct [] := fun n h => by cases h
theorem Oct.cons {n : Int} {ns : List Int} (h : 0 ≤ n ∧ n < 256) (r : Oct ns) : Oct (n :: ns) := fun m hm => by
  rcases List.mem_cons.mp hm with rfl | hm
  · exact h
  · exact r m hm
theorem Oct.append {a b : List Int} (h : Oct a) (r : Oct b) : Oct (a ++ b) := fun m hm => by
  rcases List.mem_append.mp hm with hm | hm
  · exact h m hm
  · exact r m hm
theorem Oct.take {a : List Int} (n : Nat) (h : Oct a) : Oct (a.take n) := fun m hm => h m (List.mem_of_mem_take hm)
theorem Oct.drop {a : List Int} (n : Nat) (h : Oct a) : Oct (a.drop n) := fun m hm => h m (List.mem_of_mem_drop hm)
theorem dd_sm {e : Deed} (h : e.ok) : smD e.dd = true ∧ depD e.dd ≤ 1 ∧ szD e.dd ≤ 100 := by
  cases e with
  | undo => exact ⟨by decide +kernel, by decide +kernel, by decide +kernel⟩
  | move n =>
    have h : 0 ≤ n ∧ n < 256 := h
    have s : PyData.strOk "move" = true := by decide +kernel
    refine ⟨?_, by simp only [Deed.dd, depD, depDL]; omega, ?_⟩
    · simp only [Deed.dd, smD, smDL, s, Bool.and_true, Bool.true_and, Bool.and_eq_true, decide_eq_true_eq]; omega
    · have s2 : (Str.cps "move").size = 4 := by decide +kernel
      simp only [Deed.dd, szD, szDL, s2]; omega
  | year cs =>
    obtain ⟨h1, h2, h3⟩ := h
    have s : PyData.strOk "year" = true := by decide +kernel
    refine ⟨?_, by simp only [Deed.dd, depD, depDL]; omega, ?_⟩
    · simp only [Deed.dd, smD, smDL, s, Bool.and_true, Bool.true_and]
      exact strOk_small fun c hc => by have := h3 c hc; omega
    · have s2 : (Str.cps "year").size = 4 := by decide +kernel
      simp only [Deed.dd, szD, szDL, s2, List.size_toArray]; omega
structure Pt where
  s : Int
  t : Int
  p : Int
def Pt.dd (x : Pt) : D := .tup [.int x.s, .int x.t, .int x.p]
structure AS where
  past : List Pt
  deeds : List Deed
def AS.new : AS := ⟨[⟨0, 0, 0⟩], []⟩
def carOf (pl : PL) (p : Int × Int) : Option Cary := (pl.find? fun e => decide (e.1 = p)).map (·.2)
def lastP (a : AS) : Pt := a.past.getLast?.getD ⟨0, 0, 0⟩
def machAt (ms : List Mach) (s : Int) : Mach := ms[s.toNat]?.getD ⟨[], [], [], []⟩
def fstr (cs : List Nat) : Str := ⟨cs.toArray⟩
/-- what a deed comes to -/
inductive Ev where
  | num (g : Int) (a : AS) | tru (a : AS) | fls | unk (cs : List Nat) | noc (s n : Int)
def doA (ms : List Mach) (pl : PL) (fs : List Str) (a : AS) : Deed → Ev
  | .undo => match a.deeds with
    | [] => .fls
    | _ :: _ => .tru ⟨a.past.dropLast, a.deeds.dropLast⟩
  | .year cs => if fstr cs ∈ fs then .num ((machAt ms (lastP a).s).gn (lastP a).t.toNat (fstr cs)) ⟨a.past ++ [⟨(lastP a).s, (machAt ms (lastP a).s).stp (lastP a).t.toNat (fstr cs), (lastP a).p + (machAt ms (lastP a).s).gn (lastP a).t.toNat (fstr cs)⟩], a.deeds ++ [.year cs]⟩ else .unk cs
  | .move n => match carOf pl ((lastP a).s, n) with
    | some c => .num (c.cost.getD (lastP a).t.toNat 0) ⟨a.past ++ [⟨n, c.to.getD (lastP a).t.toNat 0, (lastP a).p - c.cost.getD (lastP a).t.toNat 0⟩], a.deeds ++ [.move n]⟩
    | none => .noc (lastP a).s n
def Ev.dd : Ev → D
  | .num g _ => .int g
  | .tru _ => .bl true
  | .fls => .bl false
  | .unk cs => .tup [.str "unknown", .str (fstr cs)]
  | .noc s n => .tup [.str "no carry", .int s, .int n]
def Ev.st (a : AS) : Ev → AS
  | .num _ b => b
  | .tru b => b
  | _ => a
/-- .. or undoing without a deed: nothing is raised -/
def Ev.calm : Ev → Prop
  | .unk _ => False
  | .noc _ _ => False
  | _ => True
def ltrs (fs : List Str) : Prop := ∀ f ∈ fs, f = fstr [102] ∨ f = fstr [103] ∨ f = fstr [104]
structure WOk (ms : List Mach) (pl : PL) (fs : List Str) : Prop where
  so : SOk ms pl
  fa : ∀ m ∈ ms, m.facts = fs
  lt : ltrs fs
  f1 : 1 ≤ fs.length
  f3 : fs.length ≤ 3
structure PIn (ms : List Mach) (i : Nat) (x : Pt) : Prop where
  s0 : 0 ≤ x.s
  s1 : x.s < ms.length
  t0 : 0 ≤ x.t
  t1 : x.t < nst ms x.s
  p0 : -(10 * (i : Int)) ≤ x.p
  p1 : x.p ≤ 10 * (i : Int)
structure AInv (ms : List Mach) (a : AS) : Prop where
  ln : a.past.length = a.deeds.length + 1
  pt : ∀ i x, a.past[i]? = some x → PIn ms i x
theorem AInv.last {ms : List Mach} {a : AS} (h : AInv ms a) : a.past.getLast? = some (lastP a) ∧ PIn ms a.deeds.length (lastP a) := by
  have e : a.past.getLast? = some (a.past[a.deeds.length]'(by rw [h.ln]; omega)) := by
    rw [List.getLast?_eq_getElem?, show a.past.length - 1 = a.deeds.length by have := h.ln; omega]
    exact List.getElem?_eq_getElem _
  have e2 : lastP a = a.past[a.deeds.length]'(by rw [h.ln]; omega) := by unfold lastP; rw [e]; rfl
  refine ⟨by rw [e, e2], ?_⟩
  rw [e2]
  exact h.pt _ _ (List.getElem?_eq_getElem _)
theorem AInv.new {ms : List Mach} {pl : PL} (ok : SOk ms pl) : AInv ms AS.new := by
  refine ⟨rfl, fun i x e => ?_⟩
  cases i with
  | zero =>
    cases e
    have := ok.n1
    exact ⟨Int.le_refl _, by show (0 : Int) < _; omega, Int.le_refl _, by have := ok.nst1 (k := 0) (Int.le_refl _) (by omega); show (0 : Int) < nst ms 0; omega, by show -(10 * ((0 : Nat) : Int)) ≤ 0; omega, by show (0 : Int) ≤ 10 * ((0 : Nat) : Int); omega⟩
  | succ i => cases e
theorem atI_lst {ds : List D} {d : D} : atI (ds ++ [d]) (-1) = some d := by
  unfold atI ixN
  rw [List.length_append, List.length_singleton]
  simp only [Int.reduceNeg, Int.natCast_add]
  rw [if_neg (by omega), if_pos (by omega)]
  show (ds ++ [d])[_]? = some d
  rw [show (-1 + ((ds.length : Int) + ((1 : Nat) : Int))).toNat = ds.length by omega]
  simp
theorem last_split {α : Type} {l : List α} {x : α} (h : l.getLast? = some x) : l = l.dropLast ++ [x] := by
  cases l with
  | nil => cases h
  | cons a l =>
    rw [List.getLast?_eq_some_getLast (by simp)] at h
    cases h
    exact (List.dropLast_concat_getLast (by simp)).symm
theorem AInv.at1 {ms : List Mach} {a : AS} (h : AInv ms a) : atI (a.past.map Pt.dd) (-1) = some (lastP a).dd := by
  have e := last_split h.last.1
  rw [e, List.map_append]
  have e3 : lastP a = lastP ⟨a.past.dropLast ++ [lastP a], a.deeds⟩ := by
    show _ = (a.past.dropLast ++ [lastP a]).getLast?.getD _
    simp
  exact atI_lst
theorem machAt_at {ms : List Mach} {s : Int} (h0 : 0 ≤ s) (h1 : s < ms.length) : machAt ms s ∈ ms ∧ atI (ms.map Mach.dd) s = some (machAt ms s).dd ∧ nst ms s = (machAt ms s).leave.length := by
  obtain ⟨m, e, hm, ea⟩ := ms_at h0 h1
  have e2 : machAt ms s = m := by unfold machAt; rw [e]; rfl
  rw [e2]
  exact ⟨hm, ea, nst_at h0 e⟩
theorem carOf_some {pl : PL} {p : Int × Int} {c : Cary} (h : carOf pl p = some c) : (p, c) ∈ pl := by
  unfold carOf at h
  cases e : pl.find? fun e => decide (e.1 = p) with
  | none => rw [e] at h; cases h
  | some x =>
    rw [e] at h
    cases h
    have h1 := List.find?_some e
    have h2 := List.mem_of_find?_eq_some e
    have : x.1 = p := of_decide_eq_true h1
    subst this
    exact h2
theorem carOf_none {pl : PL} {p : Int × Int} (h : carOf pl p = none) : p ∉ pl.map (·.1) := by
  unfold carOf at h
  rw [Option.map_eq_none_iff, List.find?_eq_none] at h
  intro z
  obtain ⟨e, he, rfl⟩ := List.mem_map.mp z
  exact h e he (by simp)
/-- a carry at a state -/
theorem WOk.car {ms : List Mach} {pl : PL} {fs : List Str} (w : WOk ms pl fs) {s n : Int} {c : Cary} (h : carOf pl (s, n) = some c) {t : Int} (t0 : 0 ≤ t) (t1 : t < nst ms s) :
    0 ≤ n ∧ n < ms.length ∧ 0 ≤ c.to.getD t.toNat 0 ∧ c.to.getD t.toNat 0 < nst ms n ∧ -10 ≤ c.cost.getD t.toNat 0 ∧ c.cost.getD t.toNat 0 ≤ 10 ∧ atI (c.to.map D.int) t = some (.int (c.to.getD t.toNat 0)) ∧ atI (c.cost.map D.int) t = some (.int (c.cost.getD t.toNat 0)) := by
  have hm := carOf_some h
  obtain ⟨p0, p1, p2, p3, co⟩ := w.so.pr _ hm
  have ht := Cary.to_in co t0 (by exact t1)
  have elc : c.cost.length = nst ms s := co.lc
  have hl : t.toNat < c.cost.length := by omega
  have hc := w.so.pc _ hm _ (getD_in (a := 0) hl)
  exact ⟨p2, p3, ht.1, ht.2, hc.1, hc.2, Cary.at_to co t0 t1, atI_nat t0 (by rw [List.getElem?_map, getD_at (a := 0) hl]; rfl)⟩
theorem AInv.step {ms : List Mach} {pl : PL} {fs : List Str} {a : AS} (w : WOk ms pl fs) (h : AInv ms a) (e : Deed) : AInv ms ((doA ms pl fs a e).st a) := by
  obtain ⟨hl, hp⟩ := h.last
  have add : ∀ (x : Pt) (e : Deed), PIn ms (a.deeds.length + 1) x → AInv ms ⟨a.past ++ [x], a.deeds ++ [e]⟩ := fun x e hx => by
    refine ⟨by show (a.past ++ [x]).length = (a.deeds ++ [e]).length + 1; rw [List.length_append, List.length_append, h.ln]; rfl, fun i y ey => ?_⟩
    have ey : (a.past ++ [x])[i]? = some y := ey
    by_cases hi : i < a.past.length
    · rw [List.getElem?_append_left hi] at ey
      exact h.pt i y ey
    · rw [List.getElem?_append_right (by omega)] at ey
      have : i - a.past.length = 0 := by
        rcases Nat.eq_zero_or_pos (i - a.past.length) with z | z
        · exact z
        · rw [List.getElem?_eq_none (by rw [List.length_singleton]; omega)] at ey; cases ey
      rw [this] at ey
      cases ey
      have : i = a.deeds.length + 1 := by have := h.ln; omega
      rw [this]; exact hx
  cases e with
  | undo =>
    simp only [doA]
    cases ed : a.deeds with
    | nil => exact h
    | cons d ds =>
      simp only [Ev.st]
      refine ⟨?_, fun i y ey => ?_⟩
      · show a.past.dropLast.length = (d :: ds).dropLast.length + 1
        rw [List.length_dropLast, List.length_dropLast, h.ln, ed]; rfl
      · have ey : a.past.dropLast[i]? = some y := ey
        rw [List.getElem?_dropLast] at ey
        split at ey
        · exact h.pt i y ey
        · cases ey
  | year cs =>
    simp only [doA]
    by_cases hf : fstr cs ∈ fs
    · rw [if_pos hf]
      obtain ⟨m1, m2, m3⟩ := machAt_at hp.s0 hp.s1
      have mo := w.so.mo _ m1
      have fa := w.fa _ m1
      have t1 := hp.t1
      have t0 := hp.t0
      have hs := Mach.stp_in mo (s := (lastP a).t.toNat) (x := fstr cs) (by omega) (by rw [fa]; exact hf)
      have hg := Mach.gn_in mo (s := (lastP a).t.toNat) (x := fstr cs) (by omega) (by rw [fa]; exact hf)
      have p0 := hp.p0
      have p1 := hp.p1
      exact add _ _ ⟨hp.s0, hp.s1, hs.1, by show _ < (nst ms (lastP a).s : Int); rw [m3]; exact hs.2, by show _ ≤ _ + _; omega, by show _ + _ ≤ _; omega⟩
    · rw [if_neg hf]; exact h
  | move n =>
    simp only [doA]
    cases ec : carOf pl ((lastP a).s, n) with
    | none => exact h
    | some c =>
      obtain ⟨h1, h2, h3, h4, h5, h6, _⟩ := w.car ec hp.t0 hp.t1
      have p0 := hp.p0
      have p1 := hp.p1
      exact add _ _ ⟨h1, h2, h3, h4, by show _ ≤ _ - _; omega, by show _ - _ ≤ _; omega⟩
def acF : List Str := ["schemes", "carries", "deeds", "past"]
structure AC where
  s : Addr
  d : Addr
  p : Addr
  ms : List Mach
  pl : PL
  a : AS
def AC.cells (c : AC) : List Cl := [(c.s, .ins "Account" acF [.lst (c.ms.map Mach.dd), caD c.pl, .ad c.d, .ad c.p]), (c.d, .lst (c.a.deeds.map Deed.dd)), (c.p, .lst (c.a.past.map Pt.dd))]
structure PC where
  p : Addr
  d : Addr
  a : AS
def PC.cells (c : PC) : List Cl := [(c.p, .lst (c.a.past.map Pt.dd)), (c.d, .lst (c.a.deeds.map Deed.dd))]
section
variable {x y z w : D}
theorem lka_schemes : lookD acF [x, y, z, w] "schemes" = some x := by
  unfold acF
  simp only [lookD, if_true]
theorem lka_carries : lookD acF [x, y, z, w] "carries" = some y := by
  unfold acF
  simp only [lookD, if_true, show (("carries" : Str) = "schemes") = False from eq_false (by decide +kernel), if_false]
theorem lka_deeds : lookD acF [x, y, z, w] "deeds" = some z := by
  unfold acF
  simp only [lookD, if_true, show (("deeds" : Str) = "schemes") = False from eq_false (by decide +kernel), show (("deeds" : Str) = "carries") = False from eq_false (by decide +kernel), if_false]
theorem lka_past : lookD acF [x, y, z, w] "past" = some w := by
  unfold acF
  simp only [lookD, if_true, show (("past" : Str) = "schemes") = False from eq_false (by decide +kernel), show (("past" : Str) = "carries") = False from eq_false (by decide +kernel), show (("past" : Str) = "deeds") = False from eq_false (by decide +kernel), if_false]
theorem fa_1 : fldF ([] : List Str) "schemes" = (["schemes"] : List Str) := rfl
theorem fa_2 : fldF (["schemes"] : List Str) "carries" = (["schemes", "carries"] : List Str) := by decide +kernel
theorem fa_3 : fldF (["schemes", "carries"] : List Str) "deeds" = (["schemes", "carries", "deeds"] : List Str) := by decide +kernel
theorem fa_4 : fldF (["schemes", "carries", "deeds"] : List Str) "past" = acF := by decide +kernel
theorem fb_1 : fldD [] [] "schemes" x = [x] := rfl
theorem fb_2 : fldD ["schemes"] [x] "carries" y = [x, y] := by
  simp only [fldD, show (("schemes" : Str) = "carries") = False from eq_false (by decide +kernel), if_false, List.nil_append]
theorem fb_3 : fldD ["schemes", "carries"] [x, y] "deeds" z = [x, y, z] := by
  simp only [fldD, show (("schemes" : Str) = "deeds") = False from eq_false (by decide +kernel), show (("carries" : Str) = "deeds") = False from eq_false (by decide +kernel), if_false, List.nil_append]
theorem fb_4 : fldD ["schemes", "carries", "deeds"] [x, y, z] "past" w = [x, y, z, w] := by
  simp only [fldD, show (("schemes" : Str) = "past") = False from eq_false (by decide +kernel), show (("carries" : Str) = "past") = False from eq_false (by decide +kernel), show (("deeds" : Str) = "past") = False from eq_false (by decide +kernel), if_false, List.nil_append]
end
theorem th2_ne {p q : Int × Int} (h1 : 0 ≤ p.1 ∧ p.1 < 3 ∧ 0 ≤ p.2 ∧ p.2 < 3) (h2 : 0 ≤ q.1 ∧ q.1 < 3 ∧ 0 ≤ q.2 ∧ q.2 < 3) (h : p ≠ q) : th2 p ≠ th2 q := by
  have key : ∀ i j k l : _root_.Fin 3, ((i.val : Int), (j.val : Int)) ≠ ((k.val : Int), (l.val : Int)) → th2 ((i.val : Int), (j.val : Int)) ≠ th2 ((k.val : Int), (l.val : Int)) := by decide +kernel
  obtain ⟨a, b⟩ := p
  obtain ⟨c, d⟩ := q
  have := key ⟨a.toNat, by simp only at h1; omega⟩ ⟨b.toNat, by simp only at h1; omega⟩ ⟨c.toNat, by simp only at h2; omega⟩ ⟨d.toNat, by simp only at h2; omega⟩
  simp only at this h1 h2
  rw [Int.toNat_of_nonneg h1.1, Int.toNat_of_nonneg h1.2.2.1, Int.toNat_of_nonneg h2.1, Int.toNat_of_nonneg h2.2.2.1] at this
  exact this h
theorem SOk.hashes {ms : List Mach} {pl : PL} (ok : SOk ms pl) : ((pl.map (·.1)).map th2).Nodup := by
  have nd := ok.pnd
  have n3 := ok.n3
  unfold List.Nodup at nd ⊢
  rw [List.pairwise_map, List.pairwise_map]
  rw [List.pairwise_map] at nd
  refine nd.imp_of_mem fun {a b} ha hb h => ?_
  obtain ⟨a0, a1, a2, a3, _⟩ := ok.pr a ha
  obtain ⟨b0, b1, b2, b3, _⟩ := ok.pr b hb
  exact th2_ne ⟨a0, by omega, a2, by omega⟩ ⟨b0, by omega, b2, by omega⟩ h
theorem notin_fs {x : Str} {l : List Str} {Q : D → Prop} (q : Q (.bl (!decide (x ∈ l)))) : dInB not (.str x) (.lst (l.map D.str)) Q := by
  refine ⟨.inl ⟨rfl, by rw [List.all_map]; exact List.all_eq_true.mpr fun _ _ => rfl⟩, ?_⟩
  rw [show ((l.map D.str).any fun z => eqD z (.str x)) = decide (x ∈ l) by
    rw [List.any_map, Bool.eq_iff_iff, List.any_eq_true, decide_eq_true_eq]
    constructor
    · rintro ⟨y, hy, h⟩
      have : y = x := by simpa [eqD] using h
      rw [← this]; exact hy
    · intro h
      exact ⟨x, h, by simp [eqD]⟩]
  exact q
theorem notin_plk {pl : PL} {g : Cary → D} {p : Int × Int} {Q : D → Prop} (q : Q (.bl (!decide (p ∈ pl.map (·.1))))) : dInB not (.tup [.int p.1, .int p.2]) (.dt (pl.map fun e => qK e.1) (pl.map fun e => g e.2)) Q := by
  by_cases h : p ∈ pl.map (·.1)
  · obtain ⟨e, he, rfl⟩ := List.mem_map.mp h
    rw [decide_eq_true h] at q
    have : ∃ d, alD (pl.map fun e => qK e.1) (pl.map fun e => g e.2) (qK e.1) = some d := by
      clear q h
      induction pl with
      | nil => cases he
      | cons x pl ih =>
        simp only [List.map_cons, alD]
        by_cases z : qK x.1 = qK e.1
        · rw [if_pos z]; exact ⟨_, rfl⟩
        · rw [if_neg z]
          rcases List.mem_cons.mp he with rfl | he
          · exact absurd rfl z
          · exact ih he
    obtain ⟨d, hd⟩ := this
    exact ⟨some d, by show Option.map _ (some _) = _; exact congrArg some hd, q⟩
  · rw [decide_eq_false h] at q
    exact ⟨none, by show Option.map _ (some _) = _; exact congrArg some (alD_pl_none h), q⟩
theorem sn_my : (("move" : Str) = "year") = False := eq_false (by decide +kernel)
theorem sn_yu : (("year" : Str) = "undo") = False := eq_false (by decide +kernel)
theorem sn_mu : (("move" : Str) = "undo") = False := eq_false (by decide +kernel)
theorem acF_nd : ("year" : Str) ∉ acF ∧ ("move" : Str) ∉ acF ∧ ("undo" : Str) ∉ acF ∧ ("scheme" : Str) ∉ acF ∧ ("state" : Str) ∉ acF ∧ ("paid" : Str) ∉ acF ∧ ("worth" : Str) ∉ acF ∧ ("branch" : Str) ∉ acF := by decide +kernel
theorem mem_pl {pl : PL} {p : Int × Int} {c : Cary} (h : carOf pl p = some c) : p ∈ pl.map (·.1) := List.mem_map.mpr ⟨_, carOf_some h, rfl⟩
theorem pl_at {g : Cary → D} {pl : PL} {s n : Int} {c : Cary} {Q : D → Prop} (nd : (pl.map (·.1)).Nodup) (h : carOf pl (s, n) = some c) (q : Q (g c)) : dIx (.dt (pl.map fun e => qK e.1) (pl.map fun e => g e.2)) (.tup [.int s, .int n]) Q :=
  pl_ix (e := ((s, n), c)) nd (carOf_some h) q
theorem shw_ev {ms : List Mach} {pl : PL} {fs : List Str} {a : AS} (w : WOk ms pl fs) (h : AInv ms a) {e : Deed} (he : e.ok) : Shw (doA ms pl fs a e).dd := by
  obtain ⟨hl, hp⟩ := h.last
  have n3 := w.so.n3
  have s0 := hp.s0
  have s1 := hp.s1
  have t0 := hp.t0
  have t1 := hp.t1
  have si : ∀ i : Int, -1000 ≤ i → i ≤ 1000 → Shw (.int i) := fun i h1 h2 => .of (by simp only [smD, Bool.and_eq_true, decide_eq_true_eq]; omega) (by simp only [depD]; omega) (by simp only [szD]; omega)
  have sb : ∀ b : Bool, Shw (.bl b) := fun b => .of (by simp only [smD]) (by simp only [depD]; omega) (by simp only [szD]; omega)
  cases e with
  | undo =>
    simp only [doA]
    split <;> exact sb _
  | year cs =>
    simp only [doA]
    split
    · rename_i hf
      obtain ⟨m1, m2, m3⟩ := machAt_at s0 s1
      have hg := Mach.gn_in (w.so.mo _ m1) (s := (lastP a).t.toNat) (x := fstr cs) (by omega) (by rw [w.fa _ m1]; exact hf)
      exact si _ (by omega) (by omega)
    · obtain ⟨d1, d2, d3⟩ := dd_sm (e := .year cs) he
      simp only [Deed.dd, smD, smDL, Bool.and_true, Bool.and_eq_true] at d1
      simp only [Deed.dd, szD, szDL] at d3
      have e1 : PyData.strOk "unknown" = true := by decide +kernel
      have e2 : ("unknown" : Str).cps.size = 7 := by decide +kernel
      exact .of (by simp only [Ev.dd, fstr, smD, smDL, d1.2, e1, Bool.and_true]) (by simp only [Ev.dd, depD, depDL]; omega) (by simp only [Ev.dd, fstr, szD, szDL, e2]; omega)
  | move n =>
    have hn : 0 ≤ n ∧ n < 256 := he
    simp only [doA]
    split
    · rename_i c ec
      obtain ⟨_, _, _, _, h5, h6, _⟩ := w.car ec t0 t1
      exact si _ (by omega) (by omega)
    · have e1 : PyData.strOk "no carry" = true := by decide +kernel
      have e2 : ("no carry" : Str).cps.size = 8 := by decide +kernel
      exact .of (by simp only [Ev.dd, smD, smDL, e1, Bool.and_true, Bool.true_and, Bool.and_eq_true, decide_eq_true_eq]; omega) (by simp only [Ev.dd, depD, depDL]; omega) (by simp only [Ev.dd, szD, szDL, e2]; omega)
def wf_Account_init : WFg
  | [.sh (.ad x), .sh d1, .sh d2], gs, Q => gs = [(x, .ins "Account" [] [])] ∧ ∃ ms pl, d1 = .lst (ms.map Mach.dd) ∧ d2 = caD pl ∧ SOk ms pl ∧ ∀ d p, Q .non (AC.cells ⟨x, d, p, ms, pl, AS.new⟩)
  | _, _, _ => False
theorem len_Account_init : ∀ as gs Qd, wf_Account_init as gs Qd → as.length = 3 ∧ gs.length ≤ 3 := fun as gs Qd h => by
  unfold wf_Account_init at h
  split at h
  · obtain ⟨rfl, _⟩ := h; exact ⟨rfl, by simp⟩
  · exact h.elim
def w_Account_init : WS := (wSeq (wSetC 3 "Account" "schemes" (wVar 0) (wUn jb (wPk 1)))
 (wSeq (wSetC 3 "Account" "carries" (wVar 0) (wUn dDictC (wPk 2)))
 (wSeq (wSetC 3 "Account" "deeds" (wVar 0) (wNew 4 (wfLst waNil)))
 (wSetC 3 "Account" "past" (wVar 0) (wNew 5 (wfLst (waCons (wTup (waCons (wC (.int 0)) (waCons (wC (.int 0)) (waCons (wC (.int 0)) waNil)))) waNil)))))))
theorem p_Account_init : ∀ as gs Qd, wf_Account_init as gs Qd → w_Account_init (startG 0 3 as gs) (endG [3, 4, 5] Qd) := fun as gs Qd h => by
  unfold wf_Account_init at h
  split at h
  · rename_i x d1 d2
    obtain ⟨rfl, ms, pl, rfl, rfl, ok, q⟩ := h
    show w_Account_init [.sh (.ad x), .sh (.lst (ms.map Mach.dd)), .sh (caD pl), .gh x (.ins "Account" [] []), .no, .no] _
    simp only [w_Account_init, caD, ↓za, ↓zb, ↓zc, ↓zd, ↓ze, ↓zf, ↓zg, ↓zh, ↓zi, ↓zj, ↓zk, ↓zl, ↓zm, ↓zn, ↓zo, ↓zp, ↓zq, ↓zr, ↓zt, ↓zu, ↓zv, ↓zw, ↓zx, zy, zz, ↓z3, ↓z7, ↓z8, ↓z9, ↓zA, ↓zB, ↓zC, ↓zD, ↓zE, ↓zF, ↓zG, ↓zH, ↓zI, ↓zJ, ↓zK, ↓zL, ↓zM, ↓zN, ↓zO, ↓zP, ↓zQ, ↓zR, ↓zS, ↓zT, ↓zU, ↓zV, ↓zW, ↓zX, ↓zY, ↓zZ, ↓xf, ↓xg, ↓xh, ↓xi, ↓xj, ↓xk, ↓xl, ↓xm, ↓xq, xt, ↓xu, ↓xw, ↓xy, ↓xz, ↓x5, ↓x6, ↓x7, ↓x8, ↓x9, ↓xB, ↓xD, ↓xE, ↓xF, ↓xG, ↓xH, ↓xI, ↓xJ, ↓xK, ↓xL, ↓xM, ↓xN, ↓xO, ↓xP, ↓xQ, ↓xR, ↓xS, ↓xT, ↓xU, ↓xV, ↓xW, ↓xX, ↓xY, ↓xZ, ↓qb, ↓qc, ↓qd, ↓qf, ↓qg, ↓qh, ↓qi, ↓qj, ↓qk, ↓ql, ↓qm, ↓qo, ↓qp, ↓qr, ↓qt, ↓qu, ↓qv, ↓qw, ↓qz, ↓qA, ↓qB, ↓qC, ↓qE, ↓qF, ↓qG, ↓qH, ↓qI, ↓qJ, ↓qL, ↓qM, ↓qN, ↓qO, ↓qP, ↓qQ, ↓qR, ↓qS, ↓qT, ↓qU, ↓qV, ↓qW, ↓qX, ↓qY, ↓qZ, ↓vf, ↓vg, ↓vh, ↓vi, ↓vj, ↓vk, ↓vl, ↓vm, ↓vo, ↓vp, ↓vq, ↓vt, ↓vu, ↓vw, vz, v6, ↓v7, ↓v8, ↓v9, ↓vA, ↓vB, ↓vC, ↓vD, ↓vE, ↓vF, ↓vG, ↓vH, ↓vI, ↓vJ, ↓vK, ↓vL, ↓vM, ↓vN, ↓vO, dLt, dLe, dGt, dGe, vP, vQ, vR, vS, vT, dI2, vU, vV, dEq, dNe, vW, vX, vY, vZ, ja, jb, jc, jd, je, jf, Option.some.injEq, jg, jh, ji, jk, jl, dIs, jm, jn, shs, kiC, jo, jp, obD, id_eq, List.getElem?_cons_zero, List.getElem?_cons_succ, List.set_cons_zero, List.set_cons_succ, List.length_cons, List.length_nil, D.bl.injEq, exists_eq_left', decide_eq_true_eq, decide_eq_false_iff_not, Bool.not_eq_true', Bool.not_eq_false', Nat.zero_add, Nat.reduceAdd, true_and, and_true, forall_const, reduceCtorEq, not_true_eq_false, not_false_eq_true, false_implies, true_implies, implies_true, jq, Nat.reduceLeDiff, Int.reduceLE, Int.reduceLT, Int.reduceNeg, Int.reducePow, Int.reduceAdd, Int.reduceSub, Int.reduceMul, Nat.reduceLT, dDictC, jb, fa_1, fb_1, fa_2, fb_2, fa_3, fb_3, fa_4, fb_4]
    refine ⟨pl.map (·.1), by rw [List.map_map]; rfl, ok.hashes, fun d p => ?_⟩
    exact q d p
  · exact h.elim
def wf_Account_scheme : WFg
  | [.sh (.ad x)], gs, Q => ∃ c : AC, gs = c.cells ∧ x = c.s ∧ AInv c.ms c.a ∧ Q (.int (lastP c.a).s) c.cells
  | _, _, _ => False
theorem len_Account_scheme : ∀ as gs Qd, wf_Account_scheme as gs Qd → as.length = 1 ∧ gs.length ≤ 3 := fun as gs Qd h => by
  unfold wf_Account_scheme at h
  split at h
  · first | exact ⟨rfl, by simp⟩ | (obtain ⟨c, rfl, _⟩ := h; exact ⟨rfl, Nat.le_refl _⟩)
  · exact h.elim
def w_Account_scheme : WS := (wRet (wOp dIx (wOp dIx (wDer 3 (wFld "Account" "past" (wDer 1 (wVar 0)))) (wUn dNeg (wC (.int 1)))) (wC (.int 0))))
theorem p_Account_scheme : ∀ as gs Qd, wf_Account_scheme as gs Qd → w_Account_scheme (startG 0 3 as gs) (endG [1, 2, 3] Qd) := fun as gs Qd h => by
  unfold wf_Account_scheme at h
  split at h
  · obtain ⟨c, rfl, rfl, h, q⟩ := h
    show w_Account_scheme [.sh (.ad c.s), .gh c.s (.ins "Account" acF [.lst (c.ms.map Mach.dd), caD c.pl, .ad c.d, .ad c.p]), .gh c.d (.lst (c.a.deeds.map Deed.dd)), .gh c.p (.lst (c.a.past.map Pt.dd))] _
    simp only [w_Account_scheme, ↓za, ↓zb, ↓zc, ↓zd, ↓ze, ↓zf, ↓zg, ↓zh, ↓zi, ↓zj, ↓zk, ↓zl, ↓zm, ↓zn, ↓zo, ↓zp, ↓zq, ↓zr, ↓zt, ↓zu, ↓zv, ↓zw, ↓zx, zy, zz, ↓z3, ↓z7, ↓z8, ↓z9, ↓zA, ↓zB, ↓zC, ↓zD, ↓zE, ↓zF, ↓zG, ↓zH, ↓zI, ↓zJ, ↓zK, ↓zL, ↓zM, ↓zN, ↓zO, ↓zP, ↓zQ, ↓zR, ↓zS, ↓zT, ↓zU, ↓zV, ↓zW, ↓zX, ↓zY, ↓zZ, ↓xf, ↓xg, ↓xh, ↓xi, ↓xj, ↓xk, ↓xl, ↓xm, ↓xq, xt, ↓xu, ↓xw, ↓xy, ↓xz, ↓x5, ↓x6, ↓x7, ↓x8, ↓x9, ↓xB, ↓xD, ↓xE, ↓xF, ↓xG, ↓xH, ↓xI, ↓xJ, ↓xK, ↓xL, ↓xM, ↓xN, ↓xO, ↓xP, ↓xQ, ↓xR, ↓xS, ↓xT, ↓xU, ↓xV, ↓xW, ↓xX, ↓xY, ↓xZ, ↓qb, ↓qc, ↓qd, ↓qf, ↓qg, ↓qh, ↓qi, ↓qj, ↓qk, ↓ql, ↓qm, ↓qo, ↓qp, ↓qr, ↓qt, ↓qu, ↓qv, ↓qw, ↓qz, ↓qA, ↓qB, ↓qC, ↓qE, ↓qF, ↓qG, ↓qH, ↓qI, ↓qJ, ↓qL, ↓qM, ↓qN, ↓qO, ↓qP, ↓qQ, ↓qR, ↓qS, ↓qT, ↓qU, ↓qV, ↓qW, ↓qX, ↓qY, ↓qZ, ↓vf, ↓vg, ↓vh, ↓vi, ↓vj, ↓vk, ↓vl, ↓vm, ↓vo, ↓vp, ↓vq, ↓vt, ↓vu, ↓vw, vz, v6, ↓v7, ↓v8, ↓v9, ↓vA, ↓vB, ↓vC, ↓vD, ↓vE, ↓vF, ↓vG, ↓vH, ↓vI, ↓vJ, ↓vK, ↓vL, ↓vM, ↓vN, ↓vO, dLt, dLe, dGt, dGe, vP, vQ, vR, vS, vT, dI2, vU, vV, dEq, dNe, vW, vX, vY, vZ, ja, jb, jc, jd, je, jf, Option.some.injEq, jg, jh, ji, jk, jl, dIs, jm, jn, shs, kiC, jo, jp, obD, id_eq, List.getElem?_cons_zero, List.getElem?_cons_succ, List.set_cons_zero, List.set_cons_succ, List.length_cons, List.length_nil, D.bl.injEq, exists_eq_left', decide_eq_true_eq, decide_eq_false_iff_not, Bool.not_eq_true', Bool.not_eq_false', Nat.zero_add, Nat.reduceAdd, true_and, and_true, forall_const, reduceCtorEq, not_true_eq_false, not_false_eq_true, false_implies, true_implies, implies_true, jq, Nat.reduceLeDiff, Int.reduceLE, Int.reduceLT, Int.reduceNeg, Int.reducePow, Int.reduceAdd, Int.reduceSub, Int.reduceMul, lka_past, dNeg]
    refine ⟨_, h.at1, ?_⟩
    simp only [Pt.dd, ↓za, ↓zb, ↓zc, ↓zd, ↓ze, ↓zf, ↓zg, ↓zh, ↓zi, ↓zj, ↓zk, ↓zl, ↓zm, ↓zn, ↓zo, ↓zp, ↓zq, ↓zr, ↓zt, ↓zu, ↓zv, ↓zw, ↓zx, zy, zz, ↓z3, ↓z7, ↓z8, ↓z9, ↓zA, ↓zB, ↓zC, ↓zD, ↓zE, ↓zF, ↓zG, ↓zH, ↓zI, ↓zJ, ↓zK, ↓zL, ↓zM, ↓zN, ↓zO, ↓zP, ↓zQ, ↓zR, ↓zS, ↓zT, ↓zU, ↓zV, ↓zW, ↓zX, ↓zY, ↓zZ, ↓xf, ↓xg, ↓xh, ↓xi, ↓xj, ↓xk, ↓xl, ↓xm, ↓xq, xt, ↓xu, ↓xw, ↓xy, ↓xz, ↓x5, ↓x6, ↓x7, ↓x8, ↓x9, ↓xB, ↓xD, ↓xE, ↓xF, ↓xG, ↓xH, ↓xI, ↓xJ, ↓xK, ↓xL, ↓xM, ↓xN, ↓xO, ↓xP, ↓xQ, ↓xR, ↓xS, ↓xT, ↓xU, ↓xV, ↓xW, ↓xX, ↓xY, ↓xZ, ↓qb, ↓qc, ↓qd, ↓qf, ↓qg, ↓qh, ↓qi, ↓qj, ↓qk, ↓ql, ↓qm, ↓qo, ↓qp, ↓qr, ↓qt, ↓qu, ↓qv, ↓qw, ↓qz, ↓qA, ↓qB, ↓qC, ↓qE, ↓qF, ↓qG, ↓qH, ↓qI, ↓qJ, ↓qL, ↓qM, ↓qN, ↓qO, ↓qP, ↓qQ, ↓qR, ↓qS, ↓qT, ↓qU, ↓qV, ↓qW, ↓qX, ↓qY, ↓qZ, ↓vf, ↓vg, ↓vh, ↓vi, ↓vj, ↓vk, ↓vl, ↓vm, ↓vo, ↓vp, ↓vq, ↓vt, ↓vu, ↓vw, vz, v6, ↓v7, ↓v8, ↓v9, ↓vA, ↓vB, ↓vC, ↓vD, ↓vE, ↓vF, ↓vG, ↓vH, ↓vI, ↓vJ, ↓vK, ↓vL, ↓vM, ↓vN, ↓vO, dLt, dLe, dGt, dGe, vP, vQ, vR, vS, vT, dI2, vU, vV, dEq, dNe, vW, vX, vY, vZ, ja, jb, jc, jd, je, jf, Option.some.injEq, jg, jh, ji, jk, jl, dIs, jm, jn, shs, kiC, jo, jp, obD, id_eq, List.getElem?_cons_zero, List.getElem?_cons_succ, List.set_cons_zero, List.set_cons_succ, List.length_cons, List.length_nil, D.bl.injEq, exists_eq_left', decide_eq_true_eq, decide_eq_false_iff_not, Bool.not_eq_true', Bool.not_eq_false', Nat.zero_add, Nat.reduceAdd, true_and, and_true, forall_const, reduceCtorEq, not_true_eq_false, not_false_eq_true, false_implies, true_implies, implies_true, jq, Nat.reduceLeDiff, Int.reduceLE, Int.reduceLT, Int.reduceNeg, Int.reducePow, Int.reduceAdd, Int.reduceSub, Int.reduceMul]
    exact q
  · exact h.elim
def wf_Account_state : WFg
  | [.sh (.ad x)], gs, Q => ∃ c : AC, gs = c.cells ∧ x = c.s ∧ AInv c.ms c.a ∧ Q (.int (lastP c.a).t) c.cells
  | _, _, _ => False
theorem len_Account_state : ∀ as gs Qd, wf_Account_state as gs Qd → as.length = 1 ∧ gs.length ≤ 3 := fun as gs Qd h => by
  unfold wf_Account_state at h
  split at h
  · first | exact ⟨rfl, by simp⟩ | (obtain ⟨c, rfl, _⟩ := h; exact ⟨rfl, Nat.le_refl _⟩)
  · exact h.elim
def w_Account_state : WS := (wRet (wOp dIx (wOp dIx (wDer 3 (wFld "Account" "past" (wDer 1 (wVar 0)))) (wUn dNeg (wC (.int 1)))) (wC (.int 1))))
theorem p_Account_state : ∀ as gs Qd, wf_Account_state as gs Qd → w_Account_state (startG 0 3 as gs) (endG [1, 2, 3] Qd) := fun as gs Qd h => by
  unfold wf_Account_state at h
  split at h
  · obtain ⟨c, rfl, rfl, h, q⟩ := h
    show w_Account_state [.sh (.ad c.s), .gh c.s (.ins "Account" acF [.lst (c.ms.map Mach.dd), caD c.pl, .ad c.d, .ad c.p]), .gh c.d (.lst (c.a.deeds.map Deed.dd)), .gh c.p (.lst (c.a.past.map Pt.dd))] _
    simp only [w_Account_state, ↓za, ↓zb, ↓zc, ↓zd, ↓ze, ↓zf, ↓zg, ↓zh, ↓zi, ↓zj, ↓zk, ↓zl, ↓zm, ↓zn, ↓zo, ↓zp, ↓zq, ↓zr, ↓zt, ↓zu, ↓zv, ↓zw, ↓zx, zy, zz, ↓z3, ↓z7, ↓z8, ↓z9, ↓zA, ↓zB, ↓zC, ↓zD, ↓zE, ↓zF, ↓zG, ↓zH, ↓zI, ↓zJ, ↓zK, ↓zL, ↓zM, ↓zN, ↓zO, ↓zP, ↓zQ, ↓zR, ↓zS, ↓zT, ↓zU, ↓zV, ↓zW, ↓zX, ↓zY, ↓zZ, ↓xf, ↓xg, ↓xh, ↓xi, ↓xj, ↓xk, ↓xl, ↓xm, ↓xq, xt, ↓xu, ↓xw, ↓xy, ↓xz, ↓x5, ↓x6, ↓x7, ↓x8, ↓x9, ↓xB, ↓xD, ↓xE, ↓xF, ↓xG, ↓xH, ↓xI, ↓xJ, ↓xK, ↓xL, ↓xM, ↓xN, ↓xO, ↓xP, ↓xQ, ↓xR, ↓xS, ↓xT, ↓xU, ↓xV, ↓xW, ↓xX, ↓xY, ↓xZ, ↓qb, ↓qc, ↓qd, ↓qf, ↓qg, ↓qh, ↓qi, ↓qj, ↓qk, ↓ql, ↓qm, ↓qo, ↓qp, ↓qr, ↓qt, ↓qu, ↓qv, ↓qw, ↓qz, ↓qA, ↓qB, ↓qC, ↓qE, ↓qF, ↓qG, ↓qH, ↓qI, ↓qJ, ↓qL, ↓qM, ↓qN, ↓qO, ↓qP, ↓qQ, ↓qR, ↓qS, ↓qT, ↓qU, ↓qV, ↓qW, ↓qX, ↓qY, ↓qZ, ↓vf, ↓vg, ↓vh, ↓vi, ↓vj, ↓vk, ↓vl, ↓vm, ↓vo, ↓vp, ↓vq, ↓vt, ↓vu, ↓vw, vz, v6, ↓v7, ↓v8, ↓v9, ↓vA, ↓vB, ↓vC, ↓vD, ↓vE, ↓vF, ↓vG, ↓vH, ↓vI, ↓vJ, ↓vK, ↓vL, ↓vM, ↓vN, ↓vO, dLt, dLe, dGt, dGe, vP, vQ, vR, vS, vT, dI2, vU, vV, dEq, dNe, vW, vX, vY, vZ, ja, jb, jc, jd, je, jf, Option.some.injEq, jg, jh, ji, jk, jl, dIs, jm, jn, shs, kiC, jo, jp, obD, id_eq, List.getElem?_cons_zero, List.getElem?_cons_succ, List.set_cons_zero, List.set_cons_succ, List.length_cons, List.length_nil, D.bl.injEq, exists_eq_left', decide_eq_true_eq, decide_eq_false_iff_not, Bool.not_eq_true', Bool.not_eq_false', Nat.zero_add, Nat.reduceAdd, true_and, and_true, forall_const, reduceCtorEq, not_true_eq_false, not_false_eq_true, false_implies, true_implies, implies_true, jq, Nat.reduceLeDiff, Int.reduceLE, Int.reduceLT, Int.reduceNeg, Int.reducePow, Int.reduceAdd, Int.reduceSub, Int.reduceMul, lka_past, dNeg]
    refine ⟨_, h.at1, ?_⟩
    simp only [Pt.dd, ↓za, ↓zb, ↓zc, ↓zd, ↓ze, ↓zf, ↓zg, ↓zh, ↓zi, ↓zj, ↓zk, ↓zl, ↓zm, ↓zn, ↓zo, ↓zp, ↓zq, ↓zr, ↓zt, ↓zu, ↓zv, ↓zw, ↓zx, zy, zz, ↓z3, ↓z7, ↓z8, ↓z9, ↓zA, ↓zB, ↓zC, ↓zD, ↓zE, ↓zF, ↓zG, ↓zH, ↓zI, ↓zJ, ↓zK, ↓zL, ↓zM, ↓zN, ↓zO, ↓zP, ↓zQ, ↓zR, ↓zS, ↓zT, ↓zU, ↓zV, ↓zW, ↓zX, ↓zY, ↓zZ, ↓xf, ↓xg, ↓xh, ↓xi, ↓xj, ↓xk, ↓xl, ↓xm, ↓xq, xt, ↓xu, ↓xw, ↓xy, ↓xz, ↓x5, ↓x6, ↓x7, ↓x8, ↓x9, ↓xB, ↓xD, ↓xE, ↓xF, ↓xG, ↓xH, ↓xI, ↓xJ, ↓xK, ↓xL, ↓xM, ↓xN, ↓xO, ↓xP, ↓xQ, ↓xR, ↓xS, ↓xT, ↓xU, ↓xV, ↓xW, ↓xX, ↓xY, ↓xZ, ↓qb, ↓qc, ↓qd, ↓qf, ↓qg, ↓qh, ↓qi, ↓qj, ↓qk, ↓ql, ↓qm, ↓qo, ↓qp, ↓qr, ↓qt, ↓qu, ↓qv, ↓qw, ↓qz, ↓qA, ↓qB, ↓qC, ↓qE, ↓qF, ↓qG, ↓qH, ↓qI, ↓qJ, ↓qL, ↓qM, ↓qN, ↓qO, ↓qP, ↓qQ, ↓qR, ↓qS, ↓qT, ↓qU, ↓qV, ↓qW, ↓qX, ↓qY, ↓qZ, ↓vf, ↓vg, ↓vh, ↓vi, ↓vj, ↓vk, ↓vl, ↓vm, ↓vo, ↓vp, ↓vq, ↓vt, ↓vu, ↓vw, vz, v6, ↓v7, ↓v8, ↓v9, ↓vA, ↓vB, ↓vC, ↓vD, ↓vE, ↓vF, ↓vG, ↓vH, ↓vI, ↓vJ, ↓vK, ↓vL, ↓vM, ↓vN, ↓vO, dLt, dLe, dGt, dGe, vP, vQ, vR, vS, vT, dI2, vU, vV, dEq, dNe, vW, vX, vY, vZ, ja, jb, jc, jd, je, jf, Option.some.injEq, jg, jh, ji, jk, jl, dIs, jm, jn, shs, kiC, jo, jp, obD, id_eq, List.getElem?_cons_zero, List.getElem?_cons_succ, List.set_cons_zero, List.set_cons_succ, List.length_cons, List.length_nil, D.bl.injEq, exists_eq_left', decide_eq_true_eq, decide_eq_false_iff_not, Bool.not_eq_true', Bool.not_eq_false', Nat.zero_add, Nat.reduceAdd, true_and, and_true, forall_const, reduceCtorEq, not_true_eq_false, not_false_eq_true, false_implies, true_implies, implies_true, jq, Nat.reduceLeDiff, Int.reduceLE, Int.reduceLT, Int.reduceNeg, Int.reducePow, Int.reduceAdd, Int.reduceSub, Int.reduceMul]
    exact q
  · exact h.elim
def wf_Account_paid : WFg
  | [.sh (.ad x)], gs, Q => ∃ c : AC, gs = c.cells ∧ x = c.s ∧ AInv c.ms c.a ∧ Q (.int (lastP c.a).p) c.cells
  | _, _, _ => False
theorem len_Account_paid : ∀ as gs Qd, wf_Account_paid as gs Qd → as.length = 1 ∧ gs.length ≤ 3 := fun as gs Qd h => by
  unfold wf_Account_paid at h
  split at h
  · first | exact ⟨rfl, by simp⟩ | (obtain ⟨c, rfl, _⟩ := h; exact ⟨rfl, Nat.le_refl _⟩)
  · exact h.elim
theorem atI_two {α : Type} {a b c : α} {l : List α} : atI (a :: b :: c :: l) 2 = some c := atI_nat (by decide) rfl
def w_Account_paid : WS := (wRet (wOp dIx (wOp dIx (wDer 3 (wFld "Account" "past" (wDer 1 (wVar 0)))) (wUn dNeg (wC (.int 1)))) (wC (.int 2))))
theorem p_Account_paid : ∀ as gs Qd, wf_Account_paid as gs Qd → w_Account_paid (startG 0 3 as gs) (endG [1, 2, 3] Qd) := fun as gs Qd h => by
  unfold wf_Account_paid at h
  split at h
  · obtain ⟨c, rfl, rfl, h, q⟩ := h
    show w_Account_paid [.sh (.ad c.s), .gh c.s (.ins "Account" acF [.lst (c.ms.map Mach.dd), caD c.pl, .ad c.d, .ad c.p]), .gh c.d (.lst (c.a.deeds.map Deed.dd)), .gh c.p (.lst (c.a.past.map Pt.dd))] _
    simp only [w_Account_paid, ↓za, ↓zb, ↓zc, ↓zd, ↓ze, ↓zf, ↓zg, ↓zh, ↓zi, ↓zj, ↓zk, ↓zl, ↓zm, ↓zn, ↓zo, ↓zp, ↓zq, ↓zr, ↓zt, ↓zu, ↓zv, ↓zw, ↓zx, zy, zz, ↓z3, ↓z7, ↓z8, ↓z9, ↓zA, ↓zB, ↓zC, ↓zD, ↓zE, ↓zF, ↓zG, ↓zH, ↓zI, ↓zJ, ↓zK, ↓zL, ↓zM, ↓zN, ↓zO, ↓zP, ↓zQ, ↓zR, ↓zS, ↓zT, ↓zU, ↓zV, ↓zW, ↓zX, ↓zY, ↓zZ, ↓xf, ↓xg, ↓xh, ↓xi, ↓xj, ↓xk, ↓xl, ↓xm, ↓xq, xt, ↓xu, ↓xw, ↓xy, ↓xz, ↓x5, ↓x6, ↓x7, ↓x8, ↓x9, ↓xB, ↓xD, ↓xE, ↓xF, ↓xG, ↓xH, ↓xI, ↓xJ, ↓xK, ↓xL, ↓xM, ↓xN, ↓xO, ↓xP, ↓xQ, ↓xR, ↓xS, ↓xT, ↓xU, ↓xV, ↓xW, ↓xX, ↓xY, ↓xZ, ↓qb, ↓qc, ↓qd, ↓qf, ↓qg, ↓qh, ↓qi, ↓qj, ↓qk, ↓ql, ↓qm, ↓qo, ↓qp, ↓qr, ↓qt, ↓qu, ↓qv, ↓qw, ↓qz, ↓qA, ↓qB, ↓qC, ↓qE, ↓qF, ↓qG, ↓qH, ↓qI, ↓qJ, ↓qL, ↓qM, ↓qN, ↓qO, ↓qP, ↓qQ, ↓qR, ↓qS, ↓qT, ↓qU, ↓qV, ↓qW, ↓qX, ↓qY, ↓qZ, ↓vf, ↓vg, ↓vh, ↓vi, ↓vj, ↓vk, ↓vl, ↓vm, ↓vo, ↓vp, ↓vq, ↓vt, ↓vu, ↓vw, vz, v6, ↓v7, ↓v8, ↓v9, ↓vA, ↓vB, ↓vC, ↓vD, ↓vE, ↓vF, ↓vG, ↓vH, ↓vI, ↓vJ, ↓vK, ↓vL, ↓vM, ↓vN, ↓vO, dLt, dLe, dGt, dGe, vP, vQ, vR, vS, vT, dI2, vU, vV, dEq, dNe, vW, vX, vY, vZ, ja, jb, jc, jd, je, jf, Option.some.injEq, jg, jh, ji, jk, jl, dIs, jm, jn, shs, kiC, jo, jp, obD, id_eq, List.getElem?_cons_zero, List.getElem?_cons_succ, List.set_cons_zero, List.set_cons_succ, List.length_cons, List.length_nil, D.bl.injEq, exists_eq_left', decide_eq_true_eq, decide_eq_false_iff_not, Bool.not_eq_true', Bool.not_eq_false', Nat.zero_add, Nat.reduceAdd, true_and, and_true, forall_const, reduceCtorEq, not_true_eq_false, not_false_eq_true, false_implies, true_implies, implies_true, jq, Nat.reduceLeDiff, Int.reduceLE, Int.reduceLT, Int.reduceNeg, Int.reducePow, Int.reduceAdd, Int.reduceSub, Int.reduceMul, lka_past, dNeg]
    refine ⟨_, h.at1, ?_⟩
    simp only [Pt.dd, ↓za, ↓zb, ↓zc, ↓zd, ↓ze, ↓zf, ↓zg, ↓zh, ↓zi, ↓zj, ↓zk, ↓zl, ↓zm, ↓zn, ↓zo, ↓zp, ↓zq, ↓zr, ↓zt, ↓zu, ↓zv, ↓zw, ↓zx, zy, zz, ↓z3, ↓z7, ↓z8, ↓z9, ↓zA, ↓zB, ↓zC, ↓zD, ↓zE, ↓zF, ↓zG, ↓zH, ↓zI, ↓zJ, ↓zK, ↓zL, ↓zM, ↓zN, ↓zO, ↓zP, ↓zQ, ↓zR, ↓zS, ↓zT, ↓zU, ↓zV, ↓zW, ↓zX, ↓zY, ↓zZ, ↓xf, ↓xg, ↓xh, ↓xi, ↓xj, ↓xk, ↓xl, ↓xm, ↓xq, xt, ↓xu, ↓xw, ↓xy, ↓xz, ↓x5, ↓x6, ↓x7, ↓x8, ↓x9, ↓xB, ↓xD, ↓xE, ↓xF, ↓xG, ↓xH, ↓xI, ↓xJ, ↓xK, ↓xL, ↓xM, ↓xN, ↓xO, ↓xP, ↓xQ, ↓xR, ↓xS, ↓xT, ↓xU, ↓xV, ↓xW, ↓xX, ↓xY, ↓xZ, ↓qb, ↓qc, ↓qd, ↓qf, ↓qg, ↓qh, ↓qi, ↓qj, ↓qk, ↓ql, ↓qm, ↓qo, ↓qp, ↓qr, ↓qt, ↓qu, ↓qv, ↓qw, ↓qz, ↓qA, ↓qB, ↓qC, ↓qE, ↓qF, ↓qG, ↓qH, ↓qI, ↓qJ, ↓qL, ↓qM, ↓qN, ↓qO, ↓qP, ↓qQ, ↓qR, ↓qS, ↓qT, ↓qU, ↓qV, ↓qW, ↓qX, ↓qY, ↓qZ, ↓vf, ↓vg, ↓vh, ↓vi, ↓vj, ↓vk, ↓vl, ↓vm, ↓vo, ↓vp, ↓vq, ↓vt, ↓vu, ↓vw, vz, v6, ↓v7, ↓v8, ↓v9, ↓vA, ↓vB, ↓vC, ↓vD, ↓vE, ↓vF, ↓vG, ↓vH, ↓vI, ↓vJ, ↓vK, ↓vL, ↓vM, ↓vN, ↓vO, dLt, dLe, dGt, dGe, vP, vQ, vR, vS, vT, dI2, vU, vV, dEq, dNe, vW, vX, vY, vZ, ja, jb, jc, jd, je, jf, Option.some.injEq, jg, jh, ji, jk, jl, dIs, jm, jn, shs, kiC, jo, jp, obD, id_eq, List.getElem?_cons_zero, List.getElem?_cons_succ, List.set_cons_zero, List.set_cons_succ, List.length_cons, List.length_nil, D.bl.injEq, exists_eq_left', decide_eq_true_eq, decide_eq_false_iff_not, Bool.not_eq_true', Bool.not_eq_false', Nat.zero_add, Nat.reduceAdd, true_and, and_true, forall_const, reduceCtorEq, not_true_eq_false, not_false_eq_true, false_implies, true_implies, implies_true, jq, Nat.reduceLeDiff, Int.reduceLE, Int.reduceLT, Int.reduceNeg, Int.reducePow, Int.reduceAdd, Int.reduceSub, Int.reduceMul, atI_two]
    exact q
  · exact h.elim
def wthA (ms : List Mach) (a : AS) : Int := (lastP a).p + (machAt ms (lastP a).s).lv (lastP a).t.toNat
def wf_Account_worth : WFg
  | [.sh (.ad x)], gs, Q => ∃ (c : AC) (fs : List Str), gs = c.cells ∧ x = c.s ∧ WOk c.ms c.pl fs ∧ AInv c.ms c.a ∧ Q (.int (wthA c.ms c.a)) c.cells
  | _, _, _ => False
theorem len_Account_worth : ∀ as gs Qd, wf_Account_worth as gs Qd → as.length = 1 ∧ gs.length ≤ 3 := fun as gs Qd h => by
  unfold wf_Account_worth at h
  split at h
  · obtain ⟨c, fs, rfl, _⟩ := h; exact ⟨rfl, Nat.le_refl 3⟩
  · exact h.elim
def w_Account_worth : WS := (wSeq (wAsg (wOp dIx (wDer 6 (wFld "Account" "past" (wDer 4 (wVar 0)))) (wUn dNeg (wC (.int 1)))) (wTp [1, 2, 3]))
 (wRet (wOp vV (wPk 3) (wOp dIx (wFld "Machine" "leave" (wOp dIx (wFld "Account" "schemes" (wDer 4 (wVar 0))) (wPk 1))) (wPk 2)))))
theorem p_Account_worth : ∀ as gs Qd, wf_Account_worth as gs Qd → w_Account_worth (startG 3 3 as gs) (endG [4, 5, 6] Qd) := fun as gs Qd h => by
  unfold wf_Account_worth at h
  split at h
  · obtain ⟨c, fs, rfl, rfl, w, h, q⟩ := h
    obtain ⟨hl, hp⟩ := h.last
    obtain ⟨m1, m2, m3⟩ := machAt_at hp.s0 hp.s1
    have t1 := hp.t1
    show w_Account_worth [.sh (.ad c.s), .no, .no, .no, .gh c.s (.ins "Account" acF [.lst (c.ms.map Mach.dd), caD c.pl, .ad c.d, .ad c.p]), .gh c.d (.lst (c.a.deeds.map Deed.dd)), .gh c.p (.lst (c.a.past.map Pt.dd))] _
    simp only [w_Account_worth, ↓za, ↓zb, ↓zc, ↓zd, ↓ze, ↓zf, ↓zg, ↓zh, ↓zi, ↓zj, ↓zk, ↓zl, ↓zm, ↓zn, ↓zo, ↓zp, ↓zq, ↓zr, ↓zt, ↓zu, ↓zv, ↓zw, ↓zx, zy, zz, ↓z3, ↓z7, ↓z8, ↓z9, ↓zA, ↓zB, ↓zC, ↓zD, ↓zE, ↓zF, ↓zG, ↓zH, ↓zI, ↓zJ, ↓zK, ↓zL, ↓zM, ↓zN, ↓zO, ↓zP, ↓zQ, ↓zR, ↓zS, ↓zT, ↓zU, ↓zV, ↓zW, ↓zX, ↓zY, ↓zZ, ↓xf, ↓xg, ↓xh, ↓xi, ↓xj, ↓xk, ↓xl, ↓xm, ↓xq, xt, ↓xu, ↓xw, ↓xy, ↓xz, ↓x5, ↓x6, ↓x7, ↓x8, ↓x9, ↓xB, ↓xD, ↓xE, ↓xF, ↓xG, ↓xH, ↓xI, ↓xJ, ↓xK, ↓xL, ↓xM, ↓xN, ↓xO, ↓xP, ↓xQ, ↓xR, ↓xS, ↓xT, ↓xU, ↓xV, ↓xW, ↓xX, ↓xY, ↓xZ, ↓qb, ↓qc, ↓qd, ↓qf, ↓qg, ↓qh, ↓qi, ↓qj, ↓qk, ↓ql, ↓qm, ↓qo, ↓qp, ↓qr, ↓qt, ↓qu, ↓qv, ↓qw, ↓qz, ↓qA, ↓qB, ↓qC, ↓qE, ↓qF, ↓qG, ↓qH, ↓qI, ↓qJ, ↓qL, ↓qM, ↓qN, ↓qO, ↓qP, ↓qQ, ↓qR, ↓qS, ↓qT, ↓qU, ↓qV, ↓qW, ↓qX, ↓qY, ↓qZ, ↓vf, ↓vg, ↓vh, ↓vi, ↓vj, ↓vk, ↓vl, ↓vm, ↓vo, ↓vp, ↓vq, ↓vt, ↓vu, ↓vw, vz, v6, ↓v7, ↓v8, ↓v9, ↓vA, ↓vB, ↓vC, ↓vD, ↓vE, ↓vF, ↓vG, ↓vH, ↓vI, ↓vJ, ↓vK, ↓vL, ↓vM, ↓vN, ↓vO, dLt, dLe, dGt, dGe, vP, vQ, vR, vS, vT, dI2, vU, vV, dEq, dNe, vW, vX, vY, vZ, ja, jb, jc, jd, je, jf, Option.some.injEq, jg, jh, ji, jk, jl, dIs, jm, jn, shs, kiC, jo, jp, obD, id_eq, List.getElem?_cons_zero, List.getElem?_cons_succ, List.set_cons_zero, List.set_cons_succ, List.length_cons, List.length_nil, D.bl.injEq, exists_eq_left', decide_eq_true_eq, decide_eq_false_iff_not, Bool.not_eq_true', Bool.not_eq_false', Nat.zero_add, Nat.reduceAdd, true_and, and_true, forall_const, reduceCtorEq, not_true_eq_false, not_false_eq_true, false_implies, true_implies, implies_true, jq, Nat.reduceLeDiff, Int.reduceLE, Int.reduceLT, Int.reduceNeg, Int.reducePow, Int.reduceAdd, Int.reduceSub, Int.reduceMul, lka_past, dNeg]
    refine ⟨_, h.at1, ?_⟩
    simp only [Pt.dd, ↓za, ↓zb, ↓zc, ↓zd, ↓ze, ↓zf, ↓zg, ↓zh, ↓zi, ↓zj, ↓zk, ↓zl, ↓zm, ↓zn, ↓zo, ↓zp, ↓zq, ↓zr, ↓zt, ↓zu, ↓zv, ↓zw, ↓zx, zy, zz, ↓z3, ↓z7, ↓z8, ↓z9, ↓zA, ↓zB, ↓zC, ↓zD, ↓zE, ↓zF, ↓zG, ↓zH, ↓zI, ↓zJ, ↓zK, ↓zL, ↓zM, ↓zN, ↓zO, ↓zP, ↓zQ, ↓zR, ↓zS, ↓zT, ↓zU, ↓zV, ↓zW, ↓zX, ↓zY, ↓zZ, ↓xf, ↓xg, ↓xh, ↓xi, ↓xj, ↓xk, ↓xl, ↓xm, ↓xq, xt, ↓xu, ↓xw, ↓xy, ↓xz, ↓x5, ↓x6, ↓x7, ↓x8, ↓x9, ↓xB, ↓xD, ↓xE, ↓xF, ↓xG, ↓xH, ↓xI, ↓xJ, ↓xK, ↓xL, ↓xM, ↓xN, ↓xO, ↓xP, ↓xQ, ↓xR, ↓xS, ↓xT, ↓xU, ↓xV, ↓xW, ↓xX, ↓xY, ↓xZ, ↓qb, ↓qc, ↓qd, ↓qf, ↓qg, ↓qh, ↓qi, ↓qj, ↓qk, ↓ql, ↓qm, ↓qo, ↓qp, ↓qr, ↓qt, ↓qu, ↓qv, ↓qw, ↓qz, ↓qA, ↓qB, ↓qC, ↓qE, ↓qF, ↓qG, ↓qH, ↓qI, ↓qJ, ↓qL, ↓qM, ↓qN, ↓qO, ↓qP, ↓qQ, ↓qR, ↓qS, ↓qT, ↓qU, ↓qV, ↓qW, ↓qX, ↓qY, ↓qZ, ↓vf, ↓vg, ↓vh, ↓vi, ↓vj, ↓vk, ↓vl, ↓vm, ↓vo, ↓vp, ↓vq, ↓vt, ↓vu, ↓vw, vz, v6, ↓v7, ↓v8, ↓v9, ↓vA, ↓vB, ↓vC, ↓vD, ↓vE, ↓vF, ↓vG, ↓vH, ↓vI, ↓vJ, ↓vK, ↓vL, ↓vM, ↓vN, ↓vO, dLt, dLe, dGt, dGe, vP, vQ, vR, vS, vT, dI2, vU, vV, dEq, dNe, vW, vX, vY, vZ, ja, jb, jc, jd, je, jf, Option.some.injEq, jg, jh, ji, jk, jl, dIs, jm, jn, shs, kiC, jo, jp, obD, id_eq, List.getElem?_cons_zero, List.getElem?_cons_succ, List.set_cons_zero, List.set_cons_succ, List.length_cons, List.length_nil, D.bl.injEq, exists_eq_left', decide_eq_true_eq, decide_eq_false_iff_not, Bool.not_eq_true', Bool.not_eq_false', Nat.zero_add, Nat.reduceAdd, true_and, and_true, forall_const, reduceCtorEq, not_true_eq_false, not_false_eq_true, false_implies, true_implies, implies_true, jq, Nat.reduceLeDiff, Int.reduceLE, Int.reduceLT, Int.reduceNeg, Int.reducePow, Int.reduceAdd, Int.reduceSub, Int.reduceMul, lka_schemes]
    refine ⟨_, m2, ?_⟩
    simp only [Mach.dd, Cary.dd, lk_facts, lk_step, lk_gain, lk_leave, lk_to, lk_cost, ↓za, ↓zb, ↓zc, ↓zd, ↓ze, ↓zf, ↓zg, ↓zh, ↓zi, ↓zj, ↓zk, ↓zl, ↓zm, ↓zn, ↓zo, ↓zp, ↓zq, ↓zr, ↓zt, ↓zu, ↓zv, ↓zw, ↓zx, zy, zz, ↓z3, ↓z7, ↓z8, ↓z9, ↓zA, ↓zB, ↓zC, ↓zD, ↓zE, ↓zF, ↓zG, ↓zH, ↓zI, ↓zJ, ↓zK, ↓zL, ↓zM, ↓zN, ↓zO, ↓zP, ↓zQ, ↓zR, ↓zS, ↓zT, ↓zU, ↓zV, ↓zW, ↓zX, ↓zY, ↓zZ, ↓xf, ↓xg, ↓xh, ↓xi, ↓xj, ↓xk, ↓xl, ↓xm, ↓xq, xt, ↓xu, ↓xw, ↓xy, ↓xz, ↓x5, ↓x6, ↓x7, ↓x8, ↓x9, ↓xB, ↓xD, ↓xE, ↓xF, ↓xG, ↓xH, ↓xI, ↓xJ, ↓xK, ↓xL, ↓xM, ↓xN, ↓xO, ↓xP, ↓xQ, ↓xR, ↓xS, ↓xT, ↓xU, ↓xV, ↓xW, ↓xX, ↓xY, ↓xZ, ↓qb, ↓qc, ↓qd, ↓qf, ↓qg, ↓qh, ↓qi, ↓qj, ↓qk, ↓ql, ↓qm, ↓qo, ↓qp, ↓qr, ↓qt, ↓qu, ↓qv, ↓qw, ↓qz, ↓qA, ↓qB, ↓qC, ↓qE, ↓qF, ↓qG, ↓qH, ↓qI, ↓qJ, ↓qL, ↓qM, ↓qN, ↓qO, ↓qP, ↓qQ, ↓qR, ↓qS, ↓qT, ↓qU, ↓qV, ↓qW, ↓qX, ↓qY, ↓qZ, ↓vf, ↓vg, ↓vh, ↓vi, ↓vj, ↓vk, ↓vl, ↓vm, ↓vo, ↓vp, ↓vq, ↓vt, ↓vu, ↓vw, vz, v6, ↓v7, ↓v8, ↓v9, ↓vA, ↓vB, ↓vC, ↓vD, ↓vE, ↓vF, ↓vG, ↓vH, ↓vI, ↓vJ, ↓vK, ↓vL, ↓vM, ↓vN, ↓vO, dLt, dLe, dGt, dGe, vP, vQ, vR, vS, vT, dI2, vU, vV, dEq, dNe, vW, vX, vY, vZ, ja, jb, jc, jd, je, jf, Option.some.injEq, jg, jh, ji, jk, jl, dIs, jm, jn, shs, kiC, jo, jp, obD, id_eq, List.getElem?_cons_zero, List.getElem?_cons_succ, List.set_cons_zero, List.set_cons_succ, List.length_cons, List.length_nil, D.bl.injEq, exists_eq_left', decide_eq_true_eq, decide_eq_false_iff_not, Bool.not_eq_true', Bool.not_eq_false', Nat.zero_add, Nat.reduceAdd, true_and, and_true, forall_const, reduceCtorEq, not_true_eq_false, not_false_eq_true, false_implies, true_implies, implies_true, jq, Nat.reduceLeDiff, Int.reduceLE, Int.reduceLT, Int.reduceNeg, Int.reducePow, Int.reduceAdd, Int.reduceSub, Int.reduceMul]
    refine ⟨_, Mach.at_leave (w.so.mo _ m1) hp.t0 (by omega), ?_⟩
    simp only [↓za, ↓zb, ↓zc, ↓zd, ↓ze, ↓zf, ↓zg, ↓zh, ↓zi, ↓zj, ↓zk, ↓zl, ↓zm, ↓zn, ↓zo, ↓zp, ↓zq, ↓zr, ↓zt, ↓zu, ↓zv, ↓zw, ↓zx, zy, zz, ↓z3, ↓z7, ↓z8, ↓z9, ↓zA, ↓zB, ↓zC, ↓zD, ↓zE, ↓zF, ↓zG, ↓zH, ↓zI, ↓zJ, ↓zK, ↓zL, ↓zM, ↓zN, ↓zO, ↓zP, ↓zQ, ↓zR, ↓zS, ↓zT, ↓zU, ↓zV, ↓zW, ↓zX, ↓zY, ↓zZ, ↓xf, ↓xg, ↓xh, ↓xi, ↓xj, ↓xk, ↓xl, ↓xm, ↓xq, xt, ↓xu, ↓xw, ↓xy, ↓xz, ↓x5, ↓x6, ↓x7, ↓x8, ↓x9, ↓xB, ↓xD, ↓xE, ↓xF, ↓xG, ↓xH, ↓xI, ↓xJ, ↓xK, ↓xL, ↓xM, ↓xN, ↓xO, ↓xP, ↓xQ, ↓xR, ↓xS, ↓xT, ↓xU, ↓xV, ↓xW, ↓xX, ↓xY, ↓xZ, ↓qb, ↓qc, ↓qd, ↓qf, ↓qg, ↓qh, ↓qi, ↓qj, ↓qk, ↓ql, ↓qm, ↓qo, ↓qp, ↓qr, ↓qt, ↓qu, ↓qv, ↓qw, ↓qz, ↓qA, ↓qB, ↓qC, ↓qE, ↓qF, ↓qG, ↓qH, ↓qI, ↓qJ, ↓qL, ↓qM, ↓qN, ↓qO, ↓qP, ↓qQ, ↓qR, ↓qS, ↓qT, ↓qU, ↓qV, ↓qW, ↓qX, ↓qY, ↓qZ, ↓vf, ↓vg, ↓vh, ↓vi, ↓vj, ↓vk, ↓vl, ↓vm, ↓vo, ↓vp, ↓vq, ↓vt, ↓vu, ↓vw, vz, v6, ↓v7, ↓v8, ↓v9, ↓vA, ↓vB, ↓vC, ↓vD, ↓vE, ↓vF, ↓vG, ↓vH, ↓vI, ↓vJ, ↓vK, ↓vL, ↓vM, ↓vN, ↓vO, dLt, dLe, dGt, dGe, vP, vQ, vR, vS, vT, dI2, vU, vV, dEq, dNe, vW, vX, vY, vZ, ja, jb, jc, jd, je, jf, Option.some.injEq, jg, jh, ji, jk, jl, dIs, jm, jn, shs, kiC, jo, jp, obD, id_eq, List.getElem?_cons_zero, List.getElem?_cons_succ, List.set_cons_zero, List.set_cons_succ, List.length_cons, List.length_nil, D.bl.injEq, exists_eq_left', decide_eq_true_eq, decide_eq_false_iff_not, Bool.not_eq_true', Bool.not_eq_false', Nat.zero_add, Nat.reduceAdd, true_and, and_true, forall_const, reduceCtorEq, not_true_eq_false, not_false_eq_true, false_implies, true_implies, implies_true, jq, Nat.reduceLeDiff, Int.reduceLE, Int.reduceLT, Int.reduceNeg, Int.reducePow, Int.reduceAdd, Int.reduceSub, Int.reduceMul]
    exact q
  · exact h.elim
def wf_Account_year : WFgx
  | [.sh (.ad x), .sh f], gs, Q, EX => ∃ (c : AC) (fs : List Str) (cs : List Nat), gs = c.cells ∧ x = c.s ∧ WOk c.ms c.pl fs ∧ AInv c.ms c.a ∧ c.a.deeds.length ≤ 1000 ∧ f = .str (fstr cs) ∧ cs.length ≤ 100 ∧ (fstr cs ∈ fs → Q (doA c.ms c.pl fs c.a (.year cs)).dd { c with a := (doA c.ms c.pl fs c.a (.year cs)).st c.a }.cells) ∧ (fstr cs ∉ fs → EX ⟨"UnknownFact", [("fact", .str (fstr cs))]⟩ c.cells)
  | _, _, _, _ => False
theorem len_Account_year : ∀ as gs Qd EX, wf_Account_year as gs Qd EX → as.length = 2 ∧ gs.length ≤ 3 := fun as gs Qd EX h => by
  unfold wf_Account_year at h
  split at h
  · obtain ⟨c, fs, cs, rfl, _⟩ := h; exact ⟨rfl, Nat.le_refl 3⟩
  · exact h.elim
def w_Account_year_t1 (EX : Xn → List Sl → Prop) : WS := (wRet (wVar 6))
def w_Account_year_t2 (EX : Xn → List Sl → Prop) : WS := (wSeq (wAppC 8 (wFld "Account" "deeds" (wDer 7 (wVar 0))) (wTup (waCons (wC (.str "year")) (waCons (wVar 1) waNil))))
 (w_Account_year_t1 EX))
def w_Account_year_t3 (EX : Xn → List Sl → Prop) : WS := (wSeq (wAppC 9 (wFld "Account" "past" (wDer 7 (wVar 0))) (wTup (waCons (wVar 2) (waCons (wOp dIx (wOp dIx (wFld "Machine" "step" (wPk 5)) (wPk 3)) (wPk 1)) (waCons (wOp vV (wPk 4) (wPk 6)) waNil)))))
 (w_Account_year_t2 EX))
def w_Account_year_t4 (EX : Xn → List Sl → Prop) : WS := (wSeq (wAsg (wOp dIx (wOp dIx (wFld "Machine" "gain" (wPk 5)) (wPk 3)) (wPk 1)) (wSt 6))
 (w_Account_year_t3 EX))
def w_Account_year_t5 (EX : Xn → List Sl → Prop) : WS := (wSeq (wIf (wTst (wOp dNotIn (wPk 1) (wFld "Machine" "facts" (wPk 5))))
 (wRaiseC EX "UnknownFact" ["fact"] (waCons (wVar 1) waNil))
 wNext)
 (w_Account_year_t4 EX))
def w_Account_year_t6 (EX : Xn → List Sl → Prop) : WS := (wSeq (wAsg (wOp dIx (wFld "Account" "schemes" (wDer 7 (wVar 0))) (wPk 2)) (wSt 5))
 (w_Account_year_t5 EX))
def w_Account_year (EX : Xn → List Sl → Prop) : WS := (wSeq (wAsg (wOp dIx (wDer 9 (wFld "Account" "past" (wDer 7 (wVar 0)))) (wUn dNeg (wC (.int 1)))) (wTp [2, 3, 4]))
 (w_Account_year_t6 EX))
theorem p_Account_year : ∀ as gs Qd EX, wf_Account_year as gs Qd EX → w_Account_year (fun x ρ => pickK [7, 8, 9] ρ fun gs2 _ => EX x gs2) (startG 5 3 as gs) (endG [7, 8, 9] Qd) := fun as gs Qd EX h => by
  unfold wf_Account_year at h
  split at h
  · obtain ⟨c, fs, cs, rfl, rfl, w, h, hb, rfl, hcl, q, qx⟩ := h
    obtain ⟨hl, hp⟩ := h.last
    obtain ⟨m1, m2, m3⟩ := machAt_at hp.s0 hp.s1
    have t1 := hp.t1
    have t0 := hp.t0
    have mo := w.so.mo _ m1
    have fa := w.fa _ m1
    have hln := h.ln
    show w_Account_year _ [.sh (.ad c.s), .sh (.str (fstr cs)), .no, .no, .no, .no, .no, .gh c.s (.ins "Account" acF [.lst (c.ms.map Mach.dd), caD c.pl, .ad c.d, .ad c.p]), .gh c.d (.lst (c.a.deeds.map Deed.dd)), .gh c.p (.lst (c.a.past.map Pt.dd))] _
    simp only [w_Account_year, ↓za, ↓zb, ↓zc, ↓zd, ↓ze, ↓zf, ↓zg, ↓zh, ↓zi, ↓zj, ↓zk, ↓zl, ↓zm, ↓zn, ↓zo, ↓zp, ↓zq, ↓zr, ↓zt, ↓zu, ↓zv, ↓zw, ↓zx, zy, zz, ↓z3, ↓z7, ↓z8, ↓z9, ↓zA, ↓zB, ↓zC, ↓zD, ↓zE, ↓zF, ↓zG, ↓zH, ↓zI, ↓zJ, ↓zK, ↓zL, ↓zM, ↓zN, ↓zO, ↓zP, ↓zQ, ↓zR, ↓zS, ↓zT, ↓zU, ↓zV, ↓zW, ↓zX, ↓zY, ↓zZ, ↓xf, ↓xg, ↓xh, ↓xi, ↓xj, ↓xk, ↓xl, ↓xm, ↓xq, xt, ↓xu, ↓xw, ↓xy, ↓xz, ↓x5, ↓x6, ↓x7, ↓x8, ↓x9, ↓xB, ↓xD, ↓xE, ↓xF, ↓xG, ↓xH, ↓xI, ↓xJ, ↓xK, ↓xL, ↓xM, ↓xN, ↓xO, ↓xP, ↓xQ, ↓xR, ↓xS, ↓xT, ↓xU, ↓xV, ↓xW, ↓xX, ↓xY, ↓xZ, ↓qb, ↓qc, ↓qd, ↓qf, ↓qg, ↓qh, ↓qi, ↓qj, ↓qk, ↓ql, ↓qm, ↓qo, ↓qp, ↓qr, ↓qt, ↓qu, ↓qv, ↓qw, ↓qz, ↓qA, ↓qB, ↓qC, ↓qE, ↓qF, ↓qG, ↓qH, ↓qI, ↓qJ, ↓qL, ↓qM, ↓qN, ↓qO, ↓qP, ↓qQ, ↓qR, ↓qS, ↓qT, ↓qU, ↓qV, ↓qW, ↓qX, ↓qY, ↓qZ, ↓vf, ↓vg, ↓vh, ↓vi, ↓vj, ↓vk, ↓vl, ↓vm, ↓vo, ↓vp, ↓vq, ↓vt, ↓vu, ↓vw, vz, v6, ↓v7, ↓v8, ↓v9, ↓vA, ↓vB, ↓vC, ↓vD, ↓vE, ↓vF, ↓vG, ↓vH, ↓vI, ↓vJ, ↓vK, ↓vL, ↓vM, ↓vN, ↓vO, dLt, dLe, dGt, dGe, vP, vQ, vR, vS, vT, dI2, vU, vV, dEq, dNe, vW, vX, vY, vZ, ja, jb, jc, jd, je, jf, Option.some.injEq, jg, jh, ji, jk, jl, dIs, jm, jn, shs, kiC, jo, jp, obD, id_eq, List.getElem?_cons_zero, List.getElem?_cons_succ, List.set_cons_zero, List.set_cons_succ, List.length_cons, List.length_nil, D.bl.injEq, exists_eq_left', decide_eq_true_eq, decide_eq_false_iff_not, Bool.not_eq_true', Bool.not_eq_false', Nat.zero_add, Nat.reduceAdd, true_and, and_true, forall_const, reduceCtorEq, not_true_eq_false, not_false_eq_true, false_implies, true_implies, implies_true, jq, Nat.reduceLeDiff, Int.reduceLE, Int.reduceLT, Int.reduceNeg, Int.reducePow, Int.reduceAdd, Int.reduceSub, Int.reduceMul, lka_past, dNeg]
    refine ⟨_, h.at1, ?_⟩
    simp only [Pt.dd, w_Account_year_t6, ↓za, ↓zb, ↓zc, ↓zd, ↓ze, ↓zf, ↓zg, ↓zh, ↓zi, ↓zj, ↓zk, ↓zl, ↓zm, ↓zn, ↓zo, ↓zp, ↓zq, ↓zr, ↓zt, ↓zu, ↓zv, ↓zw, ↓zx, zy, zz, ↓z3, ↓z7, ↓z8, ↓z9, ↓zA, ↓zB, ↓zC, ↓zD, ↓zE, ↓zF, ↓zG, ↓zH, ↓zI, ↓zJ, ↓zK, ↓zL, ↓zM, ↓zN, ↓zO, ↓zP, ↓zQ, ↓zR, ↓zS, ↓zT, ↓zU, ↓zV, ↓zW, ↓zX, ↓zY, ↓zZ, ↓xf, ↓xg, ↓xh, ↓xi, ↓xj, ↓xk, ↓xl, ↓xm, ↓xq, xt, ↓xu, ↓xw, ↓xy, ↓xz, ↓x5, ↓x6, ↓x7, ↓x8, ↓x9, ↓xB, ↓xD, ↓xE, ↓xF, ↓xG, ↓xH, ↓xI, ↓xJ, ↓xK, ↓xL, ↓xM, ↓xN, ↓xO, ↓xP, ↓xQ, ↓xR, ↓xS, ↓xT, ↓xU, ↓xV, ↓xW, ↓xX, ↓xY, ↓xZ, ↓qb, ↓qc, ↓qd, ↓qf, ↓qg, ↓qh, ↓qi, ↓qj, ↓qk, ↓ql, ↓qm, ↓qo, ↓qp, ↓qr, ↓qt, ↓qu, ↓qv, ↓qw, ↓qz, ↓qA, ↓qB, ↓qC, ↓qE, ↓qF, ↓qG, ↓qH, ↓qI, ↓qJ, ↓qL, ↓qM, ↓qN, ↓qO, ↓qP, ↓qQ, ↓qR, ↓qS, ↓qT, ↓qU, ↓qV, ↓qW, ↓qX, ↓qY, ↓qZ, ↓vf, ↓vg, ↓vh, ↓vi, ↓vj, ↓vk, ↓vl, ↓vm, ↓vo, ↓vp, ↓vq, ↓vt, ↓vu, ↓vw, vz, v6, ↓v7, ↓v8, ↓v9, ↓vA, ↓vB, ↓vC, ↓vD, ↓vE, ↓vF, ↓vG, ↓vH, ↓vI, ↓vJ, ↓vK, ↓vL, ↓vM, ↓vN, ↓vO, dLt, dLe, dGt, dGe, vP, vQ, vR, vS, vT, dI2, vU, vV, dEq, dNe, vW, vX, vY, vZ, ja, jb, jc, jd, je, jf, Option.some.injEq, jg, jh, ji, jk, jl, dIs, jm, jn, shs, kiC, jo, jp, obD, id_eq, List.getElem?_cons_zero, List.getElem?_cons_succ, List.set_cons_zero, List.set_cons_succ, List.length_cons, List.length_nil, D.bl.injEq, exists_eq_left', decide_eq_true_eq, decide_eq_false_iff_not, Bool.not_eq_true', Bool.not_eq_false', Nat.zero_add, Nat.reduceAdd, true_and, and_true, forall_const, reduceCtorEq, not_true_eq_false, not_false_eq_true, false_implies, true_implies, implies_true, jq, Nat.reduceLeDiff, Int.reduceLE, Int.reduceLT, Int.reduceNeg, Int.reducePow, Int.reduceAdd, Int.reduceSub, Int.reduceMul, lka_schemes]
    refine ⟨_, m2, ?_⟩
    simp only [Mach.dd, Cary.dd, lk_facts, lk_step, lk_gain, lk_leave, lk_to, lk_cost, w_Account_year_t5, ↓za, ↓zb, ↓zc, ↓zd, ↓ze, ↓zf, ↓zg, ↓zh, ↓zi, ↓zj, ↓zk, ↓zl, ↓zm, ↓zn, ↓zo, ↓zp, ↓zq, ↓zr, ↓zt, ↓zu, ↓zv, ↓zw, ↓zx, zy, zz, ↓z3, ↓z7, ↓z8, ↓z9, ↓zA, ↓zB, ↓zC, ↓zD, ↓zE, ↓zF, ↓zG, ↓zH, ↓zI, ↓zJ, ↓zK, ↓zL, ↓zM, ↓zN, ↓zO, ↓zP, ↓zQ, ↓zR, ↓zS, ↓zT, ↓zU, ↓zV, ↓zW, ↓zX, ↓zY, ↓zZ, ↓xf, ↓xg, ↓xh, ↓xi, ↓xj, ↓xk, ↓xl, ↓xm, ↓xq, xt, ↓xu, ↓xw, ↓xy, ↓xz, ↓x5, ↓x6, ↓x7, ↓x8, ↓x9, ↓xB, ↓xD, ↓xE, ↓xF, ↓xG, ↓xH, ↓xI, ↓xJ, ↓xK, ↓xL, ↓xM, ↓xN, ↓xO, ↓xP, ↓xQ, ↓xR, ↓xS, ↓xT, ↓xU, ↓xV, ↓xW, ↓xX, ↓xY, ↓xZ, ↓qb, ↓qc, ↓qd, ↓qf, ↓qg, ↓qh, ↓qi, ↓qj, ↓qk, ↓ql, ↓qm, ↓qo, ↓qp, ↓qr, ↓qt, ↓qu, ↓qv, ↓qw, ↓qz, ↓qA, ↓qB, ↓qC, ↓qE, ↓qF, ↓qG, ↓qH, ↓qI, ↓qJ, ↓qL, ↓qM, ↓qN, ↓qO, ↓qP, ↓qQ, ↓qR, ↓qS, ↓qT, ↓qU, ↓qV, ↓qW, ↓qX, ↓qY, ↓qZ, ↓vf, ↓vg, ↓vh, ↓vi, ↓vj, ↓vk, ↓vl, ↓vm, ↓vo, ↓vp, ↓vq, ↓vt, ↓vu, ↓vw, vz, v6, ↓v7, ↓v8, ↓v9, ↓vA, ↓vB, ↓vC, ↓vD, ↓vE, ↓vF, ↓vG, ↓vH, ↓vI, ↓vJ, ↓vK, ↓vL, ↓vM, ↓vN, ↓vO, dLt, dLe, dGt, dGe, vP, vQ, vR, vS, vT, dI2, vU, vV, dEq, dNe, vW, vX, vY, vZ, ja, jb, jc, jd, je, jf, Option.some.injEq, jg, jh, ji, jk, jl, dIs, jm, jn, shs, kiC, jo, jp, obD, id_eq, List.getElem?_cons_zero, List.getElem?_cons_succ, List.set_cons_zero, List.set_cons_succ, List.length_cons, List.length_nil, D.bl.injEq, exists_eq_left', decide_eq_true_eq, decide_eq_false_iff_not, Bool.not_eq_true', Bool.not_eq_false', Nat.zero_add, Nat.reduceAdd, true_and, and_true, forall_const, reduceCtorEq, not_true_eq_false, not_false_eq_true, false_implies, true_implies, implies_true, jq, Nat.reduceLeDiff, Int.reduceLE, Int.reduceLT, Int.reduceNeg, Int.reducePow, Int.reduceAdd, Int.reduceSub, Int.reduceMul]
    refine notin_fs ?_
    rw [fa]
    by_cases hf : fstr cs ∈ fs
    case neg =>
      rw [decide_eq_false hf]
      simp only [Bool.not_false, ↓za, ↓zb, ↓zc, ↓zd, ↓ze, ↓zf, ↓zg, ↓zh, ↓zi, ↓zj, ↓zk, ↓zl, ↓zm, ↓zn, ↓zo, ↓zp, ↓zq, ↓zr, ↓zt, ↓zu, ↓zv, ↓zw, ↓zx, zy, zz, ↓z3, ↓z7, ↓z8, ↓z9, ↓zA, ↓zB, ↓zC, ↓zD, ↓zE, ↓zF, ↓zG, ↓zH, ↓zI, ↓zJ, ↓zK, ↓zL, ↓zM, ↓zN, ↓zO, ↓zP, ↓zQ, ↓zR, ↓zS, ↓zT, ↓zU, ↓zV, ↓zW, ↓zX, ↓zY, ↓zZ, ↓xf, ↓xg, ↓xh, ↓xi, ↓xj, ↓xk, ↓xl, ↓xm, ↓xq, xt, ↓xu, ↓xw, ↓xy, ↓xz, ↓x5, ↓x6, ↓x7, ↓x8, ↓x9, ↓xB, ↓xD, ↓xE, ↓xF, ↓xG, ↓xH, ↓xI, ↓xJ, ↓xK, ↓xL, ↓xM, ↓xN, ↓xO, ↓xP, ↓xQ, ↓xR, ↓xS, ↓xT, ↓xU, ↓xV, ↓xW, ↓xX, ↓xY, ↓xZ, ↓qb, ↓qc, ↓qd, ↓qf, ↓qg, ↓qh, ↓qi, ↓qj, ↓qk, ↓ql, ↓qm, ↓qo, ↓qp, ↓qr, ↓qt, ↓qu, ↓qv, ↓qw, ↓qz, ↓qA, ↓qB, ↓qC, ↓qE, ↓qF, ↓qG, ↓qH, ↓qI, ↓qJ, ↓qL, ↓qM, ↓qN, ↓qO, ↓qP, ↓qQ, ↓qR, ↓qS, ↓qT, ↓qU, ↓qV, ↓qW, ↓qX, ↓qY, ↓qZ, ↓vf, ↓vg, ↓vh, ↓vi, ↓vj, ↓vk, ↓vl, ↓vm, ↓vo, ↓vp, ↓vq, ↓vt, ↓vu, ↓vw, vz, v6, ↓v7, ↓v8, ↓v9, ↓vA, ↓vB, ↓vC, ↓vD, ↓vE, ↓vF, ↓vG, ↓vH, ↓vI, ↓vJ, ↓vK, ↓vL, ↓vM, ↓vN, ↓vO, dLt, dLe, dGt, dGe, vP, vQ, vR, vS, vT, dI2, vU, vV, dEq, dNe, vW, vX, vY, vZ, ja, jb, jc, jd, je, jf, Option.some.injEq, jg, jh, ji, jk, jl, dIs, jm, jn, shs, kiC, jo, jp, obD, id_eq, List.getElem?_cons_zero, List.getElem?_cons_succ, List.set_cons_zero, List.set_cons_succ, List.length_cons, List.length_nil, D.bl.injEq, exists_eq_left', decide_eq_true_eq, decide_eq_false_iff_not, Bool.not_eq_true', Bool.not_eq_false', Nat.zero_add, Nat.reduceAdd, true_and, and_true, forall_const, reduceCtorEq, not_true_eq_false, not_false_eq_true, false_implies, true_implies, implies_true, jq, Nat.reduceLeDiff, Int.reduceLE, Int.reduceLT, Int.reduceNeg, Int.reducePow, Int.reduceAdd, Int.reduceSub, Int.reduceMul]
      refine ⟨fun d hd => ?_, ?_⟩
      · rw [List.mem_singleton] at hd
        rw [hd]
        show cs.toArray.size ≤ 1000
        rw [List.size_toArray]; omega
      · exact qx hf
    rw [decide_eq_true hf]
    have q := q hf
    simp only [doA, if_pos hf, Ev.dd, Ev.st] at q
    simp only [Bool.not_true, ↓za, ↓zb, ↓zc, ↓zd, ↓ze, ↓zf, ↓zg, ↓zh, ↓zi, ↓zj, ↓zk, ↓zl, ↓zm, ↓zn, ↓zo, ↓zp, ↓zq, ↓zr, ↓zt, ↓zu, ↓zv, ↓zw, ↓zx, zy, zz, ↓z3, ↓z7, ↓z8, ↓z9, ↓zA, ↓zB, ↓zC, ↓zD, ↓zE, ↓zF, ↓zG, ↓zH, ↓zI, ↓zJ, ↓zK, ↓zL, ↓zM, ↓zN, ↓zO, ↓zP, ↓zQ, ↓zR, ↓zS, ↓zT, ↓zU, ↓zV, ↓zW, ↓zX, ↓zY, ↓zZ, ↓xf, ↓xg, ↓xh, ↓xi, ↓xj, ↓xk, ↓xl, ↓xm, ↓xq, xt, ↓xu, ↓xw, ↓xy, ↓xz, ↓x5, ↓x6, ↓x7, ↓x8, ↓x9, ↓xB, ↓xD, ↓xE, ↓xF, ↓xG, ↓xH, ↓xI, ↓xJ, ↓xK, ↓xL, ↓xM, ↓xN, ↓xO, ↓xP, ↓xQ, ↓xR, ↓xS, ↓xT, ↓xU, ↓xV, ↓xW, ↓xX, ↓xY, ↓xZ, ↓qb, ↓qc, ↓qd, ↓qf, ↓qg, ↓qh, ↓qi, ↓qj, ↓qk, ↓ql, ↓qm, ↓qo, ↓qp, ↓qr, ↓qt, ↓qu, ↓qv, ↓qw, ↓qz, ↓qA, ↓qB, ↓qC, ↓qE, ↓qF, ↓qG, ↓qH, ↓qI, ↓qJ, ↓qL, ↓qM, ↓qN, ↓qO, ↓qP, ↓qQ, ↓qR, ↓qS, ↓qT, ↓qU, ↓qV, ↓qW, ↓qX, ↓qY, ↓qZ, ↓vf, ↓vg, ↓vh, ↓vi, ↓vj, ↓vk, ↓vl, ↓vm, ↓vo, ↓vp, ↓vq, ↓vt, ↓vu, ↓vw, vz, v6, ↓v7, ↓v8, ↓v9, ↓vA, ↓vB, ↓vC, ↓vD, ↓vE, ↓vF, ↓vG, ↓vH, ↓vI, ↓vJ, ↓vK, ↓vL, ↓vM, ↓vN, ↓vO, dLt, dLe, dGt, dGe, vP, vQ, vR, vS, vT, dI2, vU, vV, dEq, dNe, vW, vX, vY, vZ, ja, jb, jc, jd, je, jf, Option.some.injEq, jg, jh, ji, jk, jl, dIs, jm, jn, shs, kiC, jo, jp, obD, id_eq, List.getElem?_cons_zero, List.getElem?_cons_succ, List.set_cons_zero, List.set_cons_succ, List.length_cons, List.length_nil, D.bl.injEq, exists_eq_left', decide_eq_true_eq, decide_eq_false_iff_not, Bool.not_eq_true', Bool.not_eq_false', Nat.zero_add, Nat.reduceAdd, true_and, and_true, forall_const, reduceCtorEq, not_true_eq_false, not_false_eq_true, false_implies, true_implies, implies_true, jq, Nat.reduceLeDiff, Int.reduceLE, Int.reduceLT, Int.reduceNeg, Int.reducePow, Int.reduceAdd, Int.reduceSub, Int.reduceMul]
    simp only [Mach.dd, Cary.dd, lk_facts, lk_step, lk_gain, lk_leave, lk_to, lk_cost, w_Account_year_t4, ↓za, ↓zb, ↓zc, ↓zd, ↓ze, ↓zf, ↓zg, ↓zh, ↓zi, ↓zj, ↓zk, ↓zl, ↓zm, ↓zn, ↓zo, ↓zp, ↓zq, ↓zr, ↓zt, ↓zu, ↓zv, ↓zw, ↓zx, zy, zz, ↓z3, ↓z7, ↓z8, ↓z9, ↓zA, ↓zB, ↓zC, ↓zD, ↓zE, ↓zF, ↓zG, ↓zH, ↓zI, ↓zJ, ↓zK, ↓zL, ↓zM, ↓zN, ↓zO, ↓zP, ↓zQ, ↓zR, ↓zS, ↓zT, ↓zU, ↓zV, ↓zW, ↓zX, ↓zY, ↓zZ, ↓xf, ↓xg, ↓xh, ↓xi, ↓xj, ↓xk, ↓xl, ↓xm, ↓xq, xt, ↓xu, ↓xw, ↓xy, ↓xz, ↓x5, ↓x6, ↓x7, ↓x8, ↓x9, ↓xB, ↓xD, ↓xE, ↓xF, ↓xG, ↓xH, ↓xI, ↓xJ, ↓xK, ↓xL, ↓xM, ↓xN, ↓xO, ↓xP, ↓xQ, ↓xR, ↓xS, ↓xT, ↓xU, ↓xV, ↓xW, ↓xX, ↓xY, ↓xZ, ↓qb, ↓qc, ↓qd, ↓qf, ↓qg, ↓qh, ↓qi, ↓qj, ↓qk, ↓ql, ↓qm, ↓qo, ↓qp, ↓qr, ↓qt, ↓qu, ↓qv, ↓qw, ↓qz, ↓qA, ↓qB, ↓qC, ↓qE, ↓qF, ↓qG, ↓qH, ↓qI, ↓qJ, ↓qL, ↓qM, ↓qN, ↓qO, ↓qP, ↓qQ, ↓qR, ↓qS, ↓qT, ↓qU, ↓qV, ↓qW, ↓qX, ↓qY, ↓qZ, ↓vf, ↓vg, ↓vh, ↓vi, ↓vj, ↓vk, ↓vl, ↓vm, ↓vo, ↓vp, ↓vq, ↓vt, ↓vu, ↓vw, vz, v6, ↓v7, ↓v8, ↓v9, ↓vA, ↓vB, ↓vC, ↓vD, ↓vE, ↓vF, ↓vG, ↓vH, ↓vI, ↓vJ, ↓vK, ↓vL, ↓vM, ↓vN, ↓vO, dLt, dLe, dGt, dGe, vP, vQ, vR, vS, vT, dI2, vU, vV, dEq, dNe, vW, vX, vY, vZ, ja, jb, jc, jd, je, jf, Option.some.injEq, jg, jh, ji, jk, jl, dIs, jm, jn, shs, kiC, jo, jp, obD, id_eq, List.getElem?_cons_zero, List.getElem?_cons_succ, List.set_cons_zero, List.set_cons_succ, List.length_cons, List.length_nil, D.bl.injEq, exists_eq_left', decide_eq_true_eq, decide_eq_false_iff_not, Bool.not_eq_true', Bool.not_eq_false', Nat.zero_add, Nat.reduceAdd, true_and, and_true, forall_const, reduceCtorEq, not_true_eq_false, not_false_eq_true, false_implies, true_implies, implies_true, jq, Nat.reduceLeDiff, Int.reduceLE, Int.reduceLT, Int.reduceNeg, Int.reducePow, Int.reduceAdd, Int.reduceSub, Int.reduceMul]
    refine ⟨_, Mach.at_gain mo t0 (by omega), Mach.ix_gain mo (by omega) (by rw [fa]; exact hf) ?_⟩
    simp only [Mach.dd, Cary.dd, lk_facts, lk_step, lk_gain, lk_leave, lk_to, lk_cost, w_Account_year_t3, ↓za, ↓zb, ↓zc, ↓zd, ↓ze, ↓zf, ↓zg, ↓zh, ↓zi, ↓zj, ↓zk, ↓zl, ↓zm, ↓zn, ↓zo, ↓zp, ↓zq, ↓zr, ↓zt, ↓zu, ↓zv, ↓zw, ↓zx, zy, zz, ↓z3, ↓z7, ↓z8, ↓z9, ↓zA, ↓zB, ↓zC, ↓zD, ↓zE, ↓zF, ↓zG, ↓zH, ↓zI, ↓zJ, ↓zK, ↓zL, ↓zM, ↓zN, ↓zO, ↓zP, ↓zQ, ↓zR, ↓zS, ↓zT, ↓zU, ↓zV, ↓zW, ↓zX, ↓zY, ↓zZ, ↓xf, ↓xg, ↓xh, ↓xi, ↓xj, ↓xk, ↓xl, ↓xm, ↓xq, xt, ↓xu, ↓xw, ↓xy, ↓xz, ↓x5, ↓x6, ↓x7, ↓x8, ↓x9, ↓xB, ↓xD, ↓xE, ↓xF, ↓xG, ↓xH, ↓xI, ↓xJ, ↓xK, ↓xL, ↓xM, ↓xN, ↓xO, ↓xP, ↓xQ, ↓xR, ↓xS, ↓xT, ↓xU, ↓xV, ↓xW, ↓xX, ↓xY, ↓xZ, ↓qb, ↓qc, ↓qd, ↓qf, ↓qg, ↓qh, ↓qi, ↓qj, ↓qk, ↓ql, ↓qm, ↓qo, ↓qp, ↓qr, ↓qt, ↓qu, ↓qv, ↓qw, ↓qz, ↓qA, ↓qB, ↓qC, ↓qE, ↓qF, ↓qG, ↓qH, ↓qI, ↓qJ, ↓qL, ↓qM, ↓qN, ↓qO, ↓qP, ↓qQ, ↓qR, ↓qS, ↓qT, ↓qU, ↓qV, ↓qW, ↓qX, ↓qY, ↓qZ, ↓vf, ↓vg, ↓vh, ↓vi, ↓vj, ↓vk, ↓vl, ↓vm, ↓vo, ↓vp, ↓vq, ↓vt, ↓vu, ↓vw, vz, v6, ↓v7, ↓v8, ↓v9, ↓vA, ↓vB, ↓vC, ↓vD, ↓vE, ↓vF, ↓vG, ↓vH, ↓vI, ↓vJ, ↓vK, ↓vL, ↓vM, ↓vN, ↓vO, dLt, dLe, dGt, dGe, vP, vQ, vR, vS, vT, dI2, vU, vV, dEq, dNe, vW, vX, vY, vZ, ja, jb, jc, jd, je, jf, Option.some.injEq, jg, jh, ji, jk, jl, dIs, jm, jn, shs, kiC, jo, jp, obD, id_eq, List.getElem?_cons_zero, List.getElem?_cons_succ, List.set_cons_zero, List.set_cons_succ, List.length_cons, List.length_nil, D.bl.injEq, exists_eq_left', decide_eq_true_eq, decide_eq_false_iff_not, Bool.not_eq_true', Bool.not_eq_false', Nat.zero_add, Nat.reduceAdd, true_and, and_true, forall_const, reduceCtorEq, not_true_eq_false, not_false_eq_true, false_implies, true_implies, implies_true, jq, Nat.reduceLeDiff, Int.reduceLE, Int.reduceLT, Int.reduceNeg, Int.reducePow, Int.reduceAdd, Int.reduceSub, Int.reduceMul, lka_past]
    refine ⟨_, Mach.at_step mo t0 (by omega), Mach.ix_step mo (by omega) (by rw [fa]; exact hf) ?_⟩
    simp only [w_Account_year_t2, w_Account_year_t1, ↓za, ↓zb, ↓zc, ↓zd, ↓ze, ↓zf, ↓zg, ↓zh, ↓zi, ↓zj, ↓zk, ↓zl, ↓zm, ↓zn, ↓zo, ↓zp, ↓zq, ↓zr, ↓zt, ↓zu, ↓zv, ↓zw, ↓zx, zy, zz, ↓z3, ↓z7, ↓z8, ↓z9, ↓zA, ↓zB, ↓zC, ↓zD, ↓zE, ↓zF, ↓zG, ↓zH, ↓zI, ↓zJ, ↓zK, ↓zL, ↓zM, ↓zN, ↓zO, ↓zP, ↓zQ, ↓zR, ↓zS, ↓zT, ↓zU, ↓zV, ↓zW, ↓zX, ↓zY, ↓zZ, ↓xf, ↓xg, ↓xh, ↓xi, ↓xj, ↓xk, ↓xl, ↓xm, ↓xq, xt, ↓xu, ↓xw, ↓xy, ↓xz, ↓x5, ↓x6, ↓x7, ↓x8, ↓x9, ↓xB, ↓xD, ↓xE, ↓xF, ↓xG, ↓xH, ↓xI, ↓xJ, ↓xK, ↓xL, ↓xM, ↓xN, ↓xO, ↓xP, ↓xQ, ↓xR, ↓xS, ↓xT, ↓xU, ↓xV, ↓xW, ↓xX, ↓xY, ↓xZ, ↓qb, ↓qc, ↓qd, ↓qf, ↓qg, ↓qh, ↓qi, ↓qj, ↓qk, ↓ql, ↓qm, ↓qo, ↓qp, ↓qr, ↓qt, ↓qu, ↓qv, ↓qw, ↓qz, ↓qA, ↓qB, ↓qC, ↓qE, ↓qF, ↓qG, ↓qH, ↓qI, ↓qJ, ↓qL, ↓qM, ↓qN, ↓qO, ↓qP, ↓qQ, ↓qR, ↓qS, ↓qT, ↓qU, ↓qV, ↓qW, ↓qX, ↓qY, ↓qZ, ↓vf, ↓vg, ↓vh, ↓vi, ↓vj, ↓vk, ↓vl, ↓vm, ↓vo, ↓vp, ↓vq, ↓vt, ↓vu, ↓vw, vz, v6, ↓v7, ↓v8, ↓v9, ↓vA, ↓vB, ↓vC, ↓vD, ↓vE, ↓vF, ↓vG, ↓vH, ↓vI, ↓vJ, ↓vK, ↓vL, ↓vM, ↓vN, ↓vO, dLt, dLe, dGt, dGe, vP, vQ, vR, vS, vT, dI2, vU, vV, dEq, dNe, vW, vX, vY, vZ, ja, jb, jc, jd, je, jf, Option.some.injEq, jg, jh, ji, jk, jl, dIs, jm, jn, shs, kiC, jo, jp, obD, id_eq, List.getElem?_cons_zero, List.getElem?_cons_succ, List.set_cons_zero, List.set_cons_succ, List.length_cons, List.length_nil, D.bl.injEq, exists_eq_left', decide_eq_true_eq, decide_eq_false_iff_not, Bool.not_eq_true', Bool.not_eq_false', Nat.zero_add, Nat.reduceAdd, true_and, and_true, forall_const, reduceCtorEq, not_true_eq_false, not_false_eq_true, false_implies, true_implies, implies_true, jq, Nat.reduceLeDiff, Int.reduceLE, Int.reduceLT, Int.reduceNeg, Int.reducePow, Int.reduceAdd, Int.reduceSub, Int.reduceMul, lka_deeds, List.length_map]
    simp only [AC.cells, List.map_append, List.map_cons, List.map_nil, Pt.dd, Deed.dd] at q
    exact ⟨by omega, by omega, q⟩
  · exact h.elim
def wf_Account_move : WFgx
  | [.sh (.ad x), .sh (.int n)], gs, Q, EX => ∃ (c : AC) (fs : List Str), gs = c.cells ∧ x = c.s ∧ WOk c.ms c.pl fs ∧ AInv c.ms c.a ∧ c.a.deeds.length ≤ 1000 ∧ 0 ≤ n ∧ n ≤ 300 ∧ ((carOf c.pl ((lastP c.a).s, n)).isSome = true → Q (doA c.ms c.pl fs c.a (.move n)).dd { c with a := (doA c.ms c.pl fs c.a (.move n)).st c.a }.cells) ∧ (carOf c.pl ((lastP c.a).s, n) = none → EX ⟨"NoCarry", [("other", .int n), ("scheme", .int (lastP c.a).s)]⟩ c.cells)
  | _, _, _, _ => False
theorem len_Account_move : ∀ as gs Qd EX, wf_Account_move as gs Qd EX → as.length = 2 ∧ gs.length ≤ 3 := fun as gs Qd EX h => by
  unfold wf_Account_move at h
  split at h
  · obtain ⟨c, fs, rfl, _⟩ := h; exact ⟨rfl, Nat.le_refl 3⟩
  · exact h.elim
def w_Account_move_t1 (EX : Xn → List Sl → Prop) : WS := (wRet (wOp dIx (wFld "Carry" "cost" (wPk 5)) (wPk 3)))
def w_Account_move_t2 (EX : Xn → List Sl → Prop) : WS := (wSeq (wAppC 7 (wFld "Account" "deeds" (wDer 6 (wVar 0))) (wTup (waCons (wC (.str "move")) (waCons (wVar 1) waNil))))
 (w_Account_move_t1 EX))
def w_Account_move_t3 (EX : Xn → List Sl → Prop) : WS := (wSeq (wAppC 8 (wFld "Account" "past" (wDer 6 (wVar 0))) (wTup (waCons (wVar 1) (waCons (wOp dIx (wFld "Carry" "to" (wPk 5)) (wPk 3)) (waCons (wOp vP (wPk 4) (wOp dIx (wFld "Carry" "cost" (wPk 5)) (wPk 3))) waNil)))))
 (w_Account_move_t2 EX))
def w_Account_move_t4 (EX : Xn → List Sl → Prop) : WS := (wSeq (wAsg (wOp dIx (wFld "Account" "carries" (wDer 6 (wVar 0))) (wTup (waCons (wVar 2) (waCons (wVar 1) waNil)))) (wSt 5))
 (w_Account_move_t3 EX))
def w_Account_move_t5 (EX : Xn → List Sl → Prop) : WS := (wSeq (wIf (wTst (wOp dNotIn (wTup (waCons (wVar 2) (waCons (wVar 1) waNil))) (wFld "Account" "carries" (wDer 6 (wVar 0)))))
 (wRaiseC EX "NoCarry" ["scheme", "other"] (waCons (wVar 2) (waCons (wVar 1) waNil)))
 wNext)
 (w_Account_move_t4 EX))
def w_Account_move (EX : Xn → List Sl → Prop) : WS := (wSeq (wAsg (wOp dIx (wDer 8 (wFld "Account" "past" (wDer 6 (wVar 0)))) (wUn dNeg (wC (.int 1)))) (wTp [2, 3, 4]))
 (w_Account_move_t5 EX))
theorem p_Account_move : ∀ as gs Qd EX, wf_Account_move as gs Qd EX → w_Account_move (fun x ρ => pickK [6, 7, 8] ρ fun gs2 _ => EX x gs2) (startG 4 3 as gs) (endG [6, 7, 8] Qd) := fun as gs Qd EX h => by
  unfold wf_Account_move at h
  split at h
  · rename_i x n
    obtain ⟨c, fs, rfl, rfl, w, h, hb, hn0, hn1, q, qx⟩ := h
    obtain ⟨hl, hp⟩ := h.last
    have hln := h.ln
    show w_Account_move _ [.sh (.ad c.s), .sh (.int n), .no, .no, .no, .no, .gh c.s (.ins "Account" acF [.lst (c.ms.map Mach.dd), caD c.pl, .ad c.d, .ad c.p]), .gh c.d (.lst (c.a.deeds.map Deed.dd)), .gh c.p (.lst (c.a.past.map Pt.dd))] _
    simp only [w_Account_move, ↓za, ↓zb, ↓zc, ↓zd, ↓ze, ↓zf, ↓zg, ↓zh, ↓zi, ↓zj, ↓zk, ↓zl, ↓zm, ↓zn, ↓zo, ↓zp, ↓zq, ↓zr, ↓zt, ↓zu, ↓zv, ↓zw, ↓zx, zy, zz, ↓z3, ↓z7, ↓z8, ↓z9, ↓zA, ↓zB, ↓zC, ↓zD, ↓zE, ↓zF, ↓zG, ↓zH, ↓zI, ↓zJ, ↓zK, ↓zL, ↓zM, ↓zN, ↓zO, ↓zP, ↓zQ, ↓zR, ↓zS, ↓zT, ↓zU, ↓zV, ↓zW, ↓zX, ↓zY, ↓zZ, ↓xf, ↓xg, ↓xh, ↓xi, ↓xj, ↓xk, ↓xl, ↓xm, ↓xq, xt, ↓xu, ↓xw, ↓xy, ↓xz, ↓x5, ↓x6, ↓x7, ↓x8, ↓x9, ↓xB, ↓xD, ↓xE, ↓xF, ↓xG, ↓xH, ↓xI, ↓xJ, ↓xK, ↓xL, ↓xM, ↓xN, ↓xO, ↓xP, ↓xQ, ↓xR, ↓xS, ↓xT, ↓xU, ↓xV, ↓xW, ↓xX, ↓xY, ↓xZ, ↓qb, ↓qc, ↓qd, ↓qf, ↓qg, ↓qh, ↓qi, ↓qj, ↓qk, ↓ql, ↓qm, ↓qo, ↓qp, ↓qr, ↓qt, ↓qu, ↓qv, ↓qw, ↓qz, ↓qA, ↓qB, ↓qC, ↓qE, ↓qF, ↓qG, ↓qH, ↓qI, ↓qJ, ↓qL, ↓qM, ↓qN, ↓qO, ↓qP, ↓qQ, ↓qR, ↓qS, ↓qT, ↓qU, ↓qV, ↓qW, ↓qX, ↓qY, ↓qZ, ↓vf, ↓vg, ↓vh, ↓vi, ↓vj, ↓vk, ↓vl, ↓vm, ↓vo, ↓vp, ↓vq, ↓vt, ↓vu, ↓vw, vz, v6, ↓v7, ↓v8, ↓v9, ↓vA, ↓vB, ↓vC, ↓vD, ↓vE, ↓vF, ↓vG, ↓vH, ↓vI, ↓vJ, ↓vK, ↓vL, ↓vM, ↓vN, ↓vO, dLt, dLe, dGt, dGe, vP, vQ, vR, vS, vT, dI2, vU, vV, dEq, dNe, vW, vX, vY, vZ, ja, jb, jc, jd, je, jf, Option.some.injEq, jg, jh, ji, jk, jl, dIs, jm, jn, shs, kiC, jo, jp, obD, id_eq, List.getElem?_cons_zero, List.getElem?_cons_succ, List.set_cons_zero, List.set_cons_succ, List.length_cons, List.length_nil, D.bl.injEq, exists_eq_left', decide_eq_true_eq, decide_eq_false_iff_not, Bool.not_eq_true', Bool.not_eq_false', Nat.zero_add, Nat.reduceAdd, true_and, and_true, forall_const, reduceCtorEq, not_true_eq_false, not_false_eq_true, false_implies, true_implies, implies_true, jq, Nat.reduceLeDiff, Int.reduceLE, Int.reduceLT, Int.reduceNeg, Int.reducePow, Int.reduceAdd, Int.reduceSub, Int.reduceMul, lka_past, dNeg]
    refine ⟨_, h.at1, ?_⟩
    simp only [Pt.dd, w_Account_move_t5, ↓za, ↓zb, ↓zc, ↓zd, ↓ze, ↓zf, ↓zg, ↓zh, ↓zi, ↓zj, ↓zk, ↓zl, ↓zm, ↓zn, ↓zo, ↓zp, ↓zq, ↓zr, ↓zt, ↓zu, ↓zv, ↓zw, ↓zx, zy, zz, ↓z3, ↓z7, ↓z8, ↓z9, ↓zA, ↓zB, ↓zC, ↓zD, ↓zE, ↓zF, ↓zG, ↓zH, ↓zI, ↓zJ, ↓zK, ↓zL, ↓zM, ↓zN, ↓zO, ↓zP, ↓zQ, ↓zR, ↓zS, ↓zT, ↓zU, ↓zV, ↓zW, ↓zX, ↓zY, ↓zZ, ↓xf, ↓xg, ↓xh, ↓xi, ↓xj, ↓xk, ↓xl, ↓xm, ↓xq, xt, ↓xu, ↓xw, ↓xy, ↓xz, ↓x5, ↓x6, ↓x7, ↓x8, ↓x9, ↓xB, ↓xD, ↓xE, ↓xF, ↓xG, ↓xH, ↓xI, ↓xJ, ↓xK, ↓xL, ↓xM, ↓xN, ↓xO, ↓xP, ↓xQ, ↓xR, ↓xS, ↓xT, ↓xU, ↓xV, ↓xW, ↓xX, ↓xY, ↓xZ, ↓qb, ↓qc, ↓qd, ↓qf, ↓qg, ↓qh, ↓qi, ↓qj, ↓qk, ↓ql, ↓qm, ↓qo, ↓qp, ↓qr, ↓qt, ↓qu, ↓qv, ↓qw, ↓qz, ↓qA, ↓qB, ↓qC, ↓qE, ↓qF, ↓qG, ↓qH, ↓qI, ↓qJ, ↓qL, ↓qM, ↓qN, ↓qO, ↓qP, ↓qQ, ↓qR, ↓qS, ↓qT, ↓qU, ↓qV, ↓qW, ↓qX, ↓qY, ↓qZ, ↓vf, ↓vg, ↓vh, ↓vi, ↓vj, ↓vk, ↓vl, ↓vm, ↓vo, ↓vp, ↓vq, ↓vt, ↓vu, ↓vw, vz, v6, ↓v7, ↓v8, ↓v9, ↓vA, ↓vB, ↓vC, ↓vD, ↓vE, ↓vF, ↓vG, ↓vH, ↓vI, ↓vJ, ↓vK, ↓vL, ↓vM, ↓vN, ↓vO, dLt, dLe, dGt, dGe, vP, vQ, vR, vS, vT, dI2, vU, vV, dEq, dNe, vW, vX, vY, vZ, ja, jb, jc, jd, je, jf, Option.some.injEq, jg, jh, ji, jk, jl, dIs, jm, jn, shs, kiC, jo, jp, obD, id_eq, List.getElem?_cons_zero, List.getElem?_cons_succ, List.set_cons_zero, List.set_cons_succ, List.length_cons, List.length_nil, D.bl.injEq, exists_eq_left', decide_eq_true_eq, decide_eq_false_iff_not, Bool.not_eq_true', Bool.not_eq_false', Nat.zero_add, Nat.reduceAdd, true_and, and_true, forall_const, reduceCtorEq, not_true_eq_false, not_false_eq_true, false_implies, true_implies, implies_true, jq, Nat.reduceLeDiff, Int.reduceLE, Int.reduceLT, Int.reduceNeg, Int.reducePow, Int.reduceAdd, Int.reduceSub, Int.reduceMul, lka_carries]
    refine notin_plk (p := ((lastP c.a).s, n)) (g := Cary.dd) ?_
    cases ec : carOf c.pl ((lastP c.a).s, n) with
    | none =>
      rw [decide_eq_false (carOf_none ec)]
      simp only [Bool.not_false, ↓za, ↓zb, ↓zc, ↓zd, ↓ze, ↓zf, ↓zg, ↓zh, ↓zi, ↓zj, ↓zk, ↓zl, ↓zm, ↓zn, ↓zo, ↓zp, ↓zq, ↓zr, ↓zt, ↓zu, ↓zv, ↓zw, ↓zx, zy, zz, ↓z3, ↓z7, ↓z8, ↓z9, ↓zA, ↓zB, ↓zC, ↓zD, ↓zE, ↓zF, ↓zG, ↓zH, ↓zI, ↓zJ, ↓zK, ↓zL, ↓zM, ↓zN, ↓zO, ↓zP, ↓zQ, ↓zR, ↓zS, ↓zT, ↓zU, ↓zV, ↓zW, ↓zX, ↓zY, ↓zZ, ↓xf, ↓xg, ↓xh, ↓xi, ↓xj, ↓xk, ↓xl, ↓xm, ↓xq, xt, ↓xu, ↓xw, ↓xy, ↓xz, ↓x5, ↓x6, ↓x7, ↓x8, ↓x9, ↓xB, ↓xD, ↓xE, ↓xF, ↓xG, ↓xH, ↓xI, ↓xJ, ↓xK, ↓xL, ↓xM, ↓xN, ↓xO, ↓xP, ↓xQ, ↓xR, ↓xS, ↓xT, ↓xU, ↓xV, ↓xW, ↓xX, ↓xY, ↓xZ, ↓qb, ↓qc, ↓qd, ↓qf, ↓qg, ↓qh, ↓qi, ↓qj, ↓qk, ↓ql, ↓qm, ↓qo, ↓qp, ↓qr, ↓qt, ↓qu, ↓qv, ↓qw, ↓qz, ↓qA, ↓qB, ↓qC, ↓qE, ↓qF, ↓qG, ↓qH, ↓qI, ↓qJ, ↓qL, ↓qM, ↓qN, ↓qO, ↓qP, ↓qQ, ↓qR, ↓qS, ↓qT, ↓qU, ↓qV, ↓qW, ↓qX, ↓qY, ↓qZ, ↓vf, ↓vg, ↓vh, ↓vi, ↓vj, ↓vk, ↓vl, ↓vm, ↓vo, ↓vp, ↓vq, ↓vt, ↓vu, ↓vw, vz, v6, ↓v7, ↓v8, ↓v9, ↓vA, ↓vB, ↓vC, ↓vD, ↓vE, ↓vF, ↓vG, ↓vH, ↓vI, ↓vJ, ↓vK, ↓vL, ↓vM, ↓vN, ↓vO, dLt, dLe, dGt, dGe, vP, vQ, vR, vS, vT, dI2, vU, vV, dEq, dNe, vW, vX, vY, vZ, ja, jb, jc, jd, je, jf, Option.some.injEq, jg, jh, ji, jk, jl, dIs, jm, jn, shs, kiC, jo, jp, obD, id_eq, List.getElem?_cons_zero, List.getElem?_cons_succ, List.set_cons_zero, List.set_cons_succ, List.length_cons, List.length_nil, D.bl.injEq, exists_eq_left', decide_eq_true_eq, decide_eq_false_iff_not, Bool.not_eq_true', Bool.not_eq_false', Nat.zero_add, Nat.reduceAdd, true_and, and_true, forall_const, reduceCtorEq, not_true_eq_false, not_false_eq_true, false_implies, true_implies, implies_true, jq, Nat.reduceLeDiff, Int.reduceLE, Int.reduceLT, Int.reduceNeg, Int.reducePow, Int.reduceAdd, Int.reduceSub, Int.reduceMul]
      have s0 := hp.s0
      have s1 := hp.s1
      have n3 := w.so.n3
      refine ⟨fun d hd => ?_, ?_⟩
      · rcases List.mem_cons.mp hd with rfl | hd
        · show _ ∧ _
          omega
        · rw [List.mem_singleton] at hd
          rw [hd]
          show _ ∧ _
          omega
      · exact qx ec
    | some cc =>
    obtain ⟨_, _, _, _, _, _, a1, a2⟩ := w.car ec hp.t0 hp.t1
    have q := q (by rw [ec]; rfl)
    simp only [doA, ec, Ev.dd, Ev.st] at q
    rw [decide_eq_true (mem_pl ec)]
    simp only [Bool.not_true, ↓za, ↓zb, ↓zc, ↓zd, ↓ze, ↓zf, ↓zg, ↓zh, ↓zi, ↓zj, ↓zk, ↓zl, ↓zm, ↓zn, ↓zo, ↓zp, ↓zq, ↓zr, ↓zt, ↓zu, ↓zv, ↓zw, ↓zx, zy, zz, ↓z3, ↓z7, ↓z8, ↓z9, ↓zA, ↓zB, ↓zC, ↓zD, ↓zE, ↓zF, ↓zG, ↓zH, ↓zI, ↓zJ, ↓zK, ↓zL, ↓zM, ↓zN, ↓zO, ↓zP, ↓zQ, ↓zR, ↓zS, ↓zT, ↓zU, ↓zV, ↓zW, ↓zX, ↓zY, ↓zZ, ↓xf, ↓xg, ↓xh, ↓xi, ↓xj, ↓xk, ↓xl, ↓xm, ↓xq, xt, ↓xu, ↓xw, ↓xy, ↓xz, ↓x5, ↓x6, ↓x7, ↓x8, ↓x9, ↓xB, ↓xD, ↓xE, ↓xF, ↓xG, ↓xH, ↓xI, ↓xJ, ↓xK, ↓xL, ↓xM, ↓xN, ↓xO, ↓xP, ↓xQ, ↓xR, ↓xS, ↓xT, ↓xU, ↓xV, ↓xW, ↓xX, ↓xY, ↓xZ, ↓qb, ↓qc, ↓qd, ↓qf, ↓qg, ↓qh, ↓qi, ↓qj, ↓qk, ↓ql, ↓qm, ↓qo, ↓qp, ↓qr, ↓qt, ↓qu, ↓qv, ↓qw, ↓qz, ↓qA, ↓qB, ↓qC, ↓qE, ↓qF, ↓qG, ↓qH, ↓qI, ↓qJ, ↓qL, ↓qM, ↓qN, ↓qO, ↓qP, ↓qQ, ↓qR, ↓qS, ↓qT, ↓qU, ↓qV, ↓qW, ↓qX, ↓qY, ↓qZ, ↓vf, ↓vg, ↓vh, ↓vi, ↓vj, ↓vk, ↓vl, ↓vm, ↓vo, ↓vp, ↓vq, ↓vt, ↓vu, ↓vw, vz, v6, ↓v7, ↓v8, ↓v9, ↓vA, ↓vB, ↓vC, ↓vD, ↓vE, ↓vF, ↓vG, ↓vH, ↓vI, ↓vJ, ↓vK, ↓vL, ↓vM, ↓vN, ↓vO, dLt, dLe, dGt, dGe, vP, vQ, vR, vS, vT, dI2, vU, vV, dEq, dNe, vW, vX, vY, vZ, ja, jb, jc, jd, je, jf, Option.some.injEq, jg, jh, ji, jk, jl, dIs, jm, jn, shs, kiC, jo, jp, obD, id_eq, List.getElem?_cons_zero, List.getElem?_cons_succ, List.set_cons_zero, List.set_cons_succ, List.length_cons, List.length_nil, D.bl.injEq, exists_eq_left', decide_eq_true_eq, decide_eq_false_iff_not, Bool.not_eq_true', Bool.not_eq_false', Nat.zero_add, Nat.reduceAdd, true_and, and_true, forall_const, reduceCtorEq, not_true_eq_false, not_false_eq_true, false_implies, true_implies, implies_true, jq, Nat.reduceLeDiff, Int.reduceLE, Int.reduceLT, Int.reduceNeg, Int.reducePow, Int.reduceAdd, Int.reduceSub, Int.reduceMul]
    simp only [w_Account_move_t4, ↓za, ↓zb, ↓zc, ↓zd, ↓ze, ↓zf, ↓zg, ↓zh, ↓zi, ↓zj, ↓zk, ↓zl, ↓zm, ↓zn, ↓zo, ↓zp, ↓zq, ↓zr, ↓zt, ↓zu, ↓zv, ↓zw, ↓zx, zy, zz, ↓z3, ↓z7, ↓z8, ↓z9, ↓zA, ↓zB, ↓zC, ↓zD, ↓zE, ↓zF, ↓zG, ↓zH, ↓zI, ↓zJ, ↓zK, ↓zL, ↓zM, ↓zN, ↓zO, ↓zP, ↓zQ, ↓zR, ↓zS, ↓zT, ↓zU, ↓zV, ↓zW, ↓zX, ↓zY, ↓zZ, ↓xf, ↓xg, ↓xh, ↓xi, ↓xj, ↓xk, ↓xl, ↓xm, ↓xq, xt, ↓xu, ↓xw, ↓xy, ↓xz, ↓x5, ↓x6, ↓x7, ↓x8, ↓x9, ↓xB, ↓xD, ↓xE, ↓xF, ↓xG, ↓xH, ↓xI, ↓xJ, ↓xK, ↓xL, ↓xM, ↓xN, ↓xO, ↓xP, ↓xQ, ↓xR, ↓xS, ↓xT, ↓xU, ↓xV, ↓xW, ↓xX, ↓xY, ↓xZ, ↓qb, ↓qc, ↓qd, ↓qf, ↓qg, ↓qh, ↓qi, ↓qj, ↓qk, ↓ql, ↓qm, ↓qo, ↓qp, ↓qr, ↓qt, ↓qu, ↓qv, ↓qw, ↓qz, ↓qA, ↓qB, ↓qC, ↓qE, ↓qF, ↓qG, ↓qH, ↓qI, ↓qJ, ↓qL, ↓qM, ↓qN, ↓qO, ↓qP, ↓qQ, ↓qR, ↓qS, ↓qT, ↓qU, ↓qV, ↓qW, ↓qX, ↓qY, ↓qZ, ↓vf, ↓vg, ↓vh, ↓vi, ↓vj, ↓vk, ↓vl, ↓vm, ↓vo, ↓vp, ↓vq, ↓vt, ↓vu, ↓vw, vz, v6, ↓v7, ↓v8, ↓v9, ↓vA, ↓vB, ↓vC, ↓vD, ↓vE, ↓vF, ↓vG, ↓vH, ↓vI, ↓vJ, ↓vK, ↓vL, ↓vM, ↓vN, ↓vO, dLt, dLe, dGt, dGe, vP, vQ, vR, vS, vT, dI2, vU, vV, dEq, dNe, vW, vX, vY, vZ, ja, jb, jc, jd, je, jf, Option.some.injEq, jg, jh, ji, jk, jl, dIs, jm, jn, shs, kiC, jo, jp, obD, id_eq, List.getElem?_cons_zero, List.getElem?_cons_succ, List.set_cons_zero, List.set_cons_succ, List.length_cons, List.length_nil, D.bl.injEq, exists_eq_left', decide_eq_true_eq, decide_eq_false_iff_not, Bool.not_eq_true', Bool.not_eq_false', Nat.zero_add, Nat.reduceAdd, true_and, and_true, forall_const, reduceCtorEq, not_true_eq_false, not_false_eq_true, false_implies, true_implies, implies_true, jq, Nat.reduceLeDiff, Int.reduceLE, Int.reduceLT, Int.reduceNeg, Int.reducePow, Int.reduceAdd, Int.reduceSub, Int.reduceMul, lka_carries]
    refine pl_at (g := Cary.dd) w.so.pnd ec ?_
    simp only [w_Account_move_t3, ↓za, ↓zb, ↓zc, ↓zd, ↓ze, ↓zf, ↓zg, ↓zh, ↓zi, ↓zj, ↓zk, ↓zl, ↓zm, ↓zn, ↓zo, ↓zp, ↓zq, ↓zr, ↓zt, ↓zu, ↓zv, ↓zw, ↓zx, zy, zz, ↓z3, ↓z7, ↓z8, ↓z9, ↓zA, ↓zB, ↓zC, ↓zD, ↓zE, ↓zF, ↓zG, ↓zH, ↓zI, ↓zJ, ↓zK, ↓zL, ↓zM, ↓zN, ↓zO, ↓zP, ↓zQ, ↓zR, ↓zS, ↓zT, ↓zU, ↓zV, ↓zW, ↓zX, ↓zY, ↓zZ, ↓xf, ↓xg, ↓xh, ↓xi, ↓xj, ↓xk, ↓xl, ↓xm, ↓xq, xt, ↓xu, ↓xw, ↓xy, ↓xz, ↓x5, ↓x6, ↓x7, ↓x8, ↓x9, ↓xB, ↓xD, ↓xE, ↓xF, ↓xG, ↓xH, ↓xI, ↓xJ, ↓xK, ↓xL, ↓xM, ↓xN, ↓xO, ↓xP, ↓xQ, ↓xR, ↓xS, ↓xT, ↓xU, ↓xV, ↓xW, ↓xX, ↓xY, ↓xZ, ↓qb, ↓qc, ↓qd, ↓qf, ↓qg, ↓qh, ↓qi, ↓qj, ↓qk, ↓ql, ↓qm, ↓qo, ↓qp, ↓qr, ↓qt, ↓qu, ↓qv, ↓qw, ↓qz, ↓qA, ↓qB, ↓qC, ↓qE, ↓qF, ↓qG, ↓qH, ↓qI, ↓qJ, ↓qL, ↓qM, ↓qN, ↓qO, ↓qP, ↓qQ, ↓qR, ↓qS, ↓qT, ↓qU, ↓qV, ↓qW, ↓qX, ↓qY, ↓qZ, ↓vf, ↓vg, ↓vh, ↓vi, ↓vj, ↓vk, ↓vl, ↓vm, ↓vo, ↓vp, ↓vq, ↓vt, ↓vu, ↓vw, vz, v6, ↓v7, ↓v8, ↓v9, ↓vA, ↓vB, ↓vC, ↓vD, ↓vE, ↓vF, ↓vG, ↓vH, ↓vI, ↓vJ, ↓vK, ↓vL, ↓vM, ↓vN, ↓vO, dLt, dLe, dGt, dGe, vP, vQ, vR, vS, vT, dI2, vU, vV, dEq, dNe, vW, vX, vY, vZ, ja, jb, jc, jd, je, jf, Option.some.injEq, jg, jh, ji, jk, jl, dIs, jm, jn, shs, kiC, jo, jp, obD, id_eq, List.getElem?_cons_zero, List.getElem?_cons_succ, List.set_cons_zero, List.set_cons_succ, List.length_cons, List.length_nil, D.bl.injEq, exists_eq_left', decide_eq_true_eq, decide_eq_false_iff_not, Bool.not_eq_true', Bool.not_eq_false', Nat.zero_add, Nat.reduceAdd, true_and, and_true, forall_const, reduceCtorEq, not_true_eq_false, not_false_eq_true, false_implies, true_implies, implies_true, jq, Nat.reduceLeDiff, Int.reduceLE, Int.reduceLT, Int.reduceNeg, Int.reducePow, Int.reduceAdd, Int.reduceSub, Int.reduceMul, Mach.dd, Cary.dd, lk_facts, lk_step, lk_gain, lk_leave, lk_to, lk_cost, lka_past]
    refine ⟨_, a1, _, a2, ?_⟩
    simp only [w_Account_move_t2, w_Account_move_t1, ↓za, ↓zb, ↓zc, ↓zd, ↓ze, ↓zf, ↓zg, ↓zh, ↓zi, ↓zj, ↓zk, ↓zl, ↓zm, ↓zn, ↓zo, ↓zp, ↓zq, ↓zr, ↓zt, ↓zu, ↓zv, ↓zw, ↓zx, zy, zz, ↓z3, ↓z7, ↓z8, ↓z9, ↓zA, ↓zB, ↓zC, ↓zD, ↓zE, ↓zF, ↓zG, ↓zH, ↓zI, ↓zJ, ↓zK, ↓zL, ↓zM, ↓zN, ↓zO, ↓zP, ↓zQ, ↓zR, ↓zS, ↓zT, ↓zU, ↓zV, ↓zW, ↓zX, ↓zY, ↓zZ, ↓xf, ↓xg, ↓xh, ↓xi, ↓xj, ↓xk, ↓xl, ↓xm, ↓xq, xt, ↓xu, ↓xw, ↓xy, ↓xz, ↓x5, ↓x6, ↓x7, ↓x8, ↓x9, ↓xB, ↓xD, ↓xE, ↓xF, ↓xG, ↓xH, ↓xI, ↓xJ, ↓xK, ↓xL, ↓xM, ↓xN, ↓xO, ↓xP, ↓xQ, ↓xR, ↓xS, ↓xT, ↓xU, ↓xV, ↓xW, ↓xX, ↓xY, ↓xZ, ↓qb, ↓qc, ↓qd, ↓qf, ↓qg, ↓qh, ↓qi, ↓qj, ↓qk, ↓ql, ↓qm, ↓qo, ↓qp, ↓qr, ↓qt, ↓qu, ↓qv, ↓qw, ↓qz, ↓qA, ↓qB, ↓qC, ↓qE, ↓qF, ↓qG, ↓qH, ↓qI, ↓qJ, ↓qL, ↓qM, ↓qN, ↓qO, ↓qP, ↓qQ, ↓qR, ↓qS, ↓qT, ↓qU, ↓qV, ↓qW, ↓qX, ↓qY, ↓qZ, ↓vf, ↓vg, ↓vh, ↓vi, ↓vj, ↓vk, ↓vl, ↓vm, ↓vo, ↓vp, ↓vq, ↓vt, ↓vu, ↓vw, vz, v6, ↓v7, ↓v8, ↓v9, ↓vA, ↓vB, ↓vC, ↓vD, ↓vE, ↓vF, ↓vG, ↓vH, ↓vI, ↓vJ, ↓vK, ↓vL, ↓vM, ↓vN, ↓vO, dLt, dLe, dGt, dGe, vP, vQ, vR, vS, vT, dI2, vU, vV, dEq, dNe, vW, vX, vY, vZ, ja, jb, jc, jd, je, jf, Option.some.injEq, jg, jh, ji, jk, jl, dIs, jm, jn, shs, kiC, jo, jp, obD, id_eq, List.getElem?_cons_zero, List.getElem?_cons_succ, List.set_cons_zero, List.set_cons_succ, List.length_cons, List.length_nil, D.bl.injEq, exists_eq_left', decide_eq_true_eq, decide_eq_false_iff_not, Bool.not_eq_true', Bool.not_eq_false', Nat.zero_add, Nat.reduceAdd, true_and, and_true, forall_const, reduceCtorEq, not_true_eq_false, not_false_eq_true, false_implies, true_implies, implies_true, jq, Nat.reduceLeDiff, Int.reduceLE, Int.reduceLT, Int.reduceNeg, Int.reducePow, Int.reduceAdd, Int.reduceSub, Int.reduceMul, Mach.dd, Cary.dd, lk_facts, lk_step, lk_gain, lk_leave, lk_to, lk_cost, lka_deeds, List.length_map]
    simp only [AC.cells, List.map_append, List.map_cons, List.map_nil, Pt.dd, Deed.dd] at q
    exact ⟨by omega, by omega, _, a2, q⟩
  · exact h.elim
def wf_Account_undo : WFg
  | [.sh (.ad x)], gs, Q => ∃ c : AC, gs = c.cells ∧ x = c.s ∧ AInv c.ms c.a ∧ Q (doA c.ms c.pl [] c.a .undo).dd { c with a := (doA c.ms c.pl [] c.a .undo).st c.a }.cells
  | _, _, _ => False
theorem len_Account_undo : ∀ as gs Qd, wf_Account_undo as gs Qd → as.length = 1 ∧ gs.length ≤ 3 := fun as gs Qd h => by
  unfold wf_Account_undo at h
  split at h
  · first | exact ⟨rfl, by simp⟩ | (obtain ⟨c, rfl, _⟩ := h; exact ⟨rfl, Nat.le_refl _⟩)
  · exact h.elim
theorem last_map {α : Type} {g : α → D} {l : List α} {x : α} (h : l.getLast? = some x) : (l.map g).getLast? = some (g x) := by rw [List.getLast?_map, h]; rfl
theorem drop_map {α : Type} {g : α → D} {l : List α} : (l.map g).dropLast = l.dropLast.map g := by rw [List.map_dropLast]
def w_Account_undo : WS := (wSeq (wIf (wNot (wTru (wDer 2 (wFld "Account" "deeds" (wDer 1 (wVar 0))))))
 (wRet (wC (.bl false)))
 wNext)
 (wSeq (wDrop (wPopC 2 (wFld "Account" "deeds" (wDer 1 (wVar 0)))))
 (wSeq (wDrop (wPopC 3 (wFld "Account" "past" (wDer 1 (wVar 0)))))
 (wRet (wC (.bl true))))))
theorem p_Account_undo : ∀ as gs Qd, wf_Account_undo as gs Qd → w_Account_undo (startG 0 3 as gs) (endG [1, 2, 3] Qd) := fun as gs Qd h => by
  unfold wf_Account_undo at h
  split at h
  · obtain ⟨c, rfl, rfl, h, q⟩ := h
    show w_Account_undo [.sh (.ad c.s), .gh c.s (.ins "Account" acF [.lst (c.ms.map Mach.dd), caD c.pl, .ad c.d, .ad c.p]), .gh c.d (.lst (c.a.deeds.map Deed.dd)), .gh c.p (.lst (c.a.past.map Pt.dd))] _
    simp only [w_Account_undo, ↓za, ↓zb, ↓zc, ↓zd, ↓ze, ↓zf, ↓zg, ↓zh, ↓zi, ↓zj, ↓zk, ↓zl, ↓zm, ↓zn, ↓zo, ↓zp, ↓zq, ↓zr, ↓zt, ↓zu, ↓zv, ↓zw, ↓zx, zy, zz, ↓z3, ↓z7, ↓z8, ↓z9, ↓zA, ↓zB, ↓zC, ↓zD, ↓zE, ↓zF, ↓zG, ↓zH, ↓zI, ↓zJ, ↓zK, ↓zL, ↓zM, ↓zN, ↓zO, ↓zP, ↓zQ, ↓zR, ↓zS, ↓zT, ↓zU, ↓zV, ↓zW, ↓zX, ↓zY, ↓zZ, ↓xf, ↓xg, ↓xh, ↓xi, ↓xj, ↓xk, ↓xl, ↓xm, ↓xq, xt, ↓xu, ↓xw, ↓xy, ↓xz, ↓x5, ↓x6, ↓x7, ↓x8, ↓x9, ↓xB, ↓xD, ↓xE, ↓xF, ↓xG, ↓xH, ↓xI, ↓xJ, ↓xK, ↓xL, ↓xM, ↓xN, ↓xO, ↓xP, ↓xQ, ↓xR, ↓xS, ↓xT, ↓xU, ↓xV, ↓xW, ↓xX, ↓xY, ↓xZ, ↓qb, ↓qc, ↓qd, ↓qf, ↓qg, ↓qh, ↓qi, ↓qj, ↓qk, ↓ql, ↓qm, ↓qo, ↓qp, ↓qr, ↓qt, ↓qu, ↓qv, ↓qw, ↓qz, ↓qA, ↓qB, ↓qC, ↓qE, ↓qF, ↓qG, ↓qH, ↓qI, ↓qJ, ↓qL, ↓qM, ↓qN, ↓qO, ↓qP, ↓qQ, ↓qR, ↓qS, ↓qT, ↓qU, ↓qV, ↓qW, ↓qX, ↓qY, ↓qZ, ↓vf, ↓vg, ↓vh, ↓vi, ↓vj, ↓vk, ↓vl, ↓vm, ↓vo, ↓vp, ↓vq, ↓vt, ↓vu, ↓vw, vz, v6, ↓v7, ↓v8, ↓v9, ↓vA, ↓vB, ↓vC, ↓vD, ↓vE, ↓vF, ↓vG, ↓vH, ↓vI, ↓vJ, ↓vK, ↓vL, ↓vM, ↓vN, ↓vO, dLt, dLe, dGt, dGe, vP, vQ, vR, vS, vT, dI2, vU, vV, dEq, dNe, vW, vX, vY, vZ, ja, jb, jc, jd, je, jf, Option.some.injEq, jg, jh, ji, jk, jl, dIs, jm, jn, shs, kiC, jo, jp, obD, id_eq, List.getElem?_cons_zero, List.getElem?_cons_succ, List.set_cons_zero, List.set_cons_succ, List.length_cons, List.length_nil, D.bl.injEq, exists_eq_left', decide_eq_true_eq, decide_eq_false_iff_not, Bool.not_eq_true', Bool.not_eq_false', Nat.zero_add, Nat.reduceAdd, true_and, and_true, forall_const, reduceCtorEq, not_true_eq_false, not_false_eq_true, false_implies, true_implies, implies_true, jq, Nat.reduceLeDiff, Int.reduceLE, Int.reduceLT, Int.reduceNeg, Int.reducePow, Int.reduceAdd, Int.reduceSub, Int.reduceMul, lka_past, lka_deeds]
    have hl := h.last.1
    cases ed : c.a.deeds with
    | nil =>
      simp only [doA, ed, Ev.dd, Ev.st, AC.cells] at q
      exact ⟨fun _ => q, (fun z => by cases z)⟩
    | cons e es =>
      simp only [doA, ed, Ev.dd, Ev.st, AC.cells] at q
      refine ⟨(fun z => by cases z), fun _ => ?_⟩
      obtain ⟨y, hy⟩ : ∃ y, (e :: es).getLast? = some y := ⟨_, List.getLast?_eq_some_getLast (by simp)⟩
      refine ⟨_, last_map hy, _, last_map hl, ?_⟩
      rw [drop_map, drop_map]
      exact q
  · exact h.elim
def wf_Account_branch : WFg
  | [.sh (.ad x)], gs, Q => ∃ (c : AC), gs = c.cells ∧ x = c.s ∧ SOk c.ms c.pl ∧ c.a.deeds.length ≤ 1000 ∧ c.a.past.length ≤ 1001 ∧ ∀ s d p, Q (.ad s) (c.cells ++ AC.cells ⟨s, d, p, c.ms, c.pl, c.a⟩)
  | _, _, _ => False
theorem len_Account_branch : ∀ as gs Qd, wf_Account_branch as gs Qd → as.length = 1 ∧ gs.length ≤ 8 := fun as gs Qd h => by
  unfold wf_Account_branch at h
  split at h
  · obtain ⟨c, rfl, _⟩ := h; exact ⟨rfl, by show 3 ≤ 8; decide⟩
  · exact h.elim
theorem fc_3 : fldF acF "deeds" = acF := by decide +kernel
theorem fc_4 : fldF acF "past" = acF := by decide +kernel
theorem fd_3 {x y z w v : D} : fldD acF [x, y, z, w] "deeds" v = [x, y, v, w] := by
  unfold acF
  simp only [fldD, if_true, show (("schemes" : Str) = "deeds") = False from eq_false (by decide +kernel), show (("carries" : Str) = "deeds") = False from eq_false (by decide +kernel), if_false]
theorem fd_4 {x y z w v : D} : fldD acF [x, y, z, w] "past" v = [x, y, z, v] := by
  unfold acF
  simp only [fldD, if_true, show (("schemes" : Str) = "past") = False from eq_false (by decide +kernel), show (("carries" : Str) = "past") = False from eq_false (by decide +kernel), show (("deeds" : Str) = "past") = False from eq_false (by decide +kernel), if_false]
def w_Account_branch_t1 : WS := (wRet (wVar 1))
def w_Account_branch_t2 : WS := (wSeq (wSetC 5 "Account" "past" (wVar 1) (wNew 9 (wfList (wDer 4 (wFld "Account" "past" (wDer 2 (wVar 0)))))))
 w_Account_branch_t1)
def w_Account_branch_t3 : WS := (wSeq (wSetC 5 "Account" "deeds" (wVar 1) (wNew 8 (wfList (wDer 3 (wFld "Account" "deeds" (wDer 2 (wVar 0)))))))
 w_Account_branch_t2)
def w_Account_branch : WS := (wSeq (wAsg (wMakeC "Account" [] [5, 6, 7] wf_Account_init (asCons (wFld "Account" "schemes" (wDer 2 (wVar 0))) (asCons (wFld "Account" "carries" (wDer 2 (wVar 0))) asNil))) (wSt 1))
 w_Account_branch_t3)
theorem p_Account_branch : ∀ as gs Qd, wf_Account_branch as gs Qd → w_Account_branch (startG 1 8 as gs) (endG [2, 3, 4, 5, 8, 9] Qd) := fun as gs Qd h => by
  unfold wf_Account_branch at h
  split at h
  · obtain ⟨c, rfl, rfl, so, hd, hp, q⟩ := h
    show w_Account_branch [.sh (.ad c.s), .no, .gh c.s (.ins "Account" acF [.lst (c.ms.map Mach.dd), caD c.pl, .ad c.d, .ad c.p]), .gh c.d (.lst (c.a.deeds.map Deed.dd)), .gh c.p (.lst (c.a.past.map Pt.dd)), .no, .no, .no, .no, .no] _
    simp only [w_Account_branch, ↓za, ↓zb, ↓zc, ↓zd, ↓ze, ↓zf, ↓zg, ↓zh, ↓zi, ↓zj, ↓zk, ↓zl, ↓zm, ↓zn, ↓zo, ↓zp, ↓zq, ↓zr, ↓zt, ↓zu, ↓zv, ↓zw, ↓zx, zy, zz, ↓z3, ↓z7, ↓z8, ↓z9, ↓zA, ↓zB, ↓zC, ↓zD, ↓zE, ↓zF, ↓zG, ↓zH, ↓zI, ↓zJ, ↓zK, ↓zL, ↓zM, ↓zN, ↓zO, ↓zP, ↓zQ, ↓zR, ↓zS, ↓zT, ↓zU, ↓zV, ↓zW, ↓zX, ↓zY, ↓zZ, ↓xf, ↓xg, ↓xh, ↓xi, ↓xj, ↓xk, ↓xl, ↓xm, ↓xq, xt, ↓xu, ↓xw, ↓xy, ↓xz, ↓x5, ↓x6, ↓x7, ↓x8, ↓x9, ↓xB, ↓xD, ↓xE, ↓xF, ↓xG, ↓xH, ↓xI, ↓xJ, ↓xK, ↓xL, ↓xM, ↓xN, ↓xO, ↓xP, ↓xQ, ↓xR, ↓xS, ↓xT, ↓xU, ↓xV, ↓xW, ↓xX, ↓xY, ↓xZ, ↓qb, ↓qc, ↓qd, ↓qf, ↓qg, ↓qh, ↓qi, ↓qj, ↓qk, ↓ql, ↓qm, ↓qo, ↓qp, ↓qr, ↓qt, ↓qu, ↓qv, ↓qw, ↓qz, ↓qA, ↓qB, ↓qC, ↓qE, ↓qF, ↓qG, ↓qH, ↓qI, ↓qJ, ↓qL, ↓qM, ↓qN, ↓qO, ↓qP, ↓qQ, ↓qR, ↓qS, ↓qT, ↓qU, ↓qV, ↓qW, ↓qX, ↓qY, ↓qZ, ↓vf, ↓vg, ↓vh, ↓vi, ↓vj, ↓vk, ↓vl, ↓vm, ↓vo, ↓vp, ↓vq, ↓vt, ↓vu, ↓vw, vz, v6, ↓v7, ↓v8, ↓v9, ↓vA, ↓vB, ↓vC, ↓vD, ↓vE, ↓vF, ↓vG, ↓vH, ↓vI, ↓vJ, ↓vK, ↓vL, ↓vM, ↓vN, ↓vO, dLt, dLe, dGt, dGe, vP, vQ, vR, vS, vT, dI2, vU, vV, dEq, dNe, vW, vX, vY, vZ, ja, jb, jc, jd, je, jf, Option.some.injEq, jg, jh, ji, jk, jl, dIs, jm, jn, shs, kiC, jo, jp, obD, id_eq, List.getElem?_cons_zero, List.getElem?_cons_succ, List.set_cons_zero, List.set_cons_succ, List.length_cons, List.length_nil, D.bl.injEq, exists_eq_left', decide_eq_true_eq, decide_eq_false_iff_not, Bool.not_eq_true', Bool.not_eq_false', Nat.zero_add, Nat.reduceAdd, true_and, and_true, forall_const, reduceCtorEq, not_true_eq_false, not_false_eq_true, false_implies, true_implies, implies_true, jq, Nat.reduceLeDiff, Int.reduceLE, Int.reduceLT, Int.reduceNeg, Int.reducePow, Int.reduceAdd, Int.reduceSub, Int.reduceMul, lka_schemes, lka_carries]
    intro s
    refine ⟨rfl, c.ms, c.pl, rfl, rfl, so, fun d p => ⟨rfl, ?_⟩⟩
    simp only [AC.cells, w_Account_branch_t3, ↓za, ↓zb, ↓zc, ↓zd, ↓ze, ↓zf, ↓zg, ↓zh, ↓zi, ↓zj, ↓zk, ↓zl, ↓zm, ↓zn, ↓zo, ↓zp, ↓zq, ↓zr, ↓zt, ↓zu, ↓zv, ↓zw, ↓zx, zy, zz, ↓z3, ↓z7, ↓z8, ↓z9, ↓zA, ↓zB, ↓zC, ↓zD, ↓zE, ↓zF, ↓zG, ↓zH, ↓zI, ↓zJ, ↓zK, ↓zL, ↓zM, ↓zN, ↓zO, ↓zP, ↓zQ, ↓zR, ↓zS, ↓zT, ↓zU, ↓zV, ↓zW, ↓zX, ↓zY, ↓zZ, ↓xf, ↓xg, ↓xh, ↓xi, ↓xj, ↓xk, ↓xl, ↓xm, ↓xq, xt, ↓xu, ↓xw, ↓xy, ↓xz, ↓x5, ↓x6, ↓x7, ↓x8, ↓x9, ↓xB, ↓xD, ↓xE, ↓xF, ↓xG, ↓xH, ↓xI, ↓xJ, ↓xK, ↓xL, ↓xM, ↓xN, ↓xO, ↓xP, ↓xQ, ↓xR, ↓xS, ↓xT, ↓xU, ↓xV, ↓xW, ↓xX, ↓xY, ↓xZ, ↓qb, ↓qc, ↓qd, ↓qf, ↓qg, ↓qh, ↓qi, ↓qj, ↓qk, ↓ql, ↓qm, ↓qo, ↓qp, ↓qr, ↓qt, ↓qu, ↓qv, ↓qw, ↓qz, ↓qA, ↓qB, ↓qC, ↓qE, ↓qF, ↓qG, ↓qH, ↓qI, ↓qJ, ↓qL, ↓qM, ↓qN, ↓qO, ↓qP, ↓qQ, ↓qR, ↓qS, ↓qT, ↓qU, ↓qV, ↓qW, ↓qX, ↓qY, ↓qZ, ↓vf, ↓vg, ↓vh, ↓vi, ↓vj, ↓vk, ↓vl, ↓vm, ↓vo, ↓vp, ↓vq, ↓vt, ↓vu, ↓vw, vz, v6, ↓v7, ↓v8, ↓v9, ↓vA, ↓vB, ↓vC, ↓vD, ↓vE, ↓vF, ↓vG, ↓vH, ↓vI, ↓vJ, ↓vK, ↓vL, ↓vM, ↓vN, ↓vO, dLt, dLe, dGt, dGe, vP, vQ, vR, vS, vT, dI2, vU, vV, dEq, dNe, vW, vX, vY, vZ, ja, jb, jc, jd, je, jf, Option.some.injEq, jg, jh, ji, jk, jl, dIs, jm, jn, shs, kiC, jo, jp, obD, id_eq, List.getElem?_cons_zero, List.getElem?_cons_succ, List.set_cons_zero, List.set_cons_succ, List.length_cons, List.length_nil, D.bl.injEq, exists_eq_left', decide_eq_true_eq, decide_eq_false_iff_not, Bool.not_eq_true', Bool.not_eq_false', Nat.zero_add, Nat.reduceAdd, true_and, and_true, forall_const, reduceCtorEq, not_true_eq_false, not_false_eq_true, false_implies, true_implies, implies_true, jq, Nat.reduceLeDiff, Int.reduceLE, Int.reduceLT, Int.reduceNeg, Int.reducePow, Int.reduceAdd, Int.reduceSub, Int.reduceMul, lka_deeds, List.length_map]
    refine fun d2 => ⟨by decide, ?_⟩
    rw [fc_3, fd_3]
    simp only [w_Account_branch_t2, ↓za, ↓zb, ↓zc, ↓zd, ↓ze, ↓zf, ↓zg, ↓zh, ↓zi, ↓zj, ↓zk, ↓zl, ↓zm, ↓zn, ↓zo, ↓zp, ↓zq, ↓zr, ↓zt, ↓zu, ↓zv, ↓zw, ↓zx, zy, zz, ↓z3, ↓z7, ↓z8, ↓z9, ↓zA, ↓zB, ↓zC, ↓zD, ↓zE, ↓zF, ↓zG, ↓zH, ↓zI, ↓zJ, ↓zK, ↓zL, ↓zM, ↓zN, ↓zO, ↓zP, ↓zQ, ↓zR, ↓zS, ↓zT, ↓zU, ↓zV, ↓zW, ↓zX, ↓zY, ↓zZ, ↓xf, ↓xg, ↓xh, ↓xi, ↓xj, ↓xk, ↓xl, ↓xm, ↓xq, xt, ↓xu, ↓xw, ↓xy, ↓xz, ↓x5, ↓x6, ↓x7, ↓x8, ↓x9, ↓xB, ↓xD, ↓xE, ↓xF, ↓xG, ↓xH, ↓xI, ↓xJ, ↓xK, ↓xL, ↓xM, ↓xN, ↓xO, ↓xP, ↓xQ, ↓xR, ↓xS, ↓xT, ↓xU, ↓xV, ↓xW, ↓xX, ↓xY, ↓xZ, ↓qb, ↓qc, ↓qd, ↓qf, ↓qg, ↓qh, ↓qi, ↓qj, ↓qk, ↓ql, ↓qm, ↓qo, ↓qp, ↓qr, ↓qt, ↓qu, ↓qv, ↓qw, ↓qz, ↓qA, ↓qB, ↓qC, ↓qE, ↓qF, ↓qG, ↓qH, ↓qI, ↓qJ, ↓qL, ↓qM, ↓qN, ↓qO, ↓qP, ↓qQ, ↓qR, ↓qS, ↓qT, ↓qU, ↓qV, ↓qW, ↓qX, ↓qY, ↓qZ, ↓vf, ↓vg, ↓vh, ↓vi, ↓vj, ↓vk, ↓vl, ↓vm, ↓vo, ↓vp, ↓vq, ↓vt, ↓vu, ↓vw, vz, v6, ↓v7, ↓v8, ↓v9, ↓vA, ↓vB, ↓vC, ↓vD, ↓vE, ↓vF, ↓vG, ↓vH, ↓vI, ↓vJ, ↓vK, ↓vL, ↓vM, ↓vN, ↓vO, dLt, dLe, dGt, dGe, vP, vQ, vR, vS, vT, dI2, vU, vV, dEq, dNe, vW, vX, vY, vZ, ja, jb, jc, jd, je, jf, Option.some.injEq, jg, jh, ji, jk, jl, dIs, jm, jn, shs, kiC, jo, jp, obD, id_eq, List.getElem?_cons_zero, List.getElem?_cons_succ, List.set_cons_zero, List.set_cons_succ, List.length_cons, List.length_nil, D.bl.injEq, exists_eq_left', decide_eq_true_eq, decide_eq_false_iff_not, Bool.not_eq_true', Bool.not_eq_false', Nat.zero_add, Nat.reduceAdd, true_and, and_true, forall_const, reduceCtorEq, not_true_eq_false, not_false_eq_true, false_implies, true_implies, implies_true, jq, Nat.reduceLeDiff, Int.reduceLE, Int.reduceLT, Int.reduceNeg, Int.reducePow, Int.reduceAdd, Int.reduceSub, Int.reduceMul, lka_past, List.length_map]
    refine fun p2 => ⟨by decide, ?_⟩
    rw [fc_4, fd_4]
    simp only [w_Account_branch_t1, ↓za, ↓zb, ↓zc, ↓zd, ↓ze, ↓zf, ↓zg, ↓zh, ↓zi, ↓zj, ↓zk, ↓zl, ↓zm, ↓zn, ↓zo, ↓zp, ↓zq, ↓zr, ↓zt, ↓zu, ↓zv, ↓zw, ↓zx, zy, zz, ↓z3, ↓z7, ↓z8, ↓z9, ↓zA, ↓zB, ↓zC, ↓zD, ↓zE, ↓zF, ↓zG, ↓zH, ↓zI, ↓zJ, ↓zK, ↓zL, ↓zM, ↓zN, ↓zO, ↓zP, ↓zQ, ↓zR, ↓zS, ↓zT, ↓zU, ↓zV, ↓zW, ↓zX, ↓zY, ↓zZ, ↓xf, ↓xg, ↓xh, ↓xi, ↓xj, ↓xk, ↓xl, ↓xm, ↓xq, xt, ↓xu, ↓xw, ↓xy, ↓xz, ↓x5, ↓x6, ↓x7, ↓x8, ↓x9, ↓xB, ↓xD, ↓xE, ↓xF, ↓xG, ↓xH, ↓xI, ↓xJ, ↓xK, ↓xL, ↓xM, ↓xN, ↓xO, ↓xP, ↓xQ, ↓xR, ↓xS, ↓xT, ↓xU, ↓xV, ↓xW, ↓xX, ↓xY, ↓xZ, ↓qb, ↓qc, ↓qd, ↓qf, ↓qg, ↓qh, ↓qi, ↓qj, ↓qk, ↓ql, ↓qm, ↓qo, ↓qp, ↓qr, ↓qt, ↓qu, ↓qv, ↓qw, ↓qz, ↓qA, ↓qB, ↓qC, ↓qE, ↓qF, ↓qG, ↓qH, ↓qI, ↓qJ, ↓qL, ↓qM, ↓qN, ↓qO, ↓qP, ↓qQ, ↓qR, ↓qS, ↓qT, ↓qU, ↓qV, ↓qW, ↓qX, ↓qY, ↓qZ, ↓vf, ↓vg, ↓vh, ↓vi, ↓vj, ↓vk, ↓vl, ↓vm, ↓vo, ↓vp, ↓vq, ↓vt, ↓vu, ↓vw, vz, v6, ↓v7, ↓v8, ↓v9, ↓vA, ↓vB, ↓vC, ↓vD, ↓vE, ↓vF, ↓vG, ↓vH, ↓vI, ↓vJ, ↓vK, ↓vL, ↓vM, ↓vN, ↓vO, dLt, dLe, dGt, dGe, vP, vQ, vR, vS, vT, dI2, vU, vV, dEq, dNe, vW, vX, vY, vZ, ja, jb, jc, jd, je, jf, Option.some.injEq, jg, jh, ji, jk, jl, dIs, jm, jn, shs, kiC, jo, jp, obD, id_eq, List.getElem?_cons_zero, List.getElem?_cons_succ, List.set_cons_zero, List.set_cons_succ, List.length_cons, List.length_nil, D.bl.injEq, exists_eq_left', decide_eq_true_eq, decide_eq_false_iff_not, Bool.not_eq_true', Bool.not_eq_false', Nat.zero_add, Nat.reduceAdd, true_and, and_true, forall_const, reduceCtorEq, not_true_eq_false, not_false_eq_true, false_implies, true_implies, implies_true, jq, Nat.reduceLeDiff, Int.reduceLE, Int.reduceLT, Int.reduceNeg, Int.reducePow, Int.reduceAdd, Int.reduceSub, Int.reduceMul]
    exact q s d2 p2
  · exact h.elim
def wf_Machine_init : WFo
  | [.od x (.ins n [] []), .sh (.lst fs), .sh (.lst st), .sh (.lst gn), .sh (.lst lv)], Q => n = "Machine" ∧ fs.length ≤ 1000 ∧ st.length ≤ 1000 ∧ gn.length ≤ 1000 ∧ lv.length ≤ 1000 ∧ (∃ r1 : List RowD, st = r1.map rowD) ∧ (∃ r2 : List RowD, gn = r2.map rowD) ∧
    Q .non [.od x (.ins n machF [.sh (.lst fs), .sh (.lst st), .sh (.lst gn), .sh (.lst lv)]), .sh (.lst fs), .sh (.lst st), .sh (.lst gn), .sh (.lst lv)]
  | _, _ => False
theorem len_Machine_init : ∀ as Qd, wf_Machine_init as Qd → as.length = 5 := fun as Qd h => by
  unfold wf_Machine_init at h
  split at h
  · rfl
  · exact h.elim
/-- the comprehension that copies rows -/
theorem copy_lc {rows : List RowD} {vs : List Nat} {wg : WG} {we : WE} {ρ : List Sl} {Q : List D → List Sl → Prop} (step : ∀ r : RowD, ∀ Kt : D → List Sl → Prop, Kt (rowD r) ρ → wg (rowD r) ρ fun ρ1 => we ρ1 fun y ρ3 => noOwnB ρ3 vs = true ∧ Kt y (wipeD ρ3 vs))
    (q : Q (rows.map rowD) ρ) : wLcL vs wg wYes we (rows.map rowD) ρ [] Q := by
  refine wLcL_rule (fun d => ∃ r : RowD, d = rowD r) (fun d o => o = some d) ?_ _ _ _ ?_ ?_
  · rintro d ⟨r, rfl⟩ Kt Kf ht hf
    simp only [↓za, ↓zb, ↓zc, ↓zd, ↓ze, ↓zf, ↓zg, ↓zh, ↓zi, ↓zj, ↓zk, ↓zl, ↓zm, ↓zn, ↓zo, ↓zp, ↓zq, ↓zr, ↓zt, ↓zu, ↓zv, ↓zw, ↓zx, zy, zz, ↓z3, ↓z7, ↓z8, ↓z9, ↓zA, ↓zB, ↓zC, ↓zD, ↓zE, ↓zF, ↓zG, ↓zH, ↓zI, ↓zJ, ↓zK, ↓zL, ↓zM, ↓zN, ↓zO, ↓zP, ↓zQ, ↓zR, ↓zS, ↓zT, ↓zU, ↓zV, ↓zW, ↓zX, ↓zY, ↓zZ, ↓xf, ↓xg, ↓xh, ↓xi, ↓xj, ↓xk, ↓xl, ↓xm, ↓xq, xt, ↓xu, ↓xw, ↓xy, ↓xz, ↓x5, ↓x6, ↓x7, ↓x8, ↓x9, ↓xB, ↓xD, ↓xE, ↓xF, ↓xG, ↓xH, ↓xI, ↓xJ, ↓xK, ↓xL, ↓xM, ↓xN, ↓xO, ↓xP, ↓xQ, ↓xR, ↓xS, ↓xT, ↓xU, ↓xV, ↓xW, ↓xX, ↓xY, ↓xZ, ↓qb, ↓qc, ↓qd, ↓qf, ↓qg, ↓qh, ↓qi, ↓qj, ↓qk, ↓ql, ↓qm, ↓qo, ↓qp, ↓qr, ↓qt, ↓qu, ↓qv, ↓qw, ↓qz, ↓qA, ↓qB, ↓qC, ↓qE, ↓qF, ↓qG, ↓qH, ↓qI, ↓qJ, ↓qL, ↓qM, ↓qN, ↓qO, ↓qP, ↓qQ, ↓qR, ↓qS, ↓qT, ↓qU, ↓qV, ↓qW, ↓qX, ↓qY, ↓qZ, ↓vf, ↓vg, ↓vh, ↓vi, ↓vj, ↓vk, ↓vl, ↓vm, ↓vo, ↓vp, ↓vq, ↓vt, ↓vu, ↓vw, vz, v6, ↓v7, ↓v8, ↓v9, ↓vA, ↓vB, ↓vC, ↓vD, ↓vE, ↓vF, ↓vG, ↓vH, ↓vI, ↓vJ, ↓vK, ↓vL, ↓vM, ↓vN, ↓vO, dLt, dLe, dGt, dGe, vP, vQ, vR, vS, vT, dI2, vU, vV, dEq, dNe, vW, vX, vY, vZ, ja, jb, jc, jd, je, jf, Option.some.injEq, jg, jh, ji, jk, jl, dIs, jm, jn, shs, kiC, jo, jp, obD, id_eq, List.getElem?_cons_zero, List.getElem?_cons_succ, List.set_cons_zero, List.set_cons_succ, List.length_cons, List.length_nil, D.bl.injEq, exists_eq_left', decide_eq_true_eq, decide_eq_false_iff_not, Bool.not_eq_true', Bool.not_eq_false', Nat.zero_add, Nat.reduceAdd, true_and, and_true, forall_const, reduceCtorEq, not_true_eq_false, not_false_eq_true, false_implies, true_implies, implies_true, jq, Nat.reduceLeDiff, Int.reduceLE, Int.reduceLT, Int.reduceNeg, Int.reducePow, Int.reduceAdd, Int.reduceSub, Int.reduceMul]
    exact step r Kt (ht _ rfl)
  · intro d hd
    obtain ⟨r, _, rfl⟩ := List.mem_map.mp hd
    exact ⟨r, rfl⟩
  · intro ys hy
    have := Outs.map (g := id) hy
    rw [this, List.map_id, List.nil_append]
    exact q
/-- a comprehension over a range: ints of a kind -/
theorem ints_lc {P : Int → Prop} {ds : List D} {vs : List Nat} {wg : WG} {we : WE} {ρ : List Sl} {Q : List D → List Sl → Prop}
    (step : ∀ d ∈ ds, ∀ Kt : D → List Sl → Prop, (∀ v, P v → Kt (.int v) ρ) → wg d ρ fun ρ1 => we ρ1 fun y ρ3 => noOwnB ρ3 vs = true ∧ Kt y (wipeD ρ3 vs))
    (q : ∀ r : List Int, r.length = ds.length → (∀ v ∈ r, P v) → Q (r.map D.int) ρ) : wLcL vs wg wYes we ds ρ [] Q := by
  refine wLcL_rule (fun d => d ∈ ds) (fun _ o => ∃ y, o = some y ∧ ∃ v : Int, y = .int v ∧ P v) ?_ _ _ _ (fun d h => h) ?_
  · rintro d hd Kt Kf ht hf
    simp only [↓za, ↓zb, ↓zc, ↓zd, ↓ze, ↓zf, ↓zg, ↓zh, ↓zi, ↓zj, ↓zk, ↓zl, ↓zm, ↓zn, ↓zo, ↓zp, ↓zq, ↓zr, ↓zt, ↓zu, ↓zv, ↓zw, ↓zx, zy, zz, ↓z3, ↓z7, ↓z8, ↓z9, ↓zA, ↓zB, ↓zC, ↓zD, ↓zE, ↓zF, ↓zG, ↓zH, ↓zI, ↓zJ, ↓zK, ↓zL, ↓zM, ↓zN, ↓zO, ↓zP, ↓zQ, ↓zR, ↓zS, ↓zT, ↓zU, ↓zV, ↓zW, ↓zX, ↓zY, ↓zZ, ↓xf, ↓xg, ↓xh, ↓xi, ↓xj, ↓xk, ↓xl, ↓xm, ↓xq, xt, ↓xu, ↓xw, ↓xy, ↓xz, ↓x5, ↓x6, ↓x7, ↓x8, ↓x9, ↓xB, ↓xD, ↓xE, ↓xF, ↓xG, ↓xH, ↓xI, ↓xJ, ↓xK, ↓xL, ↓xM, ↓xN, ↓xO, ↓xP, ↓xQ, ↓xR, ↓xS, ↓xT, ↓xU, ↓xV, ↓xW, ↓xX, ↓xY, ↓xZ, ↓qb, ↓qc, ↓qd, ↓qf, ↓qg, ↓qh, ↓qi, ↓qj, ↓qk, ↓ql, ↓qm, ↓qo, ↓qp, ↓qr, ↓qt, ↓qu, ↓qv, ↓qw, ↓qz, ↓qA, ↓qB, ↓qC, ↓qE, ↓qF, ↓qG, ↓qH, ↓qI, ↓qJ, ↓qL, ↓qM, ↓qN, ↓qO, ↓qP, ↓qQ, ↓qR, ↓qS, ↓qT, ↓qU, ↓qV, ↓qW, ↓qX, ↓qY, ↓qZ, ↓vf, ↓vg, ↓vh, ↓vi, ↓vj, ↓vk, ↓vl, ↓vm, ↓vo, ↓vp, ↓vq, ↓vt, ↓vu, ↓vw, vz, v6, ↓v7, ↓v8, ↓v9, ↓vA, ↓vB, ↓vC, ↓vD, ↓vE, ↓vF, ↓vG, ↓vH, ↓vI, ↓vJ, ↓vK, ↓vL, ↓vM, ↓vN, ↓vO, dLt, dLe, dGt, dGe, vP, vQ, vR, vS, vT, dI2, vU, vV, dEq, dNe, vW, vX, vY, vZ, ja, jb, jc, jd, je, jf, Option.some.injEq, jg, jh, ji, jk, jl, dIs, jm, jn, shs, kiC, jo, jp, obD, id_eq, List.getElem?_cons_zero, List.getElem?_cons_succ, List.set_cons_zero, List.set_cons_succ, List.length_cons, List.length_nil, D.bl.injEq, exists_eq_left', decide_eq_true_eq, decide_eq_false_iff_not, Bool.not_eq_true', Bool.not_eq_false', Nat.zero_add, Nat.reduceAdd, true_and, and_true, forall_const, reduceCtorEq, not_true_eq_false, not_false_eq_true, false_implies, true_implies, implies_true, jq, Nat.reduceLeDiff, Int.reduceLE, Int.reduceLT, Int.reduceNeg, Int.reducePow, Int.reduceAdd, Int.reduceSub, Int.reduceMul]
    exact step d hd Kt fun v hv => ht _ ⟨_, rfl, v, rfl, hv⟩
  · intro ys hy
    obtain ⟨y1, y2⟩ := hy.all
    obtain ⟨cs, rfl, c2, c3⟩ := ints_of y2
    rw [List.nil_append]
    exact q cs (by rw [c3, y1]) c2
theorem nin1 : ("facts" : Str) ∉ ([] : List Str) := by simp
theorem nin2 : ("step" : Str) ∉ (["facts"] : List Str) := by decide +kernel
theorem nin3 : ("gain" : Str) ∉ (["facts", "step"] : List Str) := by decide +kernel
theorem nin4 : ("leave" : Str) ∉ (["facts", "step", "gain"] : List Str) := by decide +kernel
def w_Machine_init : WS := (wSeq (wFldN 0 "Machine" "facts" (wUn jb (wPk 1)))
 (wSeq (wFldN 0 "Machine" "step" (wFz (wLc [5] (wItL (wVar 2)) (wSt 5) wYes (wUn dDict (wPk 5)))))
 (wSeq (wFldN 0 "Machine" "gain" (wFz (wLc [5] (wItL (wVar 3)) (wSt 5) wYes (wUn dDict (wPk 5)))))
 (wFldN 0 "Machine" "leave" (wUn jb (wPk 4))))))
theorem p_Machine_init : ∀ as Qd, wf_Machine_init as Qd → w_Machine_init (startD ["self", "facts", "step", "gain", "leave", "row"] as) { nx := fun ρ => ∃ as2, back as ρ as2 ∧ Qd .non as2, rt := fun d ρ => ∃ as2, back as ρ as2 ∧ Qd d as2 } := fun as Qd h => by
  unfold wf_Machine_init at h
  split at h
  · rename_i x n fs st gn lv
    obtain ⟨rfl, l1, l2, l3, l4, ⟨r1, rfl⟩, ⟨r2, rfl⟩, q⟩ := h
    show w_Machine_init [.od x (.ins "Machine" [] []), .sh (.lst fs), .sh (.lst (r1.map rowD)), .sh (.lst (r2.map rowD)), .sh (.lst lv), .no] _
    simp only [w_Machine_init, ↓za, ↓zb, ↓zc, ↓zd, ↓ze, ↓zf, ↓zg, ↓zh, ↓zi, ↓zj, ↓zk, ↓zl, ↓zm, ↓zn, ↓zo, ↓zp, ↓zq, ↓zr, ↓zt, ↓zu, ↓zv, ↓zw, ↓zx, zy, zz, ↓z3, ↓z7, ↓z8, ↓z9, ↓zA, ↓zB, ↓zC, ↓zD, ↓zE, ↓zF, ↓zG, ↓zH, ↓zI, ↓zJ, ↓zK, ↓zL, ↓zM, ↓zN, ↓zO, ↓zP, ↓zQ, ↓zR, ↓zS, ↓zT, ↓zU, ↓zV, ↓zW, ↓zX, ↓zY, ↓zZ, ↓xf, ↓xg, ↓xh, ↓xi, ↓xj, ↓xk, ↓xl, ↓xm, ↓xq, xt, ↓xu, ↓xw, ↓xy, ↓xz, ↓x5, ↓x6, ↓x7, ↓x8, ↓x9, ↓xB, ↓xD, ↓xE, ↓xF, ↓xG, ↓xH, ↓xI, ↓xJ, ↓xK, ↓xL, ↓xM, ↓xN, ↓xO, ↓xP, ↓xQ, ↓xR, ↓xS, ↓xT, ↓xU, ↓xV, ↓xW, ↓xX, ↓xY, ↓xZ, ↓qb, ↓qc, ↓qd, ↓qf, ↓qg, ↓qh, ↓qi, ↓qj, ↓qk, ↓ql, ↓qm, ↓qo, ↓qp, ↓qr, ↓qt, ↓qu, ↓qv, ↓qw, ↓qz, ↓qA, ↓qB, ↓qC, ↓qE, ↓qF, ↓qG, ↓qH, ↓qI, ↓qJ, ↓qL, ↓qM, ↓qN, ↓qO, ↓qP, ↓qQ, ↓qR, ↓qS, ↓qT, ↓qU, ↓qV, ↓qW, ↓qX, ↓qY, ↓qZ, ↓vf, ↓vg, ↓vh, ↓vi, ↓vj, ↓vk, ↓vl, ↓vm, ↓vo, ↓vp, ↓vq, ↓vt, ↓vu, ↓vw, vz, v6, ↓v7, ↓v8, ↓v9, ↓vA, ↓vB, ↓vC, ↓vD, ↓vE, ↓vF, ↓vG, ↓vH, ↓vI, ↓vJ, ↓vK, ↓vL, ↓vM, ↓vN, ↓vO, dLt, dLe, dGt, dGe, vP, vQ, vR, vS, vT, dI2, vU, vV, dEq, dNe, vW, vX, vY, vZ, ja, jb, jc, jd, je, jf, Option.some.injEq, jg, jh, ji, jk, jl, dIs, jm, jn, shs, kiC, jo, jp, obD, id_eq, List.getElem?_cons_zero, List.getElem?_cons_succ, List.set_cons_zero, List.set_cons_succ, List.length_cons, List.length_nil, D.bl.injEq, exists_eq_left', decide_eq_true_eq, decide_eq_false_iff_not, Bool.not_eq_true', Bool.not_eq_false', Nat.zero_add, Nat.reduceAdd, true_and, and_true, forall_const, reduceCtorEq, not_true_eq_false, not_false_eq_true, false_implies, true_implies, implies_true, jq, Nat.reduceLeDiff, Int.reduceLE, Int.reduceLT, Int.reduceNeg, Int.reducePow, Int.reduceAdd, Int.reduceSub, Int.reduceMul, jb, List.nil_append]
    refine ⟨⟨nin1, by decide⟩, by omega, rfl, ?_⟩
    refine copy_lc (ρ := [_, _, _, _, _, .no]) (fun r Kt ht => ?_) ?_
    · simp only [↓za, ↓zb, ↓zc, ↓zd, ↓ze, ↓zf, ↓zg, ↓zh, ↓zi, ↓zj, ↓zk, ↓zl, ↓zm, ↓zn, ↓zo, ↓zp, ↓zq, ↓zr, ↓zt, ↓zu, ↓zv, ↓zw, ↓zx, zy, zz, ↓z3, ↓z7, ↓z8, ↓z9, ↓zA, ↓zB, ↓zC, ↓zD, ↓zE, ↓zF, ↓zG, ↓zH, ↓zI, ↓zJ, ↓zK, ↓zL, ↓zM, ↓zN, ↓zO, ↓zP, ↓zQ, ↓zR, ↓zS, ↓zT, ↓zU, ↓zV, ↓zW, ↓zX, ↓zY, ↓zZ, ↓xf, ↓xg, ↓xh, ↓xi, ↓xj, ↓xk, ↓xl, ↓xm, ↓xq, xt, ↓xu, ↓xw, ↓xy, ↓xz, ↓x5, ↓x6, ↓x7, ↓x8, ↓x9, ↓xB, ↓xD, ↓xE, ↓xF, ↓xG, ↓xH, ↓xI, ↓xJ, ↓xK, ↓xL, ↓xM, ↓xN, ↓xO, ↓xP, ↓xQ, ↓xR, ↓xS, ↓xT, ↓xU, ↓xV, ↓xW, ↓xX, ↓xY, ↓xZ, ↓qb, ↓qc, ↓qd, ↓qf, ↓qg, ↓qh, ↓qi, ↓qj, ↓qk, ↓ql, ↓qm, ↓qo, ↓qp, ↓qr, ↓qt, ↓qu, ↓qv, ↓qw, ↓qz, ↓qA, ↓qB, ↓qC, ↓qE, ↓qF, ↓qG, ↓qH, ↓qI, ↓qJ, ↓qL, ↓qM, ↓qN, ↓qO, ↓qP, ↓qQ, ↓qR, ↓qS, ↓qT, ↓qU, ↓qV, ↓qW, ↓qX, ↓qY, ↓qZ, ↓vf, ↓vg, ↓vh, ↓vi, ↓vj, ↓vk, ↓vl, ↓vm, ↓vo, ↓vp, ↓vq, ↓vt, ↓vu, ↓vw, vz, v6, ↓v7, ↓v8, ↓v9, ↓vA, ↓vB, ↓vC, ↓vD, ↓vE, ↓vF, ↓vG, ↓vH, ↓vI, ↓vJ, ↓vK, ↓vL, ↓vM, ↓vN, ↓vO, dLt, dLe, dGt, dGe, vP, vQ, vR, vS, vT, dI2, vU, vV, dEq, dNe, vW, vX, vY, vZ, ja, jb, jc, jd, je, jf, Option.some.injEq, jg, jh, ji, jk, jl, dIs, jm, jn, shs, kiC, jo, jp, obD, id_eq, List.getElem?_cons_zero, List.getElem?_cons_succ, List.set_cons_zero, List.set_cons_succ, List.length_cons, List.length_nil, D.bl.injEq, exists_eq_left', decide_eq_true_eq, decide_eq_false_iff_not, Bool.not_eq_true', Bool.not_eq_false', Nat.zero_add, Nat.reduceAdd, true_and, and_true, forall_const, reduceCtorEq, not_true_eq_false, not_false_eq_true, false_implies, true_implies, implies_true, jq, Nat.reduceLeDiff, Int.reduceLE, Int.reduceLT, Int.reduceNeg, Int.reducePow, Int.reduceAdd, Int.reduceSub, Int.reduceMul, wipeD, List.reverse_cons, List.reverse_nil, List.nil_append, noOwnB, List.all_cons, List.all_nil, Bool.and_true, Bool.true_and, dDict]; exact ht
    simp only [↓za, ↓zb, ↓zc, ↓zd, ↓ze, ↓zf, ↓zg, ↓zh, ↓zi, ↓zj, ↓zk, ↓zl, ↓zm, ↓zn, ↓zo, ↓zp, ↓zq, ↓zr, ↓zt, ↓zu, ↓zv, ↓zw, ↓zx, zy, zz, ↓z3, ↓z7, ↓z8, ↓z9, ↓zA, ↓zB, ↓zC, ↓zD, ↓zE, ↓zF, ↓zG, ↓zH, ↓zI, ↓zJ, ↓zK, ↓zL, ↓zM, ↓zN, ↓zO, ↓zP, ↓zQ, ↓zR, ↓zS, ↓zT, ↓zU, ↓zV, ↓zW, ↓zX, ↓zY, ↓zZ, ↓xf, ↓xg, ↓xh, ↓xi, ↓xj, ↓xk, ↓xl, ↓xm, ↓xq, xt, ↓xu, ↓xw, ↓xy, ↓xz, ↓x5, ↓x6, ↓x7, ↓x8, ↓x9, ↓xB, ↓xD, ↓xE, ↓xF, ↓xG, ↓xH, ↓xI, ↓xJ, ↓xK, ↓xL, ↓xM, ↓xN, ↓xO, ↓xP, ↓xQ, ↓xR, ↓xS, ↓xT, ↓xU, ↓xV, ↓xW, ↓xX, ↓xY, ↓xZ, ↓qb, ↓qc, ↓qd, ↓qf, ↓qg, ↓qh, ↓qi, ↓qj, ↓qk, ↓ql, ↓qm, ↓qo, ↓qp, ↓qr, ↓qt, ↓qu, ↓qv, ↓qw, ↓qz, ↓qA, ↓qB, ↓qC, ↓qE, ↓qF, ↓qG, ↓qH, ↓qI, ↓qJ, ↓qL, ↓qM, ↓qN, ↓qO, ↓qP, ↓qQ, ↓qR, ↓qS, ↓qT, ↓qU, ↓qV, ↓qW, ↓qX, ↓qY, ↓qZ, ↓vf, ↓vg, ↓vh, ↓vi, ↓vj, ↓vk, ↓vl, ↓vm, ↓vo, ↓vp, ↓vq, ↓vt, ↓vu, ↓vw, vz, v6, ↓v7, ↓v8, ↓v9, ↓vA, ↓vB, ↓vC, ↓vD, ↓vE, ↓vF, ↓vG, ↓vH, ↓vI, ↓vJ, ↓vK, ↓vL, ↓vM, ↓vN, ↓vO, dLt, dLe, dGt, dGe, vP, vQ, vR, vS, vT, dI2, vU, vV, dEq, dNe, vW, vX, vY, vZ, ja, jb, jc, jd, je, jf, Option.some.injEq, jg, jh, ji, jk, jl, dIs, jm, jn, shs, kiC, jo, jp, obD, id_eq, List.getElem?_cons_zero, List.getElem?_cons_succ, List.set_cons_zero, List.set_cons_succ, List.length_cons, List.length_nil, D.bl.injEq, exists_eq_left', decide_eq_true_eq, decide_eq_false_iff_not, Bool.not_eq_true', Bool.not_eq_false', Nat.zero_add, Nat.reduceAdd, true_and, and_true, forall_const, reduceCtorEq, not_true_eq_false, not_false_eq_true, false_implies, true_implies, implies_true, jq, Nat.reduceLeDiff, Int.reduceLE, Int.reduceLT, Int.reduceNeg, Int.reducePow, Int.reduceAdd, Int.reduceSub, Int.reduceMul, wipeD, List.reverse_cons, List.reverse_nil, List.nil_append, noOwnB, List.all_cons, List.all_nil, Bool.and_true, Bool.true_and, List.cons_append]
    refine ⟨⟨nin2, by decide⟩, by omega, ?_⟩
    refine copy_lc (ρ := [_, _, _, _, _, .no]) (fun r Kt ht => ?_) ?_
    · simp only [↓za, ↓zb, ↓zc, ↓zd, ↓ze, ↓zf, ↓zg, ↓zh, ↓zi, ↓zj, ↓zk, ↓zl, ↓zm, ↓zn, ↓zo, ↓zp, ↓zq, ↓zr, ↓zt, ↓zu, ↓zv, ↓zw, ↓zx, zy, zz, ↓z3, ↓z7, ↓z8, ↓z9, ↓zA, ↓zB, ↓zC, ↓zD, ↓zE, ↓zF, ↓zG, ↓zH, ↓zI, ↓zJ, ↓zK, ↓zL, ↓zM, ↓zN, ↓zO, ↓zP, ↓zQ, ↓zR, ↓zS, ↓zT, ↓zU, ↓zV, ↓zW, ↓zX, ↓zY, ↓zZ, ↓xf, ↓xg, ↓xh, ↓xi, ↓xj, ↓xk, ↓xl, ↓xm, ↓xq, xt, ↓xu, ↓xw, ↓xy, ↓xz, ↓x5, ↓x6, ↓x7, ↓x8, ↓x9, ↓xB, ↓xD, ↓xE, ↓xF, ↓xG, ↓xH, ↓xI, ↓xJ, ↓xK, ↓xL, ↓xM, ↓xN, ↓xO, ↓xP, ↓xQ, ↓xR, ↓xS, ↓xT, ↓xU, ↓xV, ↓xW, ↓xX, ↓xY, ↓xZ, ↓qb, ↓qc, ↓qd, ↓qf, ↓qg, ↓qh, ↓qi, ↓qj, ↓qk, ↓ql, ↓qm, ↓qo, ↓qp, ↓qr, ↓qt, ↓qu, ↓qv, ↓qw, ↓qz, ↓qA, ↓qB, ↓qC, ↓qE, ↓qF, ↓qG, ↓qH, ↓qI, ↓qJ, ↓qL, ↓qM, ↓qN, ↓qO, ↓qP, ↓qQ, ↓qR, ↓qS, ↓qT, ↓qU, ↓qV, ↓qW, ↓qX, ↓qY, ↓qZ, ↓vf, ↓vg, ↓vh, ↓vi, ↓vj, ↓vk, ↓vl, ↓vm, ↓vo, ↓vp, ↓vq, ↓vt, ↓vu, ↓vw, vz, v6, ↓v7, ↓v8, ↓v9, ↓vA, ↓vB, ↓vC, ↓vD, ↓vE, ↓vF, ↓vG, ↓vH, ↓vI, ↓vJ, ↓vK, ↓vL, ↓vM, ↓vN, ↓vO, dLt, dLe, dGt, dGe, vP, vQ, vR, vS, vT, dI2, vU, vV, dEq, dNe, vW, vX, vY, vZ, ja, jb, jc, jd, je, jf, Option.some.injEq, jg, jh, ji, jk, jl, dIs, jm, jn, shs, kiC, jo, jp, obD, id_eq, List.getElem?_cons_zero, List.getElem?_cons_succ, List.set_cons_zero, List.set_cons_succ, List.length_cons, List.length_nil, D.bl.injEq, exists_eq_left', decide_eq_true_eq, decide_eq_false_iff_not, Bool.not_eq_true', Bool.not_eq_false', Nat.zero_add, Nat.reduceAdd, true_and, and_true, forall_const, reduceCtorEq, not_true_eq_false, not_false_eq_true, false_implies, true_implies, implies_true, jq, Nat.reduceLeDiff, Int.reduceLE, Int.reduceLT, Int.reduceNeg, Int.reducePow, Int.reduceAdd, Int.reduceSub, Int.reduceMul, wipeD, List.reverse_cons, List.reverse_nil, List.nil_append, noOwnB, List.all_cons, List.all_nil, Bool.and_true, Bool.true_and, dDict]; exact ht
    simp only [↓za, ↓zb, ↓zc, ↓zd, ↓ze, ↓zf, ↓zg, ↓zh, ↓zi, ↓zj, ↓zk, ↓zl, ↓zm, ↓zn, ↓zo, ↓zp, ↓zq, ↓zr, ↓zt, ↓zu, ↓zv, ↓zw, ↓zx, zy, zz, ↓z3, ↓z7, ↓z8, ↓z9, ↓zA, ↓zB, ↓zC, ↓zD, ↓zE, ↓zF, ↓zG, ↓zH, ↓zI, ↓zJ, ↓zK, ↓zL, ↓zM, ↓zN, ↓zO, ↓zP, ↓zQ, ↓zR, ↓zS, ↓zT, ↓zU, ↓zV, ↓zW, ↓zX, ↓zY, ↓zZ, ↓xf, ↓xg, ↓xh, ↓xi, ↓xj, ↓xk, ↓xl, ↓xm, ↓xq, xt, ↓xu, ↓xw, ↓xy, ↓xz, ↓x5, ↓x6, ↓x7, ↓x8, ↓x9, ↓xB, ↓xD, ↓xE, ↓xF, ↓xG, ↓xH, ↓xI, ↓xJ, ↓xK, ↓xL, ↓xM, ↓xN, ↓xO, ↓xP, ↓xQ, ↓xR, ↓xS, ↓xT, ↓xU, ↓xV, ↓xW, ↓xX, ↓xY, ↓xZ, ↓qb, ↓qc, ↓qd, ↓qf, ↓qg, ↓qh, ↓qi, ↓qj, ↓qk, ↓ql, ↓qm, ↓qo, ↓qp, ↓qr, ↓qt, ↓qu, ↓qv, ↓qw, ↓qz, ↓qA, ↓qB, ↓qC, ↓qE, ↓qF, ↓qG, ↓qH, ↓qI, ↓qJ, ↓qL, ↓qM, ↓qN, ↓qO, ↓qP, ↓qQ, ↓qR, ↓qS, ↓qT, ↓qU, ↓qV, ↓qW, ↓qX, ↓qY, ↓qZ, ↓vf, ↓vg, ↓vh, ↓vi, ↓vj, ↓vk, ↓vl, ↓vm, ↓vo, ↓vp, ↓vq, ↓vt, ↓vu, ↓vw, vz, v6, ↓v7, ↓v8, ↓v9, ↓vA, ↓vB, ↓vC, ↓vD, ↓vE, ↓vF, ↓vG, ↓vH, ↓vI, ↓vJ, ↓vK, ↓vL, ↓vM, ↓vN, ↓vO, dLt, dLe, dGt, dGe, vP, vQ, vR, vS, vT, dI2, vU, vV, dEq, dNe, vW, vX, vY, vZ, ja, jb, jc, jd, je, jf, Option.some.injEq, jg, jh, ji, jk, jl, dIs, jm, jn, shs, kiC, jo, jp, obD, id_eq, List.getElem?_cons_zero, List.getElem?_cons_succ, List.set_cons_zero, List.set_cons_succ, List.length_cons, List.length_nil, D.bl.injEq, exists_eq_left', decide_eq_true_eq, decide_eq_false_iff_not, Bool.not_eq_true', Bool.not_eq_false', Nat.zero_add, Nat.reduceAdd, true_and, and_true, forall_const, reduceCtorEq, not_true_eq_false, not_false_eq_true, false_implies, true_implies, implies_true, jq, Nat.reduceLeDiff, Int.reduceLE, Int.reduceLT, Int.reduceNeg, Int.reducePow, Int.reduceAdd, Int.reduceSub, Int.reduceMul, wipeD, List.reverse_cons, List.reverse_nil, List.nil_append, noOwnB, List.all_cons, List.all_nil, Bool.and_true, Bool.true_and, List.cons_append, List.nil_append]
    refine ⟨⟨nin3, by decide⟩, ⟨nin4, by decide⟩, ?_⟩
    refine ⟨_, ?_, q⟩
    exact ⟨⟨rfl, _, rfl⟩, rfl, rfl, rfl, rfl, rfl⟩
  · exact h.elim
def wf_Carry_init : WFo
  | [.od x (.ins n [] []), .sh (.lst fs), .sh (.lst st)], Q => n = "Carry" ∧ fs.length ≤ 1000 ∧ st.length ≤ 1000 ∧
    Q .non [.od x (.ins n ["to", "cost"] [.sh (.lst fs), .sh (.lst st)]), .sh (.lst fs), .sh (.lst st)]
  | _, _ => False
theorem len_Carry_init : ∀ as Qd, wf_Carry_init as Qd → as.length = 3 := fun as Qd h => by
  unfold wf_Carry_init at h
  split at h
  · rfl
  · exact h.elim
theorem nin5 : ("cost" : Str) ∉ (["to"] : List Str) := by decide +kernel
def w_Carry_init : WS := (wSeq (wFldN 0 "Carry" "to" (wUn jb (wPk 1)))
 (wFldN 0 "Carry" "cost" (wUn jb (wPk 2))))
theorem p_Carry_init : ∀ as Qd, wf_Carry_init as Qd → w_Carry_init (startD ["self", "to", "cost"] as) { nx := fun ρ => ∃ as2, back as ρ as2 ∧ Qd .non as2, rt := fun d ρ => ∃ as2, back as ρ as2 ∧ Qd d as2 } := fun as Qd h => by
  unfold wf_Carry_init at h
  split at h
  · rename_i x n fs st
    obtain ⟨rfl, l1, l2, q⟩ := h
    show w_Carry_init [.od x (.ins "Carry" [] []), .sh (.lst fs), .sh (.lst st)] _
    simp only [w_Carry_init, ↓za, ↓zb, ↓zc, ↓zd, ↓ze, ↓zf, ↓zg, ↓zh, ↓zi, ↓zj, ↓zk, ↓zl, ↓zm, ↓zn, ↓zo, ↓zp, ↓zq, ↓zr, ↓zt, ↓zu, ↓zv, ↓zw, ↓zx, zy, zz, ↓z3, ↓z7, ↓z8, ↓z9, ↓zA, ↓zB, ↓zC, ↓zD, ↓zE, ↓zF, ↓zG, ↓zH, ↓zI, ↓zJ, ↓zK, ↓zL, ↓zM, ↓zN, ↓zO, ↓zP, ↓zQ, ↓zR, ↓zS, ↓zT, ↓zU, ↓zV, ↓zW, ↓zX, ↓zY, ↓zZ, ↓xf, ↓xg, ↓xh, ↓xi, ↓xj, ↓xk, ↓xl, ↓xm, ↓xq, xt, ↓xu, ↓xw, ↓xy, ↓xz, ↓x5, ↓x6, ↓x7, ↓x8, ↓x9, ↓xB, ↓xD, ↓xE, ↓xF, ↓xG, ↓xH, ↓xI, ↓xJ, ↓xK, ↓xL, ↓xM, ↓xN, ↓xO, ↓xP, ↓xQ, ↓xR, ↓xS, ↓xT, ↓xU, ↓xV, ↓xW, ↓xX, ↓xY, ↓xZ, ↓qb, ↓qc, ↓qd, ↓qf, ↓qg, ↓qh, ↓qi, ↓qj, ↓qk, ↓ql, ↓qm, ↓qo, ↓qp, ↓qr, ↓qt, ↓qu, ↓qv, ↓qw, ↓qz, ↓qA, ↓qB, ↓qC, ↓qE, ↓qF, ↓qG, ↓qH, ↓qI, ↓qJ, ↓qL, ↓qM, ↓qN, ↓qO, ↓qP, ↓qQ, ↓qR, ↓qS, ↓qT, ↓qU, ↓qV, ↓qW, ↓qX, ↓qY, ↓qZ, ↓vf, ↓vg, ↓vh, ↓vi, ↓vj, ↓vk, ↓vl, ↓vm, ↓vo, ↓vp, ↓vq, ↓vt, ↓vu, ↓vw, vz, v6, ↓v7, ↓v8, ↓v9, ↓vA, ↓vB, ↓vC, ↓vD, ↓vE, ↓vF, ↓vG, ↓vH, ↓vI, ↓vJ, ↓vK, ↓vL, ↓vM, ↓vN, ↓vO, dLt, dLe, dGt, dGe, vP, vQ, vR, vS, vT, dI2, vU, vV, dEq, dNe, vW, vX, vY, vZ, ja, jb, jc, jd, je, jf, Option.some.injEq, jg, jh, ji, jk, jl, dIs, jm, jn, shs, kiC, jo, jp, obD, id_eq, List.getElem?_cons_zero, List.getElem?_cons_succ, List.set_cons_zero, List.set_cons_succ, List.length_cons, List.length_nil, D.bl.injEq, exists_eq_left', decide_eq_true_eq, decide_eq_false_iff_not, Bool.not_eq_true', Bool.not_eq_false', Nat.zero_add, Nat.reduceAdd, true_and, and_true, forall_const, reduceCtorEq, not_true_eq_false, not_false_eq_true, false_implies, true_implies, implies_true, jq, Nat.reduceLeDiff, Int.reduceLE, Int.reduceLT, Int.reduceNeg, Int.reducePow, Int.reduceAdd, Int.reduceSub, Int.reduceMul, List.nil_append, List.cons_append]
    refine ⟨⟨by simp, by decide⟩, ⟨nin5, by decide⟩, ?_⟩
    refine ⟨_, ?_, q⟩
    exact ⟨⟨rfl, _, rfl⟩, rfl, rfl, rfl⟩
  · exact h.elim
def wf__law_cell : WFn
  | [.sh (.scr ds), .sh (.int k)], Q => (∃ ns : List Int, ds = ns.map D.int) ∧ 0 ≤ k ∧ ∀ z, Q (.int z)
  | _, _ => False
theorem len__law_cell : ∀ as Qd, wf__law_cell as Qd → as.length = 2 := fun as Qd h => by
  unfold wf__law_cell at h
  split at h
  · rfl
  · exact h.elim
def w__law_cell : WS := (wSeq (wIf (wTst (wOp dLt (wPk 1) (wUn vW (wPk 0))))
 (wRet (wOp dIx (wPk 0) (wPk 1)))
 wNext)
 (wRet (wC (.int 0))))
theorem p__law_cell : ∀ as Qd, wf__law_cell as Qd → w__law_cell (startD ["_law_script", "_law_k"] as) { nx := fun _ => Qd .non, rt := fun d _ => Qd d } := fun as Qd h => by
  unfold wf__law_cell at h
  split at h
  · obtain ⟨⟨ns, rfl⟩, hk, q⟩ := h
    show w__law_cell [.sh _, .sh _] _
    simp only [w__law_cell, ↓za, ↓zb, ↓zc, ↓zd, ↓ze, ↓zf, ↓zg, ↓zh, ↓zi, ↓zj, ↓zk, ↓zl, ↓zm, ↓zn, ↓zo, ↓zp, ↓zq, ↓zr, ↓zt, ↓zu, ↓zv, ↓zw, ↓zx, zy, zz, ↓z3, ↓z7, ↓z8, ↓z9, ↓zA, ↓zB, ↓zC, ↓zD, ↓zE, ↓zF, ↓zG, ↓zH, ↓zI, ↓zJ, ↓zK, ↓zL, ↓zM, ↓zN, ↓zO, ↓zP, ↓zQ, ↓zR, ↓zS, ↓zT, ↓zU, ↓zV, ↓zW, ↓zX, ↓zY, ↓zZ, ↓xf, ↓xg, ↓xh, ↓xi, ↓xj, ↓xk, ↓xl, ↓xm, ↓xq, xt, ↓xu, ↓xw, ↓xy, ↓xz, ↓x5, ↓x6, ↓x7, ↓x8, ↓x9, ↓xB, ↓xD, ↓xE, ↓xF, ↓xG, ↓xH, ↓xI, ↓xJ, ↓xK, ↓xL, ↓xM, ↓xN, ↓xO, ↓xP, ↓xQ, ↓xR, ↓xS, ↓xT, ↓xU, ↓xV, ↓xW, ↓xX, ↓xY, ↓xZ, ↓qb, ↓qc, ↓qd, ↓qf, ↓qg, ↓qh, ↓qi, ↓qj, ↓qk, ↓ql, ↓qm, ↓qo, ↓qp, ↓qr, ↓qt, ↓qu, ↓qv, ↓qw, ↓qz, ↓qA, ↓qB, ↓qC, ↓qE, ↓qF, ↓qG, ↓qH, ↓qI, ↓qJ, ↓qL, ↓qM, ↓qN, ↓qO, ↓qP, ↓qQ, ↓qR, ↓qS, ↓qT, ↓qU, ↓qV, ↓qW, ↓qX, ↓qY, ↓qZ, ↓vf, ↓vg, ↓vh, ↓vi, ↓vj, ↓vk, ↓vl, ↓vm, ↓vo, ↓vp, ↓vq, ↓vt, ↓vu, ↓vw, vz, v6, ↓v7, ↓v8, ↓v9, ↓vA, ↓vB, ↓vC, ↓vD, ↓vE, ↓vF, ↓vG, ↓vH, ↓vI, ↓vJ, ↓vK, ↓vL, ↓vM, ↓vN, ↓vO, dLt, dLe, dGt, dGe, vP, vQ, vR, vS, vT, dI2, vU, vV, dEq, dNe, vW, vX, vY, vZ, ja, jb, jc, jd, je, jf, Option.some.injEq, jg, jh, ji, jk, jl, dIs, jm, jn, shs, kiC, jo, jp, obD, id_eq, List.getElem?_cons_zero, List.getElem?_cons_succ, List.set_cons_zero, List.set_cons_succ, List.length_cons, List.length_nil, D.bl.injEq, exists_eq_left', decide_eq_true_eq, decide_eq_false_iff_not, Bool.not_eq_true', Bool.not_eq_false', Nat.zero_add, Nat.reduceAdd, true_and, and_true, forall_const, reduceCtorEq, not_true_eq_false, not_false_eq_true, false_implies, true_implies, implies_true, jq, Nat.reduceLeDiff, Int.reduceLE, Int.reduceLT, Int.reduceNeg, Int.reducePow, Int.reduceAdd, Int.reduceSub, Int.reduceMul]
    refine ⟨fun hc => ?_, fun _ => q 0⟩
    rw [List.length_map] at hc
    obtain ⟨n, _, _, e⟩ := atI_map (f := D.int) hk hc
    exact ⟨_, e, q n⟩
  · exact h.elim
def wf__law_row : WFn
  | [.sh (.int z), .sh (.int k), .sh (.int m)], Q => 0 ≤ m ∧ m ≤ 1000000 ∧ ∀ ns : List Int, (ns.length : Int) ≤ m → Q (.lst (ns.map D.int))
  | _, _ => False
theorem len__law_row : ∀ as Qd, wf__law_row as Qd → as.length = 3 := fun as Qd h => by
  unfold wf__law_row at h
  split at h
  · rfl
  · exact h.elim
def w__law_row : WS := (wSeq (wAsgO (wfLst waNil) 3)
 (wSeq (wIf (wTst (wOp dLt (wPk 0) (wC (.int 0))))
 (wAsg (wOp vP (wC (.int 1)) (wOp vQ (wC (.int 2)) (wPk 0))) (wSt 0))
 wNext)
 (wSeq (wIf (wTst (wOp dGe (wPk 0) (wOp vT (wC (.int 10)) (wC (.int 18)))))
 (wSeq (wFor (wRg1 (waCons (wC (.int 60)) waNil)) (wSt 4)
 (wIf (wAnd (wTst (wOp dGt (wPk 0) (wC (.int 0)))) (wTst (wOp dLt (wUn vW (wPk 3)) (wPk 2))))
 (wSeq (wApp 3 (wOp vR (wUn vX (wPk 0)) (wC (.int 1000))))
 (wAsg (wOp vS (wPk 0) (wC (.int 1000))) (wSt 0)))
 wNext))
 (wRet (wVar 3)))
 wNext)
 (wSeq (wAsg (wOp vR (wUn vX (wOp vV (wOp vV (wOp vQ (wPk 0) (wC (.int 48271))) (wOp vQ (wPk 1) (wC (.int 69621)))) (wC (.int 11)))) (wC (.int 2147483647))) (wSt 5))
 (wSeq (wFor (wRg1 (waCons (wVar 2) waNil)) (wSt 4)
 (wSeq (wAsg (wOp vR (wUn vX (wOp vV (wOp vV (wOp vQ (wPk 5) (wC (.int 16807))) (wOp vQ (wC (.int 7)) (wPk 4))) (wC (.int 1)))) (wC (.int 2147483647))) (wSt 5))
 (wApp 3 (wOp vR (wUn vX (wOp vS (wPk 5) (wC (.int 997)))) (wC (.int 1000))))))
 (wRet (wVar 3)))))))
theorem p__law_row : ∀ as Qd, wf__law_row as Qd → w__law_row (startD ["_law_cell_here", "_law_k", "_law_many", "_law_row_here", "_law_turn", "_law_seed"] as) { nx := fun _ => Qd .non, rt := fun d _ => Qd d } := fun as Qd h => by
  unfold wf__law_row at h
  split at h
  · rename_i z k m
    obtain ⟨hm0, hm1, q⟩ := h
    show w__law_row [.sh (.int z), .sh (.int k), .sh (.int m), .no, .no, .no] _
    simp only [w__law_row, ↓za, ↓zb, ↓zc, ↓zd, ↓ze, ↓zf, ↓zg, ↓zh, ↓zi, ↓zj, ↓zk, ↓zl, ↓zm, ↓zn, ↓zo, ↓zp, ↓zq, ↓zr, ↓zt, ↓zu, ↓zv, ↓zw, ↓zx, zy, zz, ↓z3, ↓z7, ↓z8, ↓z9, ↓zA, ↓zB, ↓zC, ↓zD, ↓zE, ↓zF, ↓zG, ↓zH, ↓zI, ↓zJ, ↓zK, ↓zL, ↓zM, ↓zN, ↓zO, ↓zP, ↓zQ, ↓zR, ↓zS, ↓zT, ↓zU, ↓zV, ↓zW, ↓zX, ↓zY, ↓zZ, ↓xf, ↓xg, ↓xh, ↓xi, ↓xj, ↓xk, ↓xl, ↓xm, ↓xq, xt, ↓xu, ↓xw, ↓xy, ↓xz, ↓x5, ↓x6, ↓x7, ↓x8, ↓x9, ↓xB, ↓xD, ↓xE, ↓xF, ↓xG, ↓xH, ↓xI, ↓xJ, ↓xK, ↓xL, ↓xM, ↓xN, ↓xO, ↓xP, ↓xQ, ↓xR, ↓xS, ↓xT, ↓xU, ↓xV, ↓xW, ↓xX, ↓xY, ↓xZ, ↓qb, ↓qc, ↓qd, ↓qf, ↓qg, ↓qh, ↓qi, ↓qj, ↓qk, ↓ql, ↓qm, ↓qo, ↓qp, ↓qr, ↓qt, ↓qu, ↓qv, ↓qw, ↓qz, ↓qA, ↓qB, ↓qC, ↓qE, ↓qF, ↓qG, ↓qH, ↓qI, ↓qJ, ↓qL, ↓qM, ↓qN, ↓qO, ↓qP, ↓qQ, ↓qR, ↓qS, ↓qT, ↓qU, ↓qV, ↓qW, ↓qX, ↓qY, ↓qZ, ↓vf, ↓vg, ↓vh, ↓vi, ↓vj, ↓vk, ↓vl, ↓vm, ↓vo, ↓vp, ↓vq, ↓vt, ↓vu, ↓vw, vz, v6, ↓v7, ↓v8, ↓v9, ↓vA, ↓vB, ↓vC, ↓vD, ↓vE, ↓vF, ↓vG, ↓vH, ↓vI, ↓vJ, ↓vK, ↓vL, ↓vM, ↓vN, ↓vO, dLt, dLe, dGt, dGe, vP, vQ, vR, vS, vT, dI2, vU, vV, dEq, dNe, vW, vX, vY, vZ, ja, jb, jc, jd, je, jf, Option.some.injEq, jg, jh, ji, jk, jl, dIs, jm, jn, shs, kiC, jo, jp, obD, id_eq, List.getElem?_cons_zero, List.getElem?_cons_succ, List.set_cons_zero, List.set_cons_succ, List.length_cons, List.length_nil, D.bl.injEq, exists_eq_left', decide_eq_true_eq, decide_eq_false_iff_not, Bool.not_eq_true', Bool.not_eq_false', Nat.zero_add, Nat.reduceAdd, true_and, and_true, forall_const, reduceCtorEq, not_true_eq_false, not_false_eq_true, false_implies, true_implies, implies_true, jq, Nat.reduceLeDiff, Int.reduceLE, Int.reduceLT, Int.reduceNeg, Int.reducePow, Int.reduceAdd, Int.reduceSub, Int.reduceMul]
    refine ⟨fun _ => ⟨.inl (by decide), ?_⟩, fun _ => ?_⟩
    all_goals
      refine ⟨⟨by decide, by decide, by decide⟩, fun _ => ?_, fun _ => ⟨.inr (by decide), .inr (by decide), by omega, ?_⟩⟩
      · refine wForL_rule (fun _ ρ => ∃ (z : Int) (ns : List Int) (s4 : Sl), ρ = [.sh (.int z), .sh (.int k), .sh (.int m), .ol (ns.map D.int), s4, .no] ∧ (ns.length : Int) ≤ m) ?_ ?_ _ _ ⟨_, [], _, rfl, hm0⟩
        · rintro d r ρ ⟨z, ns, s4, rfl, hl⟩ C hC
          simp only [↓za, ↓zb, ↓zc, ↓zd, ↓ze, ↓zf, ↓zg, ↓zh, ↓zi, ↓zj, ↓zk, ↓zl, ↓zm, ↓zn, ↓zo, ↓zp, ↓zq, ↓zr, ↓zt, ↓zu, ↓zv, ↓zw, ↓zx, zy, zz, ↓z3, ↓z7, ↓z8, ↓z9, ↓zA, ↓zB, ↓zC, ↓zD, ↓zE, ↓zF, ↓zG, ↓zH, ↓zI, ↓zJ, ↓zK, ↓zL, ↓zM, ↓zN, ↓zO, ↓zP, ↓zQ, ↓zR, ↓zS, ↓zT, ↓zU, ↓zV, ↓zW, ↓zX, ↓zY, ↓zZ, ↓xf, ↓xg, ↓xh, ↓xi, ↓xj, ↓xk, ↓xl, ↓xm, ↓xq, xt, ↓xu, ↓xw, ↓xy, ↓xz, ↓x5, ↓x6, ↓x7, ↓x8, ↓x9, ↓xB, ↓xD, ↓xE, ↓xF, ↓xG, ↓xH, ↓xI, ↓xJ, ↓xK, ↓xL, ↓xM, ↓xN, ↓xO, ↓xP, ↓xQ, ↓xR, ↓xS, ↓xT, ↓xU, ↓xV, ↓xW, ↓xX, ↓xY, ↓xZ, ↓qb, ↓qc, ↓qd, ↓qf, ↓qg, ↓qh, ↓qi, ↓qj, ↓qk, ↓ql, ↓qm, ↓qo, ↓qp, ↓qr, ↓qt, ↓qu, ↓qv, ↓qw, ↓qz, ↓qA, ↓qB, ↓qC, ↓qE, ↓qF, ↓qG, ↓qH, ↓qI, ↓qJ, ↓qL, ↓qM, ↓qN, ↓qO, ↓qP, ↓qQ, ↓qR, ↓qS, ↓qT, ↓qU, ↓qV, ↓qW, ↓qX, ↓qY, ↓qZ, ↓vf, ↓vg, ↓vh, ↓vi, ↓vj, ↓vk, ↓vl, ↓vm, ↓vo, ↓vp, ↓vq, ↓vt, ↓vu, ↓vw, vz, v6, ↓v7, ↓v8, ↓v9, ↓vA, ↓vB, ↓vC, ↓vD, ↓vE, ↓vF, ↓vG, ↓vH, ↓vI, ↓vJ, ↓vK, ↓vL, ↓vM, ↓vN, ↓vO, dLt, dLe, dGt, dGe, vP, vQ, vR, vS, vT, dI2, vU, vV, dEq, dNe, vW, vX, vY, vZ, ja, jb, jc, jd, je, jf, Option.some.injEq, jg, jh, ji, jk, jl, dIs, jm, jn, shs, kiC, jo, jp, obD, id_eq, List.getElem?_cons_zero, List.getElem?_cons_succ, List.set_cons_zero, List.set_cons_succ, List.length_cons, List.length_nil, D.bl.injEq, exists_eq_left', decide_eq_true_eq, decide_eq_false_iff_not, Bool.not_eq_true', Bool.not_eq_false', Nat.zero_add, Nat.reduceAdd, true_and, and_true, forall_const, reduceCtorEq, not_true_eq_false, not_false_eq_true, false_implies, true_implies, implies_true, jq, Nat.reduceLeDiff, Int.reduceLE, Int.reduceLT, Int.reduceNeg, Int.reducePow, Int.reduceAdd, Int.reduceSub, Int.reduceMul, List.length_map]
          refine ⟨fun _ => ⟨fun hc => ⟨by omega, ⟨by decide, by decide⟩, ?_⟩, fun _ => ?_⟩, fun _ => ?_⟩
          · exact hC _ ⟨z / 1000, ns ++ [z % 1000], _, by rw [List.map_append]; rfl, by simp; omega⟩
          · exact hC _ ⟨z, ns, _, rfl, hl⟩
          · exact hC _ ⟨z, ns, _, rfl, hl⟩
        · rintro ρ ⟨z, ns, s4, rfl, hl⟩
          simp only [↓za, ↓zb, ↓zc, ↓zd, ↓ze, ↓zf, ↓zg, ↓zh, ↓zi, ↓zj, ↓zk, ↓zl, ↓zm, ↓zn, ↓zo, ↓zp, ↓zq, ↓zr, ↓zt, ↓zu, ↓zv, ↓zw, ↓zx, zy, zz, ↓z3, ↓z7, ↓z8, ↓z9, ↓zA, ↓zB, ↓zC, ↓zD, ↓zE, ↓zF, ↓zG, ↓zH, ↓zI, ↓zJ, ↓zK, ↓zL, ↓zM, ↓zN, ↓zO, ↓zP, ↓zQ, ↓zR, ↓zS, ↓zT, ↓zU, ↓zV, ↓zW, ↓zX, ↓zY, ↓zZ, ↓xf, ↓xg, ↓xh, ↓xi, ↓xj, ↓xk, ↓xl, ↓xm, ↓xq, xt, ↓xu, ↓xw, ↓xy, ↓xz, ↓x5, ↓x6, ↓x7, ↓x8, ↓x9, ↓xB, ↓xD, ↓xE, ↓xF, ↓xG, ↓xH, ↓xI, ↓xJ, ↓xK, ↓xL, ↓xM, ↓xN, ↓xO, ↓xP, ↓xQ, ↓xR, ↓xS, ↓xT, ↓xU, ↓xV, ↓xW, ↓xX, ↓xY, ↓xZ, ↓qb, ↓qc, ↓qd, ↓qf, ↓qg, ↓qh, ↓qi, ↓qj, ↓qk, ↓ql, ↓qm, ↓qo, ↓qp, ↓qr, ↓qt, ↓qu, ↓qv, ↓qw, ↓qz, ↓qA, ↓qB, ↓qC, ↓qE, ↓qF, ↓qG, ↓qH, ↓qI, ↓qJ, ↓qL, ↓qM, ↓qN, ↓qO, ↓qP, ↓qQ, ↓qR, ↓qS, ↓qT, ↓qU, ↓qV, ↓qW, ↓qX, ↓qY, ↓qZ, ↓vf, ↓vg, ↓vh, ↓vi, ↓vj, ↓vk, ↓vl, ↓vm, ↓vo, ↓vp, ↓vq, ↓vt, ↓vu, ↓vw, vz, v6, ↓v7, ↓v8, ↓v9, ↓vA, ↓vB, ↓vC, ↓vD, ↓vE, ↓vF, ↓vG, ↓vH, ↓vI, ↓vJ, ↓vK, ↓vL, ↓vM, ↓vN, ↓vO, dLt, dLe, dGt, dGe, vP, vQ, vR, vS, vT, dI2, vU, vV, dEq, dNe, vW, vX, vY, vZ, ja, jb, jc, jd, je, jf, Option.some.injEq, jg, jh, ji, jk, jl, dIs, jm, jn, shs, kiC, jo, jp, obD, id_eq, List.getElem?_cons_zero, List.getElem?_cons_succ, List.set_cons_zero, List.set_cons_succ, List.length_cons, List.length_nil, D.bl.injEq, exists_eq_left', decide_eq_true_eq, decide_eq_false_iff_not, Bool.not_eq_true', Bool.not_eq_false', Nat.zero_add, Nat.reduceAdd, true_and, and_true, forall_const, reduceCtorEq, not_true_eq_false, not_false_eq_true, false_implies, true_implies, implies_true, jq, Nat.reduceLeDiff, Int.reduceLE, Int.reduceLT, Int.reduceNeg, Int.reducePow, Int.reduceAdd, Int.reduceSub, Int.reduceMul]
          exact q ns hl
      · refine wForL_rule (fun r ρ => ∃ (z : Int) (ns : List Int) (s4 : Sl) (y : Int), ρ = [.sh (.int z), .sh (.int k), .sh (.int m), .ol (ns.map D.int), s4, .sh (.int y)] ∧ ns.length + r.length ≤ m.toNat ∧ ∀ d ∈ r, ∃ i, d = D.int i) ?_ ?_ _ _ ⟨_, [], _, _, rfl, ?_, ?_⟩
        · rintro d r ρ ⟨z, ns, s4, y, rfl, hl, hr⟩ C hC
          obtain ⟨i, rfl⟩ := hr d List.mem_cons_self
          rw [List.length_cons] at hl
          simp only [↓za, ↓zb, ↓zc, ↓zd, ↓ze, ↓zf, ↓zg, ↓zh, ↓zi, ↓zj, ↓zk, ↓zl, ↓zm, ↓zn, ↓zo, ↓zp, ↓zq, ↓zr, ↓zt, ↓zu, ↓zv, ↓zw, ↓zx, zy, zz, ↓z3, ↓z7, ↓z8, ↓z9, ↓zA, ↓zB, ↓zC, ↓zD, ↓zE, ↓zF, ↓zG, ↓zH, ↓zI, ↓zJ, ↓zK, ↓zL, ↓zM, ↓zN, ↓zO, ↓zP, ↓zQ, ↓zR, ↓zS, ↓zT, ↓zU, ↓zV, ↓zW, ↓zX, ↓zY, ↓zZ, ↓xf, ↓xg, ↓xh, ↓xi, ↓xj, ↓xk, ↓xl, ↓xm, ↓xq, xt, ↓xu, ↓xw, ↓xy, ↓xz, ↓x5, ↓x6, ↓x7, ↓x8, ↓x9, ↓xB, ↓xD, ↓xE, ↓xF, ↓xG, ↓xH, ↓xI, ↓xJ, ↓xK, ↓xL, ↓xM, ↓xN, ↓xO, ↓xP, ↓xQ, ↓xR, ↓xS, ↓xT, ↓xU, ↓xV, ↓xW, ↓xX, ↓xY, ↓xZ, ↓qb, ↓qc, ↓qd, ↓qf, ↓qg, ↓qh, ↓qi, ↓qj, ↓qk, ↓ql, ↓qm, ↓qo, ↓qp, ↓qr, ↓qt, ↓qu, ↓qv, ↓qw, ↓qz, ↓qA, ↓qB, ↓qC, ↓qE, ↓qF, ↓qG, ↓qH, ↓qI, ↓qJ, ↓qL, ↓qM, ↓qN, ↓qO, ↓qP, ↓qQ, ↓qR, ↓qS, ↓qT, ↓qU, ↓qV, ↓qW, ↓qX, ↓qY, ↓qZ, ↓vf, ↓vg, ↓vh, ↓vi, ↓vj, ↓vk, ↓vl, ↓vm, ↓vo, ↓vp, ↓vq, ↓vt, ↓vu, ↓vw, vz, v6, ↓v7, ↓v8, ↓v9, ↓vA, ↓vB, ↓vC, ↓vD, ↓vE, ↓vF, ↓vG, ↓vH, ↓vI, ↓vJ, ↓vK, ↓vL, ↓vM, ↓vN, ↓vO, dLt, dLe, dGt, dGe, vP, vQ, vR, vS, vT, dI2, vU, vV, dEq, dNe, vW, vX, vY, vZ, ja, jb, jc, jd, je, jf, Option.some.injEq, jg, jh, ji, jk, jl, dIs, jm, jn, shs, kiC, jo, jp, obD, id_eq, List.getElem?_cons_zero, List.getElem?_cons_succ, List.set_cons_zero, List.set_cons_succ, List.length_cons, List.length_nil, D.bl.injEq, exists_eq_left', decide_eq_true_eq, decide_eq_false_iff_not, Bool.not_eq_true', Bool.not_eq_false', Nat.zero_add, Nat.reduceAdd, true_and, and_true, forall_const, reduceCtorEq, not_true_eq_false, not_false_eq_true, false_implies, true_implies, implies_true, jq, Nat.reduceLeDiff, Int.reduceLE, Int.reduceLT, Int.reduceNeg, Int.reducePow, Int.reduceAdd, Int.reduceSub, Int.reduceMul, List.length_map]
          refine ⟨.inr (by decide), .inl (by decide), ⟨by decide, by decide⟩, by omega, ?_⟩
          exact hC _ ⟨z, ns ++ [_], _, _, by rw [List.map_append]; rfl, by simp; omega, fun d hd => hr d (List.mem_cons_of_mem _ hd)⟩
        · rintro ρ ⟨z, ns, s4, y, rfl, hl, _⟩
          simp only [↓za, ↓zb, ↓zc, ↓zd, ↓ze, ↓zf, ↓zg, ↓zh, ↓zi, ↓zj, ↓zk, ↓zl, ↓zm, ↓zn, ↓zo, ↓zp, ↓zq, ↓zr, ↓zt, ↓zu, ↓zv, ↓zw, ↓zx, zy, zz, ↓z3, ↓z7, ↓z8, ↓z9, ↓zA, ↓zB, ↓zC, ↓zD, ↓zE, ↓zF, ↓zG, ↓zH, ↓zI, ↓zJ, ↓zK, ↓zL, ↓zM, ↓zN, ↓zO, ↓zP, ↓zQ, ↓zR, ↓zS, ↓zT, ↓zU, ↓zV, ↓zW, ↓zX, ↓zY, ↓zZ, ↓xf, ↓xg, ↓xh, ↓xi, ↓xj, ↓xk, ↓xl, ↓xm, ↓xq, xt, ↓xu, ↓xw, ↓xy, ↓xz, ↓x5, ↓x6, ↓x7, ↓x8, ↓x9, ↓xB, ↓xD, ↓xE, ↓xF, ↓xG, ↓xH, ↓xI, ↓xJ, ↓xK, ↓xL, ↓xM, ↓xN, ↓xO, ↓xP, ↓xQ, ↓xR, ↓xS, ↓xT, ↓xU, ↓xV, ↓xW, ↓xX, ↓xY, ↓xZ, ↓qb, ↓qc, ↓qd, ↓qf, ↓qg, ↓qh, ↓qi, ↓qj, ↓qk, ↓ql, ↓qm, ↓qo, ↓qp, ↓qr, ↓qt, ↓qu, ↓qv, ↓qw, ↓qz, ↓qA, ↓qB, ↓qC, ↓qE, ↓qF, ↓qG, ↓qH, ↓qI, ↓qJ, ↓qL, ↓qM, ↓qN, ↓qO, ↓qP, ↓qQ, ↓qR, ↓qS, ↓qT, ↓qU, ↓qV, ↓qW, ↓qX, ↓qY, ↓qZ, ↓vf, ↓vg, ↓vh, ↓vi, ↓vj, ↓vk, ↓vl, ↓vm, ↓vo, ↓vp, ↓vq, ↓vt, ↓vu, ↓vw, vz, v6, ↓v7, ↓v8, ↓v9, ↓vA, ↓vB, ↓vC, ↓vD, ↓vE, ↓vF, ↓vG, ↓vH, ↓vI, ↓vJ, ↓vK, ↓vL, ↓vM, ↓vN, ↓vO, dLt, dLe, dGt, dGe, vP, vQ, vR, vS, vT, dI2, vU, vV, dEq, dNe, vW, vX, vY, vZ, ja, jb, jc, jd, je, jf, Option.some.injEq, jg, jh, ji, jk, jl, dIs, jm, jn, shs, kiC, jo, jp, obD, id_eq, List.getElem?_cons_zero, List.getElem?_cons_succ, List.set_cons_zero, List.set_cons_succ, List.length_cons, List.length_nil, D.bl.injEq, exists_eq_left', decide_eq_true_eq, decide_eq_false_iff_not, Bool.not_eq_true', Bool.not_eq_false', Nat.zero_add, Nat.reduceAdd, true_and, and_true, forall_const, reduceCtorEq, not_true_eq_false, not_false_eq_true, false_implies, true_implies, implies_true, jq, Nat.reduceLeDiff, Int.reduceLE, Int.reduceLT, Int.reduceNeg, Int.reducePow, Int.reduceAdd, Int.reduceSub, Int.reduceMul]
          exact q ns (by simp at hl; omega)
        · rw [rangeD_length]; simp
        · intro d hd
          obtain ⟨i, e, _⟩ := rangeD_mem hd
          exact ⟨i, e⟩
  · exact h.elim
def wf__law_box : WFn
  | [.sh (.scr ds), .sh (.int lo), .sh (.int hi)], Q => (∃ ns : List Int, ds = ns.map D.int) ∧ 0 ≤ lo ∧ lo ≤ hi ∧ hi ≤ 10000 ∧ ∀ ns : List Int, Q (.lst [.lst (ns.map D.int), .int 0])
  | _, _ => False
theorem len__law_box : ∀ as Qd, wf__law_box as Qd → as.length = 3 := fun as Qd h => by
  unfold wf__law_box at h
  split at h
  · rfl
  · exact h.elim
def w__law_box : WS := (wSeq (wAsg (wFz (wfLst waNil)) (wSt 3))
 (wSeq (wFor (wRg2 (waCons (wVar 1) (waCons (wVar 2) waNil))) (wSt 4)
 (wAsg (wOp vV (wPk 3) (wCall wf__law_row (asCons (wCall wf__law_cell (asCons (wVar 0) (asCons (wVar 4) asNil))) (asCons (wVar 4) (asCons (wC (.int 12)) asNil))))) (wSt 3)))
 (wRet (wFz (wfLst (waCons (wVar 3) (waCons (wC (.int 0)) waNil)))))))
theorem p__law_box : ∀ as Qd, wf__law_box as Qd → w__law_box (startD ["_law_script", "_law_first", "_law_last", "_law_row_here", "_law_k"] as) { nx := fun _ => Qd .non, rt := fun d _ => Qd d } := fun as Qd h => by
  unfold wf__law_box at h
  split at h
  · rename_i _ _ ds lo hi
    obtain ⟨⟨sc, rfl⟩, h0, h1, h2, q⟩ := h
    show w__law_box [.sh (.scr (sc.map D.int)), .sh (.int lo), .sh (.int hi), .no, .no] _
    simp only [w__law_box, ↓za, ↓zb, ↓zc, ↓zd, ↓ze, ↓zf, ↓zg, ↓zh, ↓zi, ↓zj, ↓zk, ↓zl, ↓zm, ↓zn, ↓zo, ↓zp, ↓zq, ↓zr, ↓zt, ↓zu, ↓zv, ↓zw, ↓zx, zy, zz, ↓z3, ↓z7, ↓z8, ↓z9, ↓zA, ↓zB, ↓zC, ↓zD, ↓zE, ↓zF, ↓zG, ↓zH, ↓zI, ↓zJ, ↓zK, ↓zL, ↓zM, ↓zN, ↓zO, ↓zP, ↓zQ, ↓zR, ↓zS, ↓zT, ↓zU, ↓zV, ↓zW, ↓zX, ↓zY, ↓zZ, ↓xf, ↓xg, ↓xh, ↓xi, ↓xj, ↓xk, ↓xl, ↓xm, ↓xq, xt, ↓xu, ↓xw, ↓xy, ↓xz, ↓x5, ↓x6, ↓x7, ↓x8, ↓x9, ↓xB, ↓xD, ↓xE, ↓xF, ↓xG, ↓xH, ↓xI, ↓xJ, ↓xK, ↓xL, ↓xM, ↓xN, ↓xO, ↓xP, ↓xQ, ↓xR, ↓xS, ↓xT, ↓xU, ↓xV, ↓xW, ↓xX, ↓xY, ↓xZ, ↓qb, ↓qc, ↓qd, ↓qf, ↓qg, ↓qh, ↓qi, ↓qj, ↓qk, ↓ql, ↓qm, ↓qo, ↓qp, ↓qr, ↓qt, ↓qu, ↓qv, ↓qw, ↓qz, ↓qA, ↓qB, ↓qC, ↓qE, ↓qF, ↓qG, ↓qH, ↓qI, ↓qJ, ↓qL, ↓qM, ↓qN, ↓qO, ↓qP, ↓qQ, ↓qR, ↓qS, ↓qT, ↓qU, ↓qV, ↓qW, ↓qX, ↓qY, ↓qZ, ↓vf, ↓vg, ↓vh, ↓vi, ↓vj, ↓vk, ↓vl, ↓vm, ↓vo, ↓vp, ↓vq, ↓vt, ↓vu, ↓vw, vz, v6, ↓v7, ↓v8, ↓v9, ↓vA, ↓vB, ↓vC, ↓vD, ↓vE, ↓vF, ↓vG, ↓vH, ↓vI, ↓vJ, ↓vK, ↓vL, ↓vM, ↓vN, ↓vO, dLt, dLe, dGt, dGe, vP, vQ, vR, vS, vT, dI2, vU, vV, dEq, dNe, vW, vX, vY, vZ, ja, jb, jc, jd, je, jf, Option.some.injEq, jg, jh, ji, jk, jl, dIs, jm, jn, shs, kiC, jo, jp, obD, id_eq, List.getElem?_cons_zero, List.getElem?_cons_succ, List.set_cons_zero, List.set_cons_succ, List.length_cons, List.length_nil, D.bl.injEq, exists_eq_left', decide_eq_true_eq, decide_eq_false_iff_not, Bool.not_eq_true', Bool.not_eq_false', Nat.zero_add, Nat.reduceAdd, true_and, and_true, forall_const, reduceCtorEq, not_true_eq_false, not_false_eq_true, false_implies, true_implies, implies_true, jq, Nat.reduceLeDiff, Int.reduceLE, Int.reduceLT, Int.reduceNeg, Int.reducePow, Int.reduceAdd, Int.reduceSub, Int.reduceMul]
    refine ⟨by omega, ?_⟩
    refine wForL_rule (fun r ρ => ∃ (ns : List Int) (s4 : Sl), ρ = [.sh (.scr (sc.map D.int)), .sh (.int lo), .sh (.int hi), .sh (.lst (ns.map D.int)), s4] ∧ ns.length + 12 * r.length ≤ 12 * (hi - lo).toNat ∧ ∀ d ∈ r, ∃ i : Int, d = .int i ∧ 0 ≤ i) ?_ ?_ _ _ ⟨[], _, rfl, ?_, ?_⟩
    · rintro d r ρ ⟨ns, s4, rfl, hl, hr⟩ C hC
      obtain ⟨i, rfl, hi0⟩ := hr d List.mem_cons_self
      rw [List.length_cons] at hl
      simp only [↓za, ↓zb, ↓zc, ↓zd, ↓ze, ↓zf, ↓zg, ↓zh, ↓zi, ↓zj, ↓zk, ↓zl, ↓zm, ↓zn, ↓zo, ↓zp, ↓zq, ↓zr, ↓zt, ↓zu, ↓zv, ↓zw, ↓zx, zy, zz, ↓z3, ↓z7, ↓z8, ↓z9, ↓zA, ↓zB, ↓zC, ↓zD, ↓zE, ↓zF, ↓zG, ↓zH, ↓zI, ↓zJ, ↓zK, ↓zL, ↓zM, ↓zN, ↓zO, ↓zP, ↓zQ, ↓zR, ↓zS, ↓zT, ↓zU, ↓zV, ↓zW, ↓zX, ↓zY, ↓zZ, ↓xf, ↓xg, ↓xh, ↓xi, ↓xj, ↓xk, ↓xl, ↓xm, ↓xq, xt, ↓xu, ↓xw, ↓xy, ↓xz, ↓x5, ↓x6, ↓x7, ↓x8, ↓x9, ↓xB, ↓xD, ↓xE, ↓xF, ↓xG, ↓xH, ↓xI, ↓xJ, ↓xK, ↓xL, ↓xM, ↓xN, ↓xO, ↓xP, ↓xQ, ↓xR, ↓xS, ↓xT, ↓xU, ↓xV, ↓xW, ↓xX, ↓xY, ↓xZ, ↓qb, ↓qc, ↓qd, ↓qf, ↓qg, ↓qh, ↓qi, ↓qj, ↓qk, ↓ql, ↓qm, ↓qo, ↓qp, ↓qr, ↓qt, ↓qu, ↓qv, ↓qw, ↓qz, ↓qA, ↓qB, ↓qC, ↓qE, ↓qF, ↓qG, ↓qH, ↓qI, ↓qJ, ↓qL, ↓qM, ↓qN, ↓qO, ↓qP, ↓qQ, ↓qR, ↓qS, ↓qT, ↓qU, ↓qV, ↓qW, ↓qX, ↓qY, ↓qZ, ↓vf, ↓vg, ↓vh, ↓vi, ↓vj, ↓vk, ↓vl, ↓vm, ↓vo, ↓vp, ↓vq, ↓vt, ↓vu, ↓vw, vz, v6, ↓v7, ↓v8, ↓v9, ↓vA, ↓vB, ↓vC, ↓vD, ↓vE, ↓vF, ↓vG, ↓vH, ↓vI, ↓vJ, ↓vK, ↓vL, ↓vM, ↓vN, ↓vO, dLt, dLe, dGt, dGe, vP, vQ, vR, vS, vT, dI2, vU, vV, dEq, dNe, vW, vX, vY, vZ, ja, jb, jc, jd, je, jf, Option.some.injEq, jg, jh, ji, jk, jl, dIs, jm, jn, shs, kiC, jo, jp, obD, id_eq, List.getElem?_cons_zero, List.getElem?_cons_succ, List.set_cons_zero, List.set_cons_succ, List.length_cons, List.length_nil, D.bl.injEq, exists_eq_left', decide_eq_true_eq, decide_eq_false_iff_not, Bool.not_eq_true', Bool.not_eq_false', Nat.zero_add, Nat.reduceAdd, true_and, and_true, forall_const, reduceCtorEq, not_true_eq_false, not_false_eq_true, false_implies, true_implies, implies_true, jq, Nat.reduceLeDiff, Int.reduceLE, Int.reduceLT, Int.reduceNeg, Int.reducePow, Int.reduceAdd, Int.reduceSub, Int.reduceMul, wf__law_cell, wf__law_row, List.length_map]
      refine ⟨⟨_, rfl⟩, hi0, fun ms hm => ⟨by omega, hC _ ⟨ns ++ ms, _, by rw [List.map_append], by rw [List.length_append]; omega, fun d hd => hr d (List.mem_cons_of_mem _ hd)⟩⟩⟩
    · rintro ρ ⟨ns, s4, rfl, _⟩
      simp only [↓za, ↓zb, ↓zc, ↓zd, ↓ze, ↓zf, ↓zg, ↓zh, ↓zi, ↓zj, ↓zk, ↓zl, ↓zm, ↓zn, ↓zo, ↓zp, ↓zq, ↓zr, ↓zt, ↓zu, ↓zv, ↓zw, ↓zx, zy, zz, ↓z3, ↓z7, ↓z8, ↓z9, ↓zA, ↓zB, ↓zC, ↓zD, ↓zE, ↓zF, ↓zG, ↓zH, ↓zI, ↓zJ, ↓zK, ↓zL, ↓zM, ↓zN, ↓zO, ↓zP, ↓zQ, ↓zR, ↓zS, ↓zT, ↓zU, ↓zV, ↓zW, ↓zX, ↓zY, ↓zZ, ↓xf, ↓xg, ↓xh, ↓xi, ↓xj, ↓xk, ↓xl, ↓xm, ↓xq, xt, ↓xu, ↓xw, ↓xy, ↓xz, ↓x5, ↓x6, ↓x7, ↓x8, ↓x9, ↓xB, ↓xD, ↓xE, ↓xF, ↓xG, ↓xH, ↓xI, ↓xJ, ↓xK, ↓xL, ↓xM, ↓xN, ↓xO, ↓xP, ↓xQ, ↓xR, ↓xS, ↓xT, ↓xU, ↓xV, ↓xW, ↓xX, ↓xY, ↓xZ, ↓qb, ↓qc, ↓qd, ↓qf, ↓qg, ↓qh, ↓qi, ↓qj, ↓qk, ↓ql, ↓qm, ↓qo, ↓qp, ↓qr, ↓qt, ↓qu, ↓qv, ↓qw, ↓qz, ↓qA, ↓qB, ↓qC, ↓qE, ↓qF, ↓qG, ↓qH, ↓qI, ↓qJ, ↓qL, ↓qM, ↓qN, ↓qO, ↓qP, ↓qQ, ↓qR, ↓qS, ↓qT, ↓qU, ↓qV, ↓qW, ↓qX, ↓qY, ↓qZ, ↓vf, ↓vg, ↓vh, ↓vi, ↓vj, ↓vk, ↓vl, ↓vm, ↓vo, ↓vp, ↓vq, ↓vt, ↓vu, ↓vw, vz, v6, ↓v7, ↓v8, ↓v9, ↓vA, ↓vB, ↓vC, ↓vD, ↓vE, ↓vF, ↓vG, ↓vH, ↓vI, ↓vJ, ↓vK, ↓vL, ↓vM, ↓vN, ↓vO, dLt, dLe, dGt, dGe, vP, vQ, vR, vS, vT, dI2, vU, vV, dEq, dNe, vW, vX, vY, vZ, ja, jb, jc, jd, je, jf, Option.some.injEq, jg, jh, ji, jk, jl, dIs, jm, jn, shs, kiC, jo, jp, obD, id_eq, List.getElem?_cons_zero, List.getElem?_cons_succ, List.set_cons_zero, List.set_cons_succ, List.length_cons, List.length_nil, D.bl.injEq, exists_eq_left', decide_eq_true_eq, decide_eq_false_iff_not, Bool.not_eq_true', Bool.not_eq_false', Nat.zero_add, Nat.reduceAdd, true_and, and_true, forall_const, reduceCtorEq, not_true_eq_false, not_false_eq_true, false_implies, true_implies, implies_true, jq, Nat.reduceLeDiff, Int.reduceLE, Int.reduceLT, Int.reduceNeg, Int.reducePow, Int.reduceAdd, Int.reduceSub, Int.reduceMul]
      exact q ns
    · rw [rangeD_length]; simp
    · intro d hd
      obtain ⟨i, e, hi, _⟩ := rangeD_mem hd
      exact ⟨i, e, by omega⟩
  · exact h.elim
def wf__law_draw : WFn
  | [.bx, .sh (.int n)], Q => 0 < n ∧ ∀ r : Int, 0 ≤ r → r < n → Q (.int r)
  | _, _ => False
theorem len__law_draw : ∀ as Qd, wf__law_draw as Qd → as.length = 2 := fun as Qd h => by
  unfold wf__law_draw at h
  split at h
  · rfl
  · exact h.elim
def w__law_draw : WS := (wSeq (wAsg (wBx1 0) (wSt 2))
 (wSeq (wBxPut 0 (wOp vV (wPk 2) (wC (.int 1))))
 (wSeq (wDraw 0 2 1)
 (wRet (wOp vR (wUn vX (wOp vV (wOp vQ (wPk 2) (wC (.int 7))) (wC (.int 3)))) (wPk 1))))))
theorem p__law_draw : ∀ as Qd, wf__law_draw as Qd → w__law_draw (startD ["_law_box_here", "_law_many", "_law_at"] as) { nx := fun _ => Qd .non, rt := fun d _ => Qd d } := fun as Qd h => by
  unfold wf__law_draw at h
  split at h
  · obtain ⟨hn, q⟩ := h
    show w__law_draw [.bx, .sh (.int _), .no] _
    simp only [w__law_draw, ↓za, ↓zb, ↓zc, ↓zd, ↓ze, ↓zf, ↓zg, ↓zh, ↓zi, ↓zj, ↓zk, ↓zl, ↓zm, ↓zn, ↓zo, ↓zp, ↓zq, ↓zr, ↓zt, ↓zu, ↓zv, ↓zw, ↓zx, zy, zz, ↓z3, ↓z7, ↓z8, ↓z9, ↓zA, ↓zB, ↓zC, ↓zD, ↓zE, ↓zF, ↓zG, ↓zH, ↓zI, ↓zJ, ↓zK, ↓zL, ↓zM, ↓zN, ↓zO, ↓zP, ↓zQ, ↓zR, ↓zS, ↓zT, ↓zU, ↓zV, ↓zW, ↓zX, ↓zY, ↓zZ, ↓xf, ↓xg, ↓xh, ↓xi, ↓xj, ↓xk, ↓xl, ↓xm, ↓xq, xt, ↓xu, ↓xw, ↓xy, ↓xz, ↓x5, ↓x6, ↓x7, ↓x8, ↓x9, ↓xB, ↓xD, ↓xE, ↓xF, ↓xG, ↓xH, ↓xI, ↓xJ, ↓xK, ↓xL, ↓xM, ↓xN, ↓xO, ↓xP, ↓xQ, ↓xR, ↓xS, ↓xT, ↓xU, ↓xV, ↓xW, ↓xX, ↓xY, ↓xZ, ↓qb, ↓qc, ↓qd, ↓qf, ↓qg, ↓qh, ↓qi, ↓qj, ↓qk, ↓ql, ↓qm, ↓qo, ↓qp, ↓qr, ↓qt, ↓qu, ↓qv, ↓qw, ↓qz, ↓qA, ↓qB, ↓qC, ↓qE, ↓qF, ↓qG, ↓qH, ↓qI, ↓qJ, ↓qL, ↓qM, ↓qN, ↓qO, ↓qP, ↓qQ, ↓qR, ↓qS, ↓qT, ↓qU, ↓qV, ↓qW, ↓qX, ↓qY, ↓qZ, ↓vf, ↓vg, ↓vh, ↓vi, ↓vj, ↓vk, ↓vl, ↓vm, ↓vo, ↓vp, ↓vq, ↓vt, ↓vu, ↓vw, vz, v6, ↓v7, ↓v8, ↓v9, ↓vA, ↓vB, ↓vC, ↓vD, ↓vE, ↓vF, ↓vG, ↓vH, ↓vI, ↓vJ, ↓vK, ↓vL, ↓vM, ↓vN, ↓vO, dLt, dLe, dGt, dGe, vP, vQ, vR, vS, vT, dI2, vU, vV, dEq, dNe, vW, vX, vY, vZ, ja, jb, jc, jd, je, jf, Option.some.injEq, jg, jh, ji, jk, jl, dIs, jm, jn, shs, kiC, jo, jp, obD, id_eq, List.getElem?_cons_zero, List.getElem?_cons_succ, List.set_cons_zero, List.set_cons_succ, List.length_cons, List.length_nil, D.bl.injEq, exists_eq_left', decide_eq_true_eq, decide_eq_false_iff_not, Bool.not_eq_true', Bool.not_eq_false', Nat.zero_add, Nat.reduceAdd, true_and, and_true, forall_const, reduceCtorEq, not_true_eq_false, not_false_eq_true, false_implies, true_implies, implies_true, jq, Nat.reduceLeDiff, Int.reduceLE, Int.reduceLT, Int.reduceNeg, Int.reducePow, Int.reduceAdd, Int.reduceSub, Int.reduceMul, List.length_map]
    intro n h0
    first
      | exact ⟨by omega, n, _, rfl, rfl, h0, hn, q, .inr (by decide), hn, q _ (Int.emod_nonneg _ (by omega)) (Int.emod_lt_of_pos _ hn)⟩
      | exact ⟨by omega, n, _, rfl, rfl, h0, hn, q, q 0 (by decide) hn⟩
  · exact h.elim
def wf__law_same : WFn
  | [.sh d, .sh e], Q => d = e ∧ Shw d ∧ Q (.bl true)
  | _, _ => False
theorem len__law_same : ∀ as Qd, wf__law_same as Qd → as.length = 2 := fun as Qd h => by
  unfold wf__law_same at h
  split at h
  · rfl
  · exact h.elim
def w__law_same : WS := (wRet (wOp dEq (wUn dRepr (wPk 0)) (wUn dRepr (wPk 1))))
theorem p__law_same : ∀ as Qd, wf__law_same as Qd → w__law_same (startD ["_law_one", "_law_other"] as) { nx := fun _ => Qd .non, rt := fun d _ => Qd d } := fun as Qd h => by
  unfold wf__law_same at h
  split at h
  · obtain ⟨rfl, hs, q⟩ := h
    show w__law_same [.sh _, .sh _] _
    simp only [w__law_same, ↓za, ↓zb, ↓zc, ↓zd, ↓ze, ↓zf, ↓zg, ↓zh, ↓zi, ↓zj, ↓zk, ↓zl, ↓zm, ↓zn, ↓zo, ↓zp, ↓zq, ↓zr, ↓zt, ↓zu, ↓zv, ↓zw, ↓zx, zy, zz, ↓z3, ↓z7, ↓z8, ↓z9, ↓zA, ↓zB, ↓zC, ↓zD, ↓zE, ↓zF, ↓zG, ↓zH, ↓zI, ↓zJ, ↓zK, ↓zL, ↓zM, ↓zN, ↓zO, ↓zP, ↓zQ, ↓zR, ↓zS, ↓zT, ↓zU, ↓zV, ↓zW, ↓zX, ↓zY, ↓zZ, ↓xf, ↓xg, ↓xh, ↓xi, ↓xj, ↓xk, ↓xl, ↓xm, ↓xq, xt, ↓xu, ↓xw, ↓xy, ↓xz, ↓x5, ↓x6, ↓x7, ↓x8, ↓x9, ↓xB, ↓xD, ↓xE, ↓xF, ↓xG, ↓xH, ↓xI, ↓xJ, ↓xK, ↓xL, ↓xM, ↓xN, ↓xO, ↓xP, ↓xQ, ↓xR, ↓xS, ↓xT, ↓xU, ↓xV, ↓xW, ↓xX, ↓xY, ↓xZ, ↓qb, ↓qc, ↓qd, ↓qf, ↓qg, ↓qh, ↓qi, ↓qj, ↓qk, ↓ql, ↓qm, ↓qo, ↓qp, ↓qr, ↓qt, ↓qu, ↓qv, ↓qw, ↓qz, ↓qA, ↓qB, ↓qC, ↓qE, ↓qF, ↓qG, ↓qH, ↓qI, ↓qJ, ↓qL, ↓qM, ↓qN, ↓qO, ↓qP, ↓qQ, ↓qR, ↓qS, ↓qT, ↓qU, ↓qV, ↓qW, ↓qX, ↓qY, ↓qZ, ↓vf, ↓vg, ↓vh, ↓vi, ↓vj, ↓vk, ↓vl, ↓vm, ↓vo, ↓vp, ↓vq, ↓vt, ↓vu, ↓vw, vz, v6, ↓v7, ↓v8, ↓v9, ↓vA, ↓vB, ↓vC, ↓vD, ↓vE, ↓vF, ↓vG, ↓vH, ↓vI, ↓vJ, ↓vK, ↓vL, ↓vM, ↓vN, ↓vO, dLt, dLe, dGt, dGe, vP, vQ, vR, vS, vT, dI2, vU, vV, dEq, dNe, vW, vX, vY, vZ, ja, jb, jc, jd, je, jf, Option.some.injEq, jg, jh, ji, jk, jl, dIs, jm, jn, shs, kiC, jo, jp, obD, id_eq, List.getElem?_cons_zero, List.getElem?_cons_succ, List.set_cons_zero, List.set_cons_succ, List.length_cons, List.length_nil, D.bl.injEq, exists_eq_left', decide_eq_true_eq, decide_eq_false_iff_not, Bool.not_eq_true', Bool.not_eq_false', Nat.zero_add, Nat.reduceAdd, true_and, and_true, forall_const, reduceCtorEq, not_true_eq_false, not_false_eq_true, false_implies, true_implies, implies_true, jq, Nat.reduceLeDiff, Int.reduceLE, Int.reduceLT, Int.reduceNeg, Int.reducePow, Int.reduceAdd, Int.reduceSub, Int.reduceMul, dRepr, dEqB]
    refine ⟨hs, hs, ?_⟩
    simpa using q
  · exact h.elim
def goodF (fs : List Str) : Prop := fs.Nodup ∧ 1 ≤ fs.length ∧ fs.length ≤ 3 ∧ ltrs fs
def wf__law_facts : WFn
  | [.bx], Q => ∀ fs : List Str, goodF fs → Q (.lst (fs.map D.str))
  | _, _ => False
theorem len__law_facts : ∀ as Qd, wf__law_facts as Qd → as.length = 1 := fun as Qd h => by
  unfold wf__law_facts at h
  split at h
  · rfl
  · exact h.elim
theorem fs_f : ("f" : Str) = fstr [102] := by decide +kernel
theorem fs_g : ("g" : Str) = fstr [103] := by decide +kernel
theorem fs_h : ("h" : Str) = fstr [104] := by decide +kernel
theorem goodF1 : goodF ["f"] := ⟨by decide +kernel, by decide, by decide, fun f hf => by rw [List.mem_singleton.mp hf]; exact .inl fs_f⟩
theorem goodF2 : goodF ["f", "g"] := ⟨by decide +kernel, by decide, by decide, fun f hf => by
  simp only [List.mem_cons, List.not_mem_nil, or_false] at hf
  rcases hf with rfl | rfl
  · exact .inl fs_f
  · exact .inr (.inl fs_g)⟩
theorem goodF3 : goodF ["g", "f", "h"] := ⟨by decide +kernel, by decide, by decide, fun f hf => by
  simp only [List.mem_cons, List.not_mem_nil, or_false] at hf
  rcases hf with rfl | rfl | rfl
  · exact .inr (.inl fs_g)
  · exact .inl fs_f
  · exact .inr (.inr fs_h)⟩
def w__law_facts : WS := (wRet (wOp dIx (wFz (wfLst (waCons (wFz (wfLst (waCons (wC (.str "f")) waNil))) (waCons (wFz (wfLst (waCons (wC (.str "f")) (waCons (wC (.str "g")) waNil)))) (waCons (wFz (wfLst (waCons (wC (.str "f")) (waCons (wC (.str "g")) waNil)))) (waCons (wFz (wfLst (waCons (wC (.str "g")) (waCons (wC (.str "f")) (waCons (wC (.str "h")) waNil))))) waNil)))))) (wCall wf__law_draw (asBox 0 (asCons (wC (.int 4)) asNil)))))
theorem p__law_facts : ∀ as Qd, wf__law_facts as Qd → w__law_facts (startD ["_law_box_here"] as) { nx := fun _ => Qd .non, rt := fun d _ => Qd d } := fun as Qd h => by
  unfold wf__law_facts at h
  split at h
  · show w__law_facts [.bx] _
    simp only [w__law_facts, ↓za, ↓zb, ↓zc, ↓zd, ↓ze, ↓zf, ↓zg, ↓zh, ↓zi, ↓zj, ↓zk, ↓zl, ↓zm, ↓zn, ↓zo, ↓zp, ↓zq, ↓zr, ↓zt, ↓zu, ↓zv, ↓zw, ↓zx, zy, zz, ↓z3, ↓z7, ↓z8, ↓z9, ↓zA, ↓zB, ↓zC, ↓zD, ↓zE, ↓zF, ↓zG, ↓zH, ↓zI, ↓zJ, ↓zK, ↓zL, ↓zM, ↓zN, ↓zO, ↓zP, ↓zQ, ↓zR, ↓zS, ↓zT, ↓zU, ↓zV, ↓zW, ↓zX, ↓zY, ↓zZ, ↓xf, ↓xg, ↓xh, ↓xi, ↓xj, ↓xk, ↓xl, ↓xm, ↓xq, xt, ↓xu, ↓xw, ↓xy, ↓xz, ↓x5, ↓x6, ↓x7, ↓x8, ↓x9, ↓xB, ↓xD, ↓xE, ↓xF, ↓xG, ↓xH, ↓xI, ↓xJ, ↓xK, ↓xL, ↓xM, ↓xN, ↓xO, ↓xP, ↓xQ, ↓xR, ↓xS, ↓xT, ↓xU, ↓xV, ↓xW, ↓xX, ↓xY, ↓xZ, ↓qb, ↓qc, ↓qd, ↓qf, ↓qg, ↓qh, ↓qi, ↓qj, ↓qk, ↓ql, ↓qm, ↓qo, ↓qp, ↓qr, ↓qt, ↓qu, ↓qv, ↓qw, ↓qz, ↓qA, ↓qB, ↓qC, ↓qE, ↓qF, ↓qG, ↓qH, ↓qI, ↓qJ, ↓qL, ↓qM, ↓qN, ↓qO, ↓qP, ↓qQ, ↓qR, ↓qS, ↓qT, ↓qU, ↓qV, ↓qW, ↓qX, ↓qY, ↓qZ, ↓vf, ↓vg, ↓vh, ↓vi, ↓vj, ↓vk, ↓vl, ↓vm, ↓vo, ↓vp, ↓vq, ↓vt, ↓vu, ↓vw, vz, v6, ↓v7, ↓v8, ↓v9, ↓vA, ↓vB, ↓vC, ↓vD, ↓vE, ↓vF, ↓vG, ↓vH, ↓vI, ↓vJ, ↓vK, ↓vL, ↓vM, ↓vN, ↓vO, dLt, dLe, dGt, dGe, vP, vQ, vR, vS, vT, dI2, vU, vV, dEq, dNe, vW, vX, vY, vZ, ja, jb, jc, jd, je, jf, Option.some.injEq, jg, jh, ji, jk, jl, dIs, jm, jn, shs, kiC, jo, jp, obD, id_eq, List.getElem?_cons_zero, List.getElem?_cons_succ, List.set_cons_zero, List.set_cons_succ, List.length_cons, List.length_nil, D.bl.injEq, exists_eq_left', decide_eq_true_eq, decide_eq_false_iff_not, Bool.not_eq_true', Bool.not_eq_false', Nat.zero_add, Nat.reduceAdd, true_and, and_true, forall_const, reduceCtorEq, not_true_eq_false, not_false_eq_true, false_implies, true_implies, implies_true, jq, Nat.reduceLeDiff, Int.reduceLE, Int.reduceLT, Int.reduceNeg, Int.reducePow, Int.reduceAdd, Int.reduceSub, Int.reduceMul, wf__law_draw]
    intro r r0 r1
    obtain ⟨d, hd, e⟩ := atI_mem (l := [D.lst [.str "f"], .lst [.str "f", .str "g"], .lst [.str "f", .str "g"], .lst [.str "g", .str "f", .str "h"]]) r0 r1
    refine ⟨d, e, ?_⟩
    simp only [List.mem_cons, List.not_mem_nil, or_false] at hd
    rcases hd with rfl | rfl | rfl | rfl
    · exact h _ goodF1
    · exact h _ goodF2
    · exact h _ goodF2
    · exact h _ goodF3
  · exact h.elim
def wf__law_machine : WFn
  | [.bx, .sh (.lst ds), .sh (.int most)], Q => ∃ fs : List Str, ds = fs.map D.str ∧ goodF fs ∧ 1 ≤ most ∧ most ≤ 8 ∧ ∀ m : Mach, m.facts = fs → m.ok most.toNat 10 → Q m.dd
  | _, _ => False
theorem len__law_machine : ∀ as Qd, wf__law_machine as Qd → as.length = 3 := fun as Qd h => by
  unfold wf__law_machine at h
  split at h
  · rfl
  · exact h.elim
def kdsOf (fs : List Str) (r : List Int) : List (Key × D) := List.zipWith (fun f v => (Sum.inr f, D.int v)) fs r
theorem kds_keys : ∀ {fs : List Str} {r : List Int}, r.length = fs.length → (kdsOf fs r).map (·.1) = keysOf fs ∧ (kdsOf fs r).map (·.2) = r.map D.int
  | [], [], _ => ⟨rfl, rfl⟩
  | f :: fs, v :: r, h => by
    have := kds_keys (fs := fs) (r := r) (by simpa using h)
    unfold kdsOf keysOf at this ⊢
    simp only [List.zipWith_cons_cons, List.map_cons, this.1, this.2, and_self]
  | [], _ :: _, h => by simp at h
  | _ :: _, [], h => by simp at h
theorem keysOf_nd {fs : List Str} (h : fs.Nodup) : (keysOf fs).Nodup := by
  unfold keysOf
  induction fs with
  | nil => exact List.nodup_nil
  | cons f fs ih =>
    rw [List.nodup_cons] at h
    rw [List.map_cons, List.nodup_cons]
    refine ⟨fun z => ?_, ih h.2⟩
    obtain ⟨g, hg, e⟩ := List.mem_map.mp z
    exact h.1 (by rw [← Sum.inr.inj e]; exact hg)
/-- a row's pairs (fact, number) -/
theorem pairs_out {P : Int → Prop} : ∀ {fs : List Str} {ys : List D}, Outs (fun d o => ∃ f v, d = .str f ∧ o = some (pairD (.inr f, .int v)) ∧ P v) (fs.map D.str) ys → ∃ r : List Int, r.length = fs.length ∧ ys = (kdsOf fs r).map pairD ∧ ∀ v ∈ r, P v
  | [], ys, h => ⟨[], rfl, h, fun v hv => by cases hv⟩
  | f :: fs, ys, h => by
    rcases h with ⟨y, r, ⟨f', v, e1, e2, hp⟩, rfl, h⟩ | ⟨⟨f', v, e1, e2, hp⟩, _⟩
    · cases e1
      cases e2
      obtain ⟨r', h1, rfl, h3⟩ := pairs_out h
      refine ⟨v :: r', by simp [h1], rfl, fun u hu => ?_⟩
      rcases List.mem_cons.mp hu with rfl | hu
      · exact hp
      · exact h3 u hu
    · cases e2
theorem dDict_row {fs : List Str} {r : List Int} {Q : D → Prop} (nd : fs.Nodup) (h : r.length = fs.length) (q : Q (rowD (rowOf fs r))) : dDict (.lst ((kdsOf fs r).map pairD)) Q := by
  obtain ⟨e1, e2⟩ := kds_keys h
  refine ⟨kdsOf fs r, rfl, by rw [e1]; exact keysOf_nd nd, ?_⟩
  rw [e1, e2]; exact q
theorem facts_lc {fs : List Str} {P : Int → Prop} {vs : List Nat} {wg : WG} {we : WE} {ρ : List Sl} {Q : List D → List Sl → Prop}
    (step : ∀ f ∈ fs, ∀ Kt : D → List Sl → Prop, (∀ v, P v → Kt (pairD (.inr f, .int v)) ρ) → wg (.str f) ρ fun ρ1 => we ρ1 fun y ρ3 => noOwnB ρ3 vs = true ∧ Kt y (wipeD ρ3 vs))
    (q : ∀ r : List Int, r.length = fs.length → (∀ v ∈ r, P v) → Q ((kdsOf fs r).map pairD) ρ) : wLcL vs wg wYes we (fs.map D.str) ρ [] Q := by
  refine wLcL_rule (fun d => ∃ f ∈ fs, d = .str f) (fun d o => ∃ f v, d = .str f ∧ o = some (pairD (.inr f, .int v)) ∧ P v) ?_ _ _ _ ?_ ?_
  · rintro d ⟨f, hf, rfl⟩ Kt Kf ht hf'
    simp only [↓za, ↓zb, ↓zc, ↓zd, ↓ze, ↓zf, ↓zg, ↓zh, ↓zi, ↓zj, ↓zk, ↓zl, ↓zm, ↓zn, ↓zo, ↓zp, ↓zq, ↓zr, ↓zt, ↓zu, ↓zv, ↓zw, ↓zx, zy, zz, ↓z3, ↓z7, ↓z8, ↓z9, ↓zA, ↓zB, ↓zC, ↓zD, ↓zE, ↓zF, ↓zG, ↓zH, ↓zI, ↓zJ, ↓zK, ↓zL, ↓zM, ↓zN, ↓zO, ↓zP, ↓zQ, ↓zR, ↓zS, ↓zT, ↓zU, ↓zV, ↓zW, ↓zX, ↓zY, ↓zZ, ↓xf, ↓xg, ↓xh, ↓xi, ↓xj, ↓xk, ↓xl, ↓xm, ↓xq, xt, ↓xu, ↓xw, ↓xy, ↓xz, ↓x5, ↓x6, ↓x7, ↓x8, ↓x9, ↓xB, ↓xD, ↓xE, ↓xF, ↓xG, ↓xH, ↓xI, ↓xJ, ↓xK, ↓xL, ↓xM, ↓xN, ↓xO, ↓xP, ↓xQ, ↓xR, ↓xS, ↓xT, ↓xU, ↓xV, ↓xW, ↓xX, ↓xY, ↓xZ, ↓qb, ↓qc, ↓qd, ↓qf, ↓qg, ↓qh, ↓qi, ↓qj, ↓qk, ↓ql, ↓qm, ↓qo, ↓qp, ↓qr, ↓qt, ↓qu, ↓qv, ↓qw, ↓qz, ↓qA, ↓qB, ↓qC, ↓qE, ↓qF, ↓qG, ↓qH, ↓qI, ↓qJ, ↓qL, ↓qM, ↓qN, ↓qO, ↓qP, ↓qQ, ↓qR, ↓qS, ↓qT, ↓qU, ↓qV, ↓qW, ↓qX, ↓qY, ↓qZ, ↓vf, ↓vg, ↓vh, ↓vi, ↓vj, ↓vk, ↓vl, ↓vm, ↓vo, ↓vp, ↓vq, ↓vt, ↓vu, ↓vw, vz, v6, ↓v7, ↓v8, ↓v9, ↓vA, ↓vB, ↓vC, ↓vD, ↓vE, ↓vF, ↓vG, ↓vH, ↓vI, ↓vJ, ↓vK, ↓vL, ↓vM, ↓vN, ↓vO, dLt, dLe, dGt, dGe, vP, vQ, vR, vS, vT, dI2, vU, vV, dEq, dNe, vW, vX, vY, vZ, ja, jb, jc, jd, je, jf, Option.some.injEq, jg, jh, ji, jk, jl, dIs, jm, jn, shs, kiC, jo, jp, obD, id_eq, List.getElem?_cons_zero, List.getElem?_cons_succ, List.set_cons_zero, List.set_cons_succ, List.length_cons, List.length_nil, D.bl.injEq, exists_eq_left', decide_eq_true_eq, decide_eq_false_iff_not, Bool.not_eq_true', Bool.not_eq_false', Nat.zero_add, Nat.reduceAdd, true_and, and_true, forall_const, reduceCtorEq, not_true_eq_false, not_false_eq_true, false_implies, true_implies, implies_true, jq, Nat.reduceLeDiff, Int.reduceLE, Int.reduceLT, Int.reduceNeg, Int.reducePow, Int.reduceAdd, Int.reduceSub, Int.reduceMul]
    exact step f hf Kt fun v hv => ht _ ⟨f, v, rfl, rfl, hv⟩
  · intro d hd
    obtain ⟨f, hf, rfl⟩ := List.mem_map.mp hd
    exact ⟨f, hf, rfl⟩
  · intro ys hy
    obtain ⟨r, h1, rfl, h3⟩ := pairs_out hy
    rw [List.nil_append]
    exact q r h1 h3
def rowsOf (fs : List Str) (rs : List (List Int)) : List D := rs.map fun r => rowD (rowOf fs r)
def w__law_machine_t1 : WS := (wApp 5 (wUn dDict (wFz (wLc [7] (wItL (wVar 1)) (wSt 7) wYes (wTup (waCons (wVar 7) (waCons (wOp dIx (wFz (wfLst (waCons (wC (.int 0)) (waCons (wC (.int 0)) (waCons (wC (.int 1)) (waCons (wC (.int 2)) (waCons (wUn dNeg (wC (.int 1))) (waCons (wUn dNeg (wC (.int 2))) (waCons (wC (.int 3)) waNil))))))))) (wCall wf__law_draw (asBox 0 (asCons (wC (.int 7)) asNil)))) waNil)))))))
def w__law_machine_t2 : WS := (wRet (wMake "Machine" wf_Machine_init (asCons (wVar 1) (asCons (wVar 4) (asCons (wVar 5) (asCons (wFz (wLc [6] (wRg1 (waCons (wVar 3) waNil)) (wSt 6) wYes (wOp vP (wCall wf__law_draw (asBox 0 (asCons (wC (.int 7)) asNil))) (wC (.int 2))))) asNil))))))
def w__law_machine_t3 : WS := (wSeq (wFor (wRg1 (waCons (wVar 3) waNil)) (wSt 6)
 (wSeq (wApp 4 (wUn dDict (wFz (wLc [7] (wItL (wVar 1)) (wSt 7) wYes (wTup (waCons (wVar 7) (waCons (wOp vR (wUn vX (wCall wf__law_draw (asBox 0 (asCons (wC (.int 900)) asNil)))) (wPk 3)) waNil)))))))
 w__law_machine_t1))
 w__law_machine_t2)
def w__law_machine_t4 : WS := (wSeq (wAsgO (wfLst waNil) 5)
 w__law_machine_t3)
def w__law_machine_t5 : WS := (wSeq (wAsgO (wfLst waNil) 4)
 w__law_machine_t4)
def w__law_machine : WS := (wSeq (wAsg (wOp vV (wC (.int 1)) (wCall wf__law_draw (asBox 0 (asCons (wVar 2) asNil)))) (wSt 3))
 w__law_machine_t5)
theorem p__law_machine : ∀ as Qd, wf__law_machine as Qd → w__law_machine (startD ["_law_box_here", "_law_facts_here", "_law_most", "_law_many", "_law_step", "_law_gain", "_law_state", "_law_fact"] as) { nx := fun _ => Qd .non, rt := fun d _ => Qd d } := fun as Qd h => by
  unfold wf__law_machine at h
  split at h
  · rename_i ds most
    obtain ⟨fs, rfl, hf, h1, h8, q⟩ := h
    obtain ⟨nd, f1, f3, fo⟩ := hf
    show w__law_machine [.bx, .sh (.lst (fs.map D.str)), .sh (.int most), .no, .no, .no, .no, .no] _
    simp only [w__law_machine, ↓za, ↓zb, ↓zc, ↓zd, ↓ze, ↓zf, ↓zg, ↓zh, ↓zi, ↓zj, ↓zk, ↓zl, ↓zm, ↓zn, ↓zo, ↓zp, ↓zq, ↓zr, ↓zt, ↓zu, ↓zv, ↓zw, ↓zx, zy, zz, ↓z3, ↓z7, ↓z8, ↓z9, ↓zA, ↓zB, ↓zC, ↓zD, ↓zE, ↓zF, ↓zG, ↓zH, ↓zI, ↓zJ, ↓zK, ↓zL, ↓zM, ↓zN, ↓zO, ↓zP, ↓zQ, ↓zR, ↓zS, ↓zT, ↓zU, ↓zV, ↓zW, ↓zX, ↓zY, ↓zZ, ↓xf, ↓xg, ↓xh, ↓xi, ↓xj, ↓xk, ↓xl, ↓xm, ↓xq, xt, ↓xu, ↓xw, ↓xy, ↓xz, ↓x5, ↓x6, ↓x7, ↓x8, ↓x9, ↓xB, ↓xD, ↓xE, ↓xF, ↓xG, ↓xH, ↓xI, ↓xJ, ↓xK, ↓xL, ↓xM, ↓xN, ↓xO, ↓xP, ↓xQ, ↓xR, ↓xS, ↓xT, ↓xU, ↓xV, ↓xW, ↓xX, ↓xY, ↓xZ, ↓qb, ↓qc, ↓qd, ↓qf, ↓qg, ↓qh, ↓qi, ↓qj, ↓qk, ↓ql, ↓qm, ↓qo, ↓qp, ↓qr, ↓qt, ↓qu, ↓qv, ↓qw, ↓qz, ↓qA, ↓qB, ↓qC, ↓qE, ↓qF, ↓qG, ↓qH, ↓qI, ↓qJ, ↓qL, ↓qM, ↓qN, ↓qO, ↓qP, ↓qQ, ↓qR, ↓qS, ↓qT, ↓qU, ↓qV, ↓qW, ↓qX, ↓qY, ↓qZ, ↓vf, ↓vg, ↓vh, ↓vi, ↓vj, ↓vk, ↓vl, ↓vm, ↓vo, ↓vp, ↓vq, ↓vt, ↓vu, ↓vw, vz, v6, ↓v7, ↓v8, ↓v9, ↓vA, ↓vB, ↓vC, ↓vD, ↓vE, ↓vF, ↓vG, ↓vH, ↓vI, ↓vJ, ↓vK, ↓vL, ↓vM, ↓vN, ↓vO, dLt, dLe, dGt, dGe, vP, vQ, vR, vS, vT, dI2, vU, vV, dEq, dNe, vW, vX, vY, vZ, ja, jb, jc, jd, je, jf, Option.some.injEq, jg, jh, ji, jk, jl, dIs, jm, jn, shs, kiC, jo, jp, obD, id_eq, List.getElem?_cons_zero, List.getElem?_cons_succ, List.set_cons_zero, List.set_cons_succ, List.length_cons, List.length_nil, D.bl.injEq, exists_eq_left', decide_eq_true_eq, decide_eq_false_iff_not, Bool.not_eq_true', Bool.not_eq_false', Nat.zero_add, Nat.reduceAdd, true_and, and_true, forall_const, reduceCtorEq, not_true_eq_false, not_false_eq_true, false_implies, true_implies, implies_true, jq, Nat.reduceLeDiff, Int.reduceLE, Int.reduceLT, Int.reduceNeg, Int.reducePow, Int.reduceAdd, Int.reduceSub, Int.reduceMul, wf__law_draw]
    refine ⟨by omega, fun k k0 k1 => ?_⟩
    generalize hn : 1 + k = n
    simp only [w__law_machine_t5, w__law_machine_t4, w__law_machine_t3, ↓za, ↓zb, ↓zc, ↓zd, ↓ze, ↓zf, ↓zg, ↓zh, ↓zi, ↓zj, ↓zk, ↓zl, ↓zm, ↓zn, ↓zo, ↓zp, ↓zq, ↓zr, ↓zt, ↓zu, ↓zv, ↓zw, ↓zx, zy, zz, ↓z3, ↓z7, ↓z8, ↓z9, ↓zA, ↓zB, ↓zC, ↓zD, ↓zE, ↓zF, ↓zG, ↓zH, ↓zI, ↓zJ, ↓zK, ↓zL, ↓zM, ↓zN, ↓zO, ↓zP, ↓zQ, ↓zR, ↓zS, ↓zT, ↓zU, ↓zV, ↓zW, ↓zX, ↓zY, ↓zZ, ↓xf, ↓xg, ↓xh, ↓xi, ↓xj, ↓xk, ↓xl, ↓xm, ↓xq, xt, ↓xu, ↓xw, ↓xy, ↓xz, ↓x5, ↓x6, ↓x7, ↓x8, ↓x9, ↓xB, ↓xD, ↓xE, ↓xF, ↓xG, ↓xH, ↓xI, ↓xJ, ↓xK, ↓xL, ↓xM, ↓xN, ↓xO, ↓xP, ↓xQ, ↓xR, ↓xS, ↓xT, ↓xU, ↓xV, ↓xW, ↓xX, ↓xY, ↓xZ, ↓qb, ↓qc, ↓qd, ↓qf, ↓qg, ↓qh, ↓qi, ↓qj, ↓qk, ↓ql, ↓qm, ↓qo, ↓qp, ↓qr, ↓qt, ↓qu, ↓qv, ↓qw, ↓qz, ↓qA, ↓qB, ↓qC, ↓qE, ↓qF, ↓qG, ↓qH, ↓qI, ↓qJ, ↓qL, ↓qM, ↓qN, ↓qO, ↓qP, ↓qQ, ↓qR, ↓qS, ↓qT, ↓qU, ↓qV, ↓qW, ↓qX, ↓qY, ↓qZ, ↓vf, ↓vg, ↓vh, ↓vi, ↓vj, ↓vk, ↓vl, ↓vm, ↓vo, ↓vp, ↓vq, ↓vt, ↓vu, ↓vw, vz, v6, ↓v7, ↓v8, ↓v9, ↓vA, ↓vB, ↓vC, ↓vD, ↓vE, ↓vF, ↓vG, ↓vH, ↓vI, ↓vJ, ↓vK, ↓vL, ↓vM, ↓vN, ↓vO, dLt, dLe, dGt, dGe, vP, vQ, vR, vS, vT, dI2, vU, vV, dEq, dNe, vW, vX, vY, vZ, ja, jb, jc, jd, je, jf, Option.some.injEq, jg, jh, ji, jk, jl, dIs, jm, jn, shs, kiC, jo, jp, obD, id_eq, List.getElem?_cons_zero, List.getElem?_cons_succ, List.set_cons_zero, List.set_cons_succ, List.length_cons, List.length_nil, D.bl.injEq, exists_eq_left', decide_eq_true_eq, decide_eq_false_iff_not, Bool.not_eq_true', Bool.not_eq_false', Nat.zero_add, Nat.reduceAdd, true_and, and_true, forall_const, reduceCtorEq, not_true_eq_false, not_false_eq_true, false_implies, true_implies, implies_true, jq, Nat.reduceLeDiff, Int.reduceLE, Int.reduceLT, Int.reduceNeg, Int.reducePow, Int.reduceAdd, Int.reduceSub, Int.reduceMul]
    refine ⟨by omega, ?_⟩
    refine wForL_rule (fun r ρ => ∃ (sr gr : List (List Int)) (s6 : Sl), (s6 = .no ∨ ∃ d, s6 = .sh d) ∧ ρ = [.bx, .sh (.lst (fs.map D.str)), .sh (.int most), .sh (.int n), .ol (rowsOf fs sr), .ol (rowsOf fs gr), s6, .no] ∧ sr.length + r.length = n.toNat ∧ gr.length = sr.length ∧
      (∀ r ∈ sr, r.length = fs.length ∧ ∀ s ∈ r, 0 ≤ s ∧ s < n) ∧ ∀ r ∈ gr, r.length = fs.length ∧ ∀ g ∈ r, -10 ≤ g ∧ g ≤ 10) ?_ ?_ _ _ ⟨[], [], _, .inl rfl, rfl, by rw [rangeD_length]; simp, rfl, (fun r h => by cases h), fun r h => by cases h⟩
    · rintro d r ρ ⟨sr, gr, s6, _, rfl, hl, hgl, hs, hg⟩ C hC
      rw [List.length_cons] at hl
      simp only [↓za, ↓zb, ↓zc, ↓zd, ↓ze, ↓zf, ↓zg, ↓zh, ↓zi, ↓zj, ↓zk, ↓zl, ↓zm, ↓zn, ↓zo, ↓zp, ↓zq, ↓zr, ↓zt, ↓zu, ↓zv, ↓zw, ↓zx, zy, zz, ↓z3, ↓z7, ↓z8, ↓z9, ↓zA, ↓zB, ↓zC, ↓zD, ↓zE, ↓zF, ↓zG, ↓zH, ↓zI, ↓zJ, ↓zK, ↓zL, ↓zM, ↓zN, ↓zO, ↓zP, ↓zQ, ↓zR, ↓zS, ↓zT, ↓zU, ↓zV, ↓zW, ↓zX, ↓zY, ↓zZ, ↓xf, ↓xg, ↓xh, ↓xi, ↓xj, ↓xk, ↓xl, ↓xm, ↓xq, xt, ↓xu, ↓xw, ↓xy, ↓xz, ↓x5, ↓x6, ↓x7, ↓x8, ↓x9, ↓xB, ↓xD, ↓xE, ↓xF, ↓xG, ↓xH, ↓xI, ↓xJ, ↓xK, ↓xL, ↓xM, ↓xN, ↓xO, ↓xP, ↓xQ, ↓xR, ↓xS, ↓xT, ↓xU, ↓xV, ↓xW, ↓xX, ↓xY, ↓xZ, ↓qb, ↓qc, ↓qd, ↓qf, ↓qg, ↓qh, ↓qi, ↓qj, ↓qk, ↓ql, ↓qm, ↓qo, ↓qp, ↓qr, ↓qt, ↓qu, ↓qv, ↓qw, ↓qz, ↓qA, ↓qB, ↓qC, ↓qE, ↓qF, ↓qG, ↓qH, ↓qI, ↓qJ, ↓qL, ↓qM, ↓qN, ↓qO, ↓qP, ↓qQ, ↓qR, ↓qS, ↓qT, ↓qU, ↓qV, ↓qW, ↓qX, ↓qY, ↓qZ, ↓vf, ↓vg, ↓vh, ↓vi, ↓vj, ↓vk, ↓vl, ↓vm, ↓vo, ↓vp, ↓vq, ↓vt, ↓vu, ↓vw, vz, v6, ↓v7, ↓v8, ↓v9, ↓vA, ↓vB, ↓vC, ↓vD, ↓vE, ↓vF, ↓vG, ↓vH, ↓vI, ↓vJ, ↓vK, ↓vL, ↓vM, ↓vN, ↓vO, dLt, dLe, dGt, dGe, vP, vQ, vR, vS, vT, dI2, vU, vV, dEq, dNe, vW, vX, vY, vZ, ja, jb, jc, jd, je, jf, Option.some.injEq, jg, jh, ji, jk, jl, dIs, jm, jn, shs, kiC, jo, jp, obD, id_eq, List.getElem?_cons_zero, List.getElem?_cons_succ, List.set_cons_zero, List.set_cons_succ, List.length_cons, List.length_nil, D.bl.injEq, exists_eq_left', decide_eq_true_eq, decide_eq_false_iff_not, Bool.not_eq_true', Bool.not_eq_false', Nat.zero_add, Nat.reduceAdd, true_and, and_true, forall_const, reduceCtorEq, not_true_eq_false, not_false_eq_true, false_implies, true_implies, implies_true, jq, Nat.reduceLeDiff, Int.reduceLE, Int.reduceLT, Int.reduceNeg, Int.reducePow, Int.reduceAdd, Int.reduceSub, Int.reduceMul, List.length_map]
      refine ⟨by omega, rfl, ?_⟩
      refine facts_lc (ρ := [_, _, _, _, _, _, _, .no]) (P := fun s => 0 ≤ s ∧ s < n) (fun f hf Kt ht => ?_) fun r1 hr1 hP1 => ?_
      · simp only [↓za, ↓zb, ↓zc, ↓zd, ↓ze, ↓zf, ↓zg, ↓zh, ↓zi, ↓zj, ↓zk, ↓zl, ↓zm, ↓zn, ↓zo, ↓zp, ↓zq, ↓zr, ↓zt, ↓zu, ↓zv, ↓zw, ↓zx, zy, zz, ↓z3, ↓z7, ↓z8, ↓z9, ↓zA, ↓zB, ↓zC, ↓zD, ↓zE, ↓zF, ↓zG, ↓zH, ↓zI, ↓zJ, ↓zK, ↓zL, ↓zM, ↓zN, ↓zO, ↓zP, ↓zQ, ↓zR, ↓zS, ↓zT, ↓zU, ↓zV, ↓zW, ↓zX, ↓zY, ↓zZ, ↓xf, ↓xg, ↓xh, ↓xi, ↓xj, ↓xk, ↓xl, ↓xm, ↓xq, xt, ↓xu, ↓xw, ↓xy, ↓xz, ↓x5, ↓x6, ↓x7, ↓x8, ↓x9, ↓xB, ↓xD, ↓xE, ↓xF, ↓xG, ↓xH, ↓xI, ↓xJ, ↓xK, ↓xL, ↓xM, ↓xN, ↓xO, ↓xP, ↓xQ, ↓xR, ↓xS, ↓xT, ↓xU, ↓xV, ↓xW, ↓xX, ↓xY, ↓xZ, ↓qb, ↓qc, ↓qd, ↓qf, ↓qg, ↓qh, ↓qi, ↓qj, ↓qk, ↓ql, ↓qm, ↓qo, ↓qp, ↓qr, ↓qt, ↓qu, ↓qv, ↓qw, ↓qz, ↓qA, ↓qB, ↓qC, ↓qE, ↓qF, ↓qG, ↓qH, ↓qI, ↓qJ, ↓qL, ↓qM, ↓qN, ↓qO, ↓qP, ↓qQ, ↓qR, ↓qS, ↓qT, ↓qU, ↓qV, ↓qW, ↓qX, ↓qY, ↓qZ, ↓vf, ↓vg, ↓vh, ↓vi, ↓vj, ↓vk, ↓vl, ↓vm, ↓vo, ↓vp, ↓vq, ↓vt, ↓vu, ↓vw, vz, v6, ↓v7, ↓v8, ↓v9, ↓vA, ↓vB, ↓vC, ↓vD, ↓vE, ↓vF, ↓vG, ↓vH, ↓vI, ↓vJ, ↓vK, ↓vL, ↓vM, ↓vN, ↓vO, dLt, dLe, dGt, dGe, vP, vQ, vR, vS, vT, dI2, vU, vV, dEq, dNe, vW, vX, vY, vZ, ja, jb, jc, jd, je, jf, Option.some.injEq, jg, jh, ji, jk, jl, dIs, jm, jn, shs, kiC, jo, jp, obD, id_eq, List.getElem?_cons_zero, List.getElem?_cons_succ, List.set_cons_zero, List.set_cons_succ, List.length_cons, List.length_nil, D.bl.injEq, exists_eq_left', decide_eq_true_eq, decide_eq_false_iff_not, Bool.not_eq_true', Bool.not_eq_false', Nat.zero_add, Nat.reduceAdd, true_and, and_true, forall_const, reduceCtorEq, not_true_eq_false, not_false_eq_true, false_implies, true_implies, implies_true, jq, Nat.reduceLeDiff, Int.reduceLE, Int.reduceLT, Int.reduceNeg, Int.reducePow, Int.reduceAdd, Int.reduceSub, Int.reduceMul, wipeD, List.reverse_cons, List.reverse_nil, List.nil_append, noOwnB, List.all_cons, List.all_nil, Bool.and_true, Bool.true_and, wf__law_draw]
        intro z z0 z1
        exact ⟨by omega, ht _ ⟨Int.emod_nonneg _ (by omega), Int.emod_lt_of_pos _ (by omega)⟩⟩
      · simp only [↓za, ↓zb, ↓zc, ↓zd, ↓ze, ↓zf, ↓zg, ↓zh, ↓zi, ↓zj, ↓zk, ↓zl, ↓zm, ↓zn, ↓zo, ↓zp, ↓zq, ↓zr, ↓zt, ↓zu, ↓zv, ↓zw, ↓zx, zy, zz, ↓z3, ↓z7, ↓z8, ↓z9, ↓zA, ↓zB, ↓zC, ↓zD, ↓zE, ↓zF, ↓zG, ↓zH, ↓zI, ↓zJ, ↓zK, ↓zL, ↓zM, ↓zN, ↓zO, ↓zP, ↓zQ, ↓zR, ↓zS, ↓zT, ↓zU, ↓zV, ↓zW, ↓zX, ↓zY, ↓zZ, ↓xf, ↓xg, ↓xh, ↓xi, ↓xj, ↓xk, ↓xl, ↓xm, ↓xq, xt, ↓xu, ↓xw, ↓xy, ↓xz, ↓x5, ↓x6, ↓x7, ↓x8, ↓x9, ↓xB, ↓xD, ↓xE, ↓xF, ↓xG, ↓xH, ↓xI, ↓xJ, ↓xK, ↓xL, ↓xM, ↓xN, ↓xO, ↓xP, ↓xQ, ↓xR, ↓xS, ↓xT, ↓xU, ↓xV, ↓xW, ↓xX, ↓xY, ↓xZ, ↓qb, ↓qc, ↓qd, ↓qf, ↓qg, ↓qh, ↓qi, ↓qj, ↓qk, ↓ql, ↓qm, ↓qo, ↓qp, ↓qr, ↓qt, ↓qu, ↓qv, ↓qw, ↓qz, ↓qA, ↓qB, ↓qC, ↓qE, ↓qF, ↓qG, ↓qH, ↓qI, ↓qJ, ↓qL, ↓qM, ↓qN, ↓qO, ↓qP, ↓qQ, ↓qR, ↓qS, ↓qT, ↓qU, ↓qV, ↓qW, ↓qX, ↓qY, ↓qZ, ↓vf, ↓vg, ↓vh, ↓vi, ↓vj, ↓vk, ↓vl, ↓vm, ↓vo, ↓vp, ↓vq, ↓vt, ↓vu, ↓vw, vz, v6, ↓v7, ↓v8, ↓v9, ↓vA, ↓vB, ↓vC, ↓vD, ↓vE, ↓vF, ↓vG, ↓vH, ↓vI, ↓vJ, ↓vK, ↓vL, ↓vM, ↓vN, ↓vO, dLt, dLe, dGt, dGe, vP, vQ, vR, vS, vT, dI2, vU, vV, dEq, dNe, vW, vX, vY, vZ, ja, jb, jc, jd, je, jf, Option.some.injEq, jg, jh, ji, jk, jl, dIs, jm, jn, shs, kiC, jo, jp, obD, id_eq, List.getElem?_cons_zero, List.getElem?_cons_succ, List.set_cons_zero, List.set_cons_succ, List.length_cons, List.length_nil, D.bl.injEq, exists_eq_left', decide_eq_true_eq, decide_eq_false_iff_not, Bool.not_eq_true', Bool.not_eq_false', Nat.zero_add, Nat.reduceAdd, true_and, and_true, forall_const, reduceCtorEq, not_true_eq_false, not_false_eq_true, false_implies, true_implies, implies_true, jq, Nat.reduceLeDiff, Int.reduceLE, Int.reduceLT, Int.reduceNeg, Int.reducePow, Int.reduceAdd, Int.reduceSub, Int.reduceMul, wipeD, List.reverse_cons, List.reverse_nil, List.nil_append, noOwnB, List.all_cons, List.all_nil, Bool.and_true, Bool.true_and]
        refine dDict_row nd hr1 ?_
        simp only [↓za, ↓zb, ↓zc, ↓zd, ↓ze, ↓zf, ↓zg, ↓zh, ↓zi, ↓zj, ↓zk, ↓zl, ↓zm, ↓zn, ↓zo, ↓zp, ↓zq, ↓zr, ↓zt, ↓zu, ↓zv, ↓zw, ↓zx, zy, zz, ↓z3, ↓z7, ↓z8, ↓z9, ↓zA, ↓zB, ↓zC, ↓zD, ↓zE, ↓zF, ↓zG, ↓zH, ↓zI, ↓zJ, ↓zK, ↓zL, ↓zM, ↓zN, ↓zO, ↓zP, ↓zQ, ↓zR, ↓zS, ↓zT, ↓zU, ↓zV, ↓zW, ↓zX, ↓zY, ↓zZ, ↓xf, ↓xg, ↓xh, ↓xi, ↓xj, ↓xk, ↓xl, ↓xm, ↓xq, xt, ↓xu, ↓xw, ↓xy, ↓xz, ↓x5, ↓x6, ↓x7, ↓x8, ↓x9, ↓xB, ↓xD, ↓xE, ↓xF, ↓xG, ↓xH, ↓xI, ↓xJ, ↓xK, ↓xL, ↓xM, ↓xN, ↓xO, ↓xP, ↓xQ, ↓xR, ↓xS, ↓xT, ↓xU, ↓xV, ↓xW, ↓xX, ↓xY, ↓xZ, ↓qb, ↓qc, ↓qd, ↓qf, ↓qg, ↓qh, ↓qi, ↓qj, ↓qk, ↓ql, ↓qm, ↓qo, ↓qp, ↓qr, ↓qt, ↓qu, ↓qv, ↓qw, ↓qz, ↓qA, ↓qB, ↓qC, ↓qE, ↓qF, ↓qG, ↓qH, ↓qI, ↓qJ, ↓qL, ↓qM, ↓qN, ↓qO, ↓qP, ↓qQ, ↓qR, ↓qS, ↓qT, ↓qU, ↓qV, ↓qW, ↓qX, ↓qY, ↓qZ, ↓vf, ↓vg, ↓vh, ↓vi, ↓vj, ↓vk, ↓vl, ↓vm, ↓vo, ↓vp, ↓vq, ↓vt, ↓vu, ↓vw, vz, v6, ↓v7, ↓v8, ↓v9, ↓vA, ↓vB, ↓vC, ↓vD, ↓vE, ↓vF, ↓vG, ↓vH, ↓vI, ↓vJ, ↓vK, ↓vL, ↓vM, ↓vN, ↓vO, dLt, dLe, dGt, dGe, vP, vQ, vR, vS, vT, dI2, vU, vV, dEq, dNe, vW, vX, vY, vZ, ja, jb, jc, jd, je, jf, Option.some.injEq, jg, jh, ji, jk, jl, dIs, jm, jn, shs, kiC, jo, jp, obD, id_eq, List.getElem?_cons_zero, List.getElem?_cons_succ, List.set_cons_zero, List.set_cons_succ, List.length_cons, List.length_nil, D.bl.injEq, exists_eq_left', decide_eq_true_eq, decide_eq_false_iff_not, Bool.not_eq_true', Bool.not_eq_false', Nat.zero_add, Nat.reduceAdd, true_and, and_true, forall_const, reduceCtorEq, not_true_eq_false, not_false_eq_true, false_implies, true_implies, implies_true, jq, Nat.reduceLeDiff, Int.reduceLE, Int.reduceLT, Int.reduceNeg, Int.reducePow, Int.reduceAdd, Int.reduceSub, Int.reduceMul, rowsOf, List.length_map]
        refine ⟨by omega, ?_⟩
        simp only [w__law_machine_t1, ↓za, ↓zb, ↓zc, ↓zd, ↓ze, ↓zf, ↓zg, ↓zh, ↓zi, ↓zj, ↓zk, ↓zl, ↓zm, ↓zn, ↓zo, ↓zp, ↓zq, ↓zr, ↓zt, ↓zu, ↓zv, ↓zw, ↓zx, zy, zz, ↓z3, ↓z7, ↓z8, ↓z9, ↓zA, ↓zB, ↓zC, ↓zD, ↓zE, ↓zF, ↓zG, ↓zH, ↓zI, ↓zJ, ↓zK, ↓zL, ↓zM, ↓zN, ↓zO, ↓zP, ↓zQ, ↓zR, ↓zS, ↓zT, ↓zU, ↓zV, ↓zW, ↓zX, ↓zY, ↓zZ, ↓xf, ↓xg, ↓xh, ↓xi, ↓xj, ↓xk, ↓xl, ↓xm, ↓xq, xt, ↓xu, ↓xw, ↓xy, ↓xz, ↓x5, ↓x6, ↓x7, ↓x8, ↓x9, ↓xB, ↓xD, ↓xE, ↓xF, ↓xG, ↓xH, ↓xI, ↓xJ, ↓xK, ↓xL, ↓xM, ↓xN, ↓xO, ↓xP, ↓xQ, ↓xR, ↓xS, ↓xT, ↓xU, ↓xV, ↓xW, ↓xX, ↓xY, ↓xZ, ↓qb, ↓qc, ↓qd, ↓qf, ↓qg, ↓qh, ↓qi, ↓qj, ↓qk, ↓ql, ↓qm, ↓qo, ↓qp, ↓qr, ↓qt, ↓qu, ↓qv, ↓qw, ↓qz, ↓qA, ↓qB, ↓qC, ↓qE, ↓qF, ↓qG, ↓qH, ↓qI, ↓qJ, ↓qL, ↓qM, ↓qN, ↓qO, ↓qP, ↓qQ, ↓qR, ↓qS, ↓qT, ↓qU, ↓qV, ↓qW, ↓qX, ↓qY, ↓qZ, ↓vf, ↓vg, ↓vh, ↓vi, ↓vj, ↓vk, ↓vl, ↓vm, ↓vo, ↓vp, ↓vq, ↓vt, ↓vu, ↓vw, vz, v6, ↓v7, ↓v8, ↓v9, ↓vA, ↓vB, ↓vC, ↓vD, ↓vE, ↓vF, ↓vG, ↓vH, ↓vI, ↓vJ, ↓vK, ↓vL, ↓vM, ↓vN, ↓vO, dLt, dLe, dGt, dGe, vP, vQ, vR, vS, vT, dI2, vU, vV, dEq, dNe, vW, vX, vY, vZ, ja, jb, jc, jd, je, jf, Option.some.injEq, jg, jh, ji, jk, jl, dIs, jm, jn, shs, kiC, jo, jp, obD, id_eq, List.getElem?_cons_zero, List.getElem?_cons_succ, List.set_cons_zero, List.set_cons_succ, List.length_cons, List.length_nil, D.bl.injEq, exists_eq_left', decide_eq_true_eq, decide_eq_false_iff_not, Bool.not_eq_true', Bool.not_eq_false', Nat.zero_add, Nat.reduceAdd, true_and, and_true, forall_const, reduceCtorEq, not_true_eq_false, not_false_eq_true, false_implies, true_implies, implies_true, jq, Nat.reduceLeDiff, Int.reduceLE, Int.reduceLT, Int.reduceNeg, Int.reducePow, Int.reduceAdd, Int.reduceSub, Int.reduceMul, List.length_map]
        refine ⟨by omega, rfl, ?_⟩
        refine facts_lc (ρ := [_, _, _, _, _, _, _, .no]) (P := fun s => -10 ≤ s ∧ s ≤ 10) (fun f hf Kt ht => ?_) fun r2 hr2 hP2 => ?_
        · simp only [↓za, ↓zb, ↓zc, ↓zd, ↓ze, ↓zf, ↓zg, ↓zh, ↓zi, ↓zj, ↓zk, ↓zl, ↓zm, ↓zn, ↓zo, ↓zp, ↓zq, ↓zr, ↓zt, ↓zu, ↓zv, ↓zw, ↓zx, zy, zz, ↓z3, ↓z7, ↓z8, ↓z9, ↓zA, ↓zB, ↓zC, ↓zD, ↓zE, ↓zF, ↓zG, ↓zH, ↓zI, ↓zJ, ↓zK, ↓zL, ↓zM, ↓zN, ↓zO, ↓zP, ↓zQ, ↓zR, ↓zS, ↓zT, ↓zU, ↓zV, ↓zW, ↓zX, ↓zY, ↓zZ, ↓xf, ↓xg, ↓xh, ↓xi, ↓xj, ↓xk, ↓xl, ↓xm, ↓xq, xt, ↓xu, ↓xw, ↓xy, ↓xz, ↓x5, ↓x6, ↓x7, ↓x8, ↓x9, ↓xB, ↓xD, ↓xE, ↓xF, ↓xG, ↓xH, ↓xI, ↓xJ, ↓xK, ↓xL, ↓xM, ↓xN, ↓xO, ↓xP, ↓xQ, ↓xR, ↓xS, ↓xT, ↓xU, ↓xV, ↓xW, ↓xX, ↓xY, ↓xZ, ↓qb, ↓qc, ↓qd, ↓qf, ↓qg, ↓qh, ↓qi, ↓qj, ↓qk, ↓ql, ↓qm, ↓qo, ↓qp, ↓qr, ↓qt, ↓qu, ↓qv, ↓qw, ↓qz, ↓qA, ↓qB, ↓qC, ↓qE, ↓qF, ↓qG, ↓qH, ↓qI, ↓qJ, ↓qL, ↓qM, ↓qN, ↓qO, ↓qP, ↓qQ, ↓qR, ↓qS, ↓qT, ↓qU, ↓qV, ↓qW, ↓qX, ↓qY, ↓qZ, ↓vf, ↓vg, ↓vh, ↓vi, ↓vj, ↓vk, ↓vl, ↓vm, ↓vo, ↓vp, ↓vq, ↓vt, ↓vu, ↓vw, vz, v6, ↓v7, ↓v8, ↓v9, ↓vA, ↓vB, ↓vC, ↓vD, ↓vE, ↓vF, ↓vG, ↓vH, ↓vI, ↓vJ, ↓vK, ↓vL, ↓vM, ↓vN, ↓vO, dLt, dLe, dGt, dGe, vP, vQ, vR, vS, vT, dI2, vU, vV, dEq, dNe, vW, vX, vY, vZ, ja, jb, jc, jd, je, jf, Option.some.injEq, jg, jh, ji, jk, jl, dIs, jm, jn, shs, kiC, jo, jp, obD, id_eq, List.getElem?_cons_zero, List.getElem?_cons_succ, List.set_cons_zero, List.set_cons_succ, List.length_cons, List.length_nil, D.bl.injEq, exists_eq_left', decide_eq_true_eq, decide_eq_false_iff_not, Bool.not_eq_true', Bool.not_eq_false', Nat.zero_add, Nat.reduceAdd, true_and, and_true, forall_const, reduceCtorEq, not_true_eq_false, not_false_eq_true, false_implies, true_implies, implies_true, jq, Nat.reduceLeDiff, Int.reduceLE, Int.reduceLT, Int.reduceNeg, Int.reducePow, Int.reduceAdd, Int.reduceSub, Int.reduceMul, wipeD, List.reverse_cons, List.reverse_nil, List.nil_append, noOwnB, List.all_cons, List.all_nil, Bool.and_true, Bool.true_and, wf__law_draw]
          intro z z0 z1
          obtain ⟨d, hd, e⟩ := atI_mem (l := [D.int 0, .int 0, .int 1, .int 2, .int (-1), .int (-2), .int 3]) z0 z1
          refine ⟨d, e, ?_⟩
          have hh : ∃ v : Int, d = .int v ∧ -10 ≤ v ∧ v ≤ 10 := by
            simp only [List.mem_cons, List.not_mem_nil, or_false] at hd
            rcases hd with rfl | rfl | rfl | rfl | rfl | rfl | rfl <;> exact ⟨_, rfl, by decide⟩
          obtain ⟨v, rfl, hv⟩ := hh
          exact ht v hv
        · simp only [↓za, ↓zb, ↓zc, ↓zd, ↓ze, ↓zf, ↓zg, ↓zh, ↓zi, ↓zj, ↓zk, ↓zl, ↓zm, ↓zn, ↓zo, ↓zp, ↓zq, ↓zr, ↓zt, ↓zu, ↓zv, ↓zw, ↓zx, zy, zz, ↓z3, ↓z7, ↓z8, ↓z9, ↓zA, ↓zB, ↓zC, ↓zD, ↓zE, ↓zF, ↓zG, ↓zH, ↓zI, ↓zJ, ↓zK, ↓zL, ↓zM, ↓zN, ↓zO, ↓zP, ↓zQ, ↓zR, ↓zS, ↓zT, ↓zU, ↓zV, ↓zW, ↓zX, ↓zY, ↓zZ, ↓xf, ↓xg, ↓xh, ↓xi, ↓xj, ↓xk, ↓xl, ↓xm, ↓xq, xt, ↓xu, ↓xw, ↓xy, ↓xz, ↓x5, ↓x6, ↓x7, ↓x8, ↓x9, ↓xB, ↓xD, ↓xE, ↓xF, ↓xG, ↓xH, ↓xI, ↓xJ, ↓xK, ↓xL, ↓xM, ↓xN, ↓xO, ↓xP, ↓xQ, ↓xR, ↓xS, ↓xT, ↓xU, ↓xV, ↓xW, ↓xX, ↓xY, ↓xZ, ↓qb, ↓qc, ↓qd, ↓qf, ↓qg, ↓qh, ↓qi, ↓qj, ↓qk, ↓ql, ↓qm, ↓qo, ↓qp, ↓qr, ↓qt, ↓qu, ↓qv, ↓qw, ↓qz, ↓qA, ↓qB, ↓qC, ↓qE, ↓qF, ↓qG, ↓qH, ↓qI, ↓qJ, ↓qL, ↓qM, ↓qN, ↓qO, ↓qP, ↓qQ, ↓qR, ↓qS, ↓qT, ↓qU, ↓qV, ↓qW, ↓qX, ↓qY, ↓qZ, ↓vf, ↓vg, ↓vh, ↓vi, ↓vj, ↓vk, ↓vl, ↓vm, ↓vo, ↓vp, ↓vq, ↓vt, ↓vu, ↓vw, vz, v6, ↓v7, ↓v8, ↓v9, ↓vA, ↓vB, ↓vC, ↓vD, ↓vE, ↓vF, ↓vG, ↓vH, ↓vI, ↓vJ, ↓vK, ↓vL, ↓vM, ↓vN, ↓vO, dLt, dLe, dGt, dGe, vP, vQ, vR, vS, vT, dI2, vU, vV, dEq, dNe, vW, vX, vY, vZ, ja, jb, jc, jd, je, jf, Option.some.injEq, jg, jh, ji, jk, jl, dIs, jm, jn, shs, kiC, jo, jp, obD, id_eq, List.getElem?_cons_zero, List.getElem?_cons_succ, List.set_cons_zero, List.set_cons_succ, List.length_cons, List.length_nil, D.bl.injEq, exists_eq_left', decide_eq_true_eq, decide_eq_false_iff_not, Bool.not_eq_true', Bool.not_eq_false', Nat.zero_add, Nat.reduceAdd, true_and, and_true, forall_const, reduceCtorEq, not_true_eq_false, not_false_eq_true, false_implies, true_implies, implies_true, jq, Nat.reduceLeDiff, Int.reduceLE, Int.reduceLT, Int.reduceNeg, Int.reducePow, Int.reduceAdd, Int.reduceSub, Int.reduceMul, wipeD, List.reverse_cons, List.reverse_nil, List.nil_append, noOwnB, List.all_cons, List.all_nil, Bool.and_true, Bool.true_and]
          refine dDict_row nd hr2 ?_
          simp only [↓za, ↓zb, ↓zc, ↓zd, ↓ze, ↓zf, ↓zg, ↓zh, ↓zi, ↓zj, ↓zk, ↓zl, ↓zm, ↓zn, ↓zo, ↓zp, ↓zq, ↓zr, ↓zt, ↓zu, ↓zv, ↓zw, ↓zx, zy, zz, ↓z3, ↓z7, ↓z8, ↓z9, ↓zA, ↓zB, ↓zC, ↓zD, ↓zE, ↓zF, ↓zG, ↓zH, ↓zI, ↓zJ, ↓zK, ↓zL, ↓zM, ↓zN, ↓zO, ↓zP, ↓zQ, ↓zR, ↓zS, ↓zT, ↓zU, ↓zV, ↓zW, ↓zX, ↓zY, ↓zZ, ↓xf, ↓xg, ↓xh, ↓xi, ↓xj, ↓xk, ↓xl, ↓xm, ↓xq, xt, ↓xu, ↓xw, ↓xy, ↓xz, ↓x5, ↓x6, ↓x7, ↓x8, ↓x9, ↓xB, ↓xD, ↓xE, ↓xF, ↓xG, ↓xH, ↓xI, ↓xJ, ↓xK, ↓xL, ↓xM, ↓xN, ↓xO, ↓xP, ↓xQ, ↓xR, ↓xS, ↓xT, ↓xU, ↓xV, ↓xW, ↓xX, ↓xY, ↓xZ, ↓qb, ↓qc, ↓qd, ↓qf, ↓qg, ↓qh, ↓qi, ↓qj, ↓qk, ↓ql, ↓qm, ↓qo, ↓qp, ↓qr, ↓qt, ↓qu, ↓qv, ↓qw, ↓qz, ↓qA, ↓qB, ↓qC, ↓qE, ↓qF, ↓qG, ↓qH, ↓qI, ↓qJ, ↓qL, ↓qM, ↓qN, ↓qO, ↓qP, ↓qQ, ↓qR, ↓qS, ↓qT, ↓qU, ↓qV, ↓qW, ↓qX, ↓qY, ↓qZ, ↓vf, ↓vg, ↓vh, ↓vi, ↓vj, ↓vk, ↓vl, ↓vm, ↓vo, ↓vp, ↓vq, ↓vt, ↓vu, ↓vw, vz, v6, ↓v7, ↓v8, ↓v9, ↓vA, ↓vB, ↓vC, ↓vD, ↓vE, ↓vF, ↓vG, ↓vH, ↓vI, ↓vJ, ↓vK, ↓vL, ↓vM, ↓vN, ↓vO, dLt, dLe, dGt, dGe, vP, vQ, vR, vS, vT, dI2, vU, vV, dEq, dNe, vW, vX, vY, vZ, ja, jb, jc, jd, je, jf, Option.some.injEq, jg, jh, ji, jk, jl, dIs, jm, jn, shs, kiC, jo, jp, obD, id_eq, List.getElem?_cons_zero, List.getElem?_cons_succ, List.set_cons_zero, List.set_cons_succ, List.length_cons, List.length_nil, D.bl.injEq, exists_eq_left', decide_eq_true_eq, decide_eq_false_iff_not, Bool.not_eq_true', Bool.not_eq_false', Nat.zero_add, Nat.reduceAdd, true_and, and_true, forall_const, reduceCtorEq, not_true_eq_false, not_false_eq_true, false_implies, true_implies, implies_true, jq, Nat.reduceLeDiff, Int.reduceLE, Int.reduceLT, Int.reduceNeg, Int.reducePow, Int.reduceAdd, Int.reduceSub, Int.reduceMul, List.length_map]
          refine ⟨by omega, ?_⟩
          refine hC _ ⟨sr ++ [r1], gr ++ [r2], .sh d, .inr ⟨d, rfl⟩, by simp [rowsOf], by simp; omega, by simp [hgl], fun r hr => ?_, fun r hr => ?_⟩
          · rcases List.mem_append.mp hr with hr | hr
            · exact hs r hr
            · rw [List.mem_singleton.mp hr]; exact ⟨hr1, hP1⟩
          · rcases List.mem_append.mp hr with hr | hr
            · exact hg r hr
            · rw [List.mem_singleton.mp hr]; exact ⟨hr2, hP2⟩
    · rintro ρ ⟨sr, gr, s6, h6, rfl, hl, hgl, hs, hg⟩
      simp only [w__law_machine_t2, ↓za, ↓zb, ↓zc, ↓zd, ↓ze, ↓zf, ↓zg, ↓zh, ↓zi, ↓zj, ↓zk, ↓zl, ↓zm, ↓zn, ↓zo, ↓zp, ↓zq, ↓zr, ↓zt, ↓zu, ↓zv, ↓zw, ↓zx, zy, zz, ↓z3, ↓z7, ↓z8, ↓z9, ↓zA, ↓zB, ↓zC, ↓zD, ↓zE, ↓zF, ↓zG, ↓zH, ↓zI, ↓zJ, ↓zK, ↓zL, ↓zM, ↓zN, ↓zO, ↓zP, ↓zQ, ↓zR, ↓zS, ↓zT, ↓zU, ↓zV, ↓zW, ↓zX, ↓zY, ↓zZ, ↓xf, ↓xg, ↓xh, ↓xi, ↓xj, ↓xk, ↓xl, ↓xm, ↓xq, xt, ↓xu, ↓xw, ↓xy, ↓xz, ↓x5, ↓x6, ↓x7, ↓x8, ↓x9, ↓xB, ↓xD, ↓xE, ↓xF, ↓xG, ↓xH, ↓xI, ↓xJ, ↓xK, ↓xL, ↓xM, ↓xN, ↓xO, ↓xP, ↓xQ, ↓xR, ↓xS, ↓xT, ↓xU, ↓xV, ↓xW, ↓xX, ↓xY, ↓xZ, ↓qb, ↓qc, ↓qd, ↓qf, ↓qg, ↓qh, ↓qi, ↓qj, ↓qk, ↓ql, ↓qm, ↓qo, ↓qp, ↓qr, ↓qt, ↓qu, ↓qv, ↓qw, ↓qz, ↓qA, ↓qB, ↓qC, ↓qE, ↓qF, ↓qG, ↓qH, ↓qI, ↓qJ, ↓qL, ↓qM, ↓qN, ↓qO, ↓qP, ↓qQ, ↓qR, ↓qS, ↓qT, ↓qU, ↓qV, ↓qW, ↓qX, ↓qY, ↓qZ, ↓vf, ↓vg, ↓vh, ↓vi, ↓vj, ↓vk, ↓vl, ↓vm, ↓vo, ↓vp, ↓vq, ↓vt, ↓vu, ↓vw, vz, v6, ↓v7, ↓v8, ↓v9, ↓vA, ↓vB, ↓vC, ↓vD, ↓vE, ↓vF, ↓vG, ↓vH, ↓vI, ↓vJ, ↓vK, ↓vL, ↓vM, ↓vN, ↓vO, dLt, dLe, dGt, dGe, vP, vQ, vR, vS, vT, dI2, vU, vV, dEq, dNe, vW, vX, vY, vZ, ja, jb, jc, jd, je, jf, Option.some.injEq, jg, jh, ji, jk, jl, dIs, jm, jn, shs, kiC, jo, jp, obD, id_eq, List.getElem?_cons_zero, List.getElem?_cons_succ, List.set_cons_zero, List.set_cons_succ, List.length_cons, List.length_nil, D.bl.injEq, exists_eq_left', decide_eq_true_eq, decide_eq_false_iff_not, Bool.not_eq_true', Bool.not_eq_false', Nat.zero_add, Nat.reduceAdd, true_and, and_true, forall_const, reduceCtorEq, not_true_eq_false, not_false_eq_true, false_implies, true_implies, implies_true, jq, Nat.reduceLeDiff, Int.reduceLE, Int.reduceLT, Int.reduceNeg, Int.reducePow, Int.reduceAdd, Int.reduceSub, Int.reduceMul]
      have e6 : noOwnB [Sl.bx, Sl.sh (D.lst (List.map D.str fs)), Sl.sh (D.int most), Sl.sh (D.int n), Sl.sh (D.lst (rowsOf fs sr)), Sl.sh (D.lst (rowsOf fs gr)), s6, Sl.no] [6] = true := by
        rcases h6 with rfl | ⟨d, rfl⟩ <;> rfl
      refine ⟨by omega, by rw [rangeD_length]; omega, e6, ?_⟩
      rw [List.length_nil, Nat.add_zero] at hl
      refine wLcL_rule (ρ := [.bx, .sh (.lst (fs.map D.str)), .sh (.int most), .sh (.int n), .sh (.lst (rowsOf fs sr)), .sh (.lst (rowsOf fs gr)), .no, .no]) (fun d => True) (fun _ o => ∃ y, o = some y ∧ ∃ c : Int, y = .int c ∧ -10 ≤ c ∧ c ≤ 10) ?_ _ _ _ (fun _ _ => trivial) ?_
      · rintro d _ Kt Kf ht hf
        simp only [↓za, ↓zb, ↓zc, ↓zd, ↓ze, ↓zf, ↓zg, ↓zh, ↓zi, ↓zj, ↓zk, ↓zl, ↓zm, ↓zn, ↓zo, ↓zp, ↓zq, ↓zr, ↓zt, ↓zu, ↓zv, ↓zw, ↓zx, zy, zz, ↓z3, ↓z7, ↓z8, ↓z9, ↓zA, ↓zB, ↓zC, ↓zD, ↓zE, ↓zF, ↓zG, ↓zH, ↓zI, ↓zJ, ↓zK, ↓zL, ↓zM, ↓zN, ↓zO, ↓zP, ↓zQ, ↓zR, ↓zS, ↓zT, ↓zU, ↓zV, ↓zW, ↓zX, ↓zY, ↓zZ, ↓xf, ↓xg, ↓xh, ↓xi, ↓xj, ↓xk, ↓xl, ↓xm, ↓xq, xt, ↓xu, ↓xw, ↓xy, ↓xz, ↓x5, ↓x6, ↓x7, ↓x8, ↓x9, ↓xB, ↓xD, ↓xE, ↓xF, ↓xG, ↓xH, ↓xI, ↓xJ, ↓xK, ↓xL, ↓xM, ↓xN, ↓xO, ↓xP, ↓xQ, ↓xR, ↓xS, ↓xT, ↓xU, ↓xV, ↓xW, ↓xX, ↓xY, ↓xZ, ↓qb, ↓qc, ↓qd, ↓qf, ↓qg, ↓qh, ↓qi, ↓qj, ↓qk, ↓ql, ↓qm, ↓qo, ↓qp, ↓qr, ↓qt, ↓qu, ↓qv, ↓qw, ↓qz, ↓qA, ↓qB, ↓qC, ↓qE, ↓qF, ↓qG, ↓qH, ↓qI, ↓qJ, ↓qL, ↓qM, ↓qN, ↓qO, ↓qP, ↓qQ, ↓qR, ↓qS, ↓qT, ↓qU, ↓qV, ↓qW, ↓qX, ↓qY, ↓qZ, ↓vf, ↓vg, ↓vh, ↓vi, ↓vj, ↓vk, ↓vl, ↓vm, ↓vo, ↓vp, ↓vq, ↓vt, ↓vu, ↓vw, vz, v6, ↓v7, ↓v8, ↓v9, ↓vA, ↓vB, ↓vC, ↓vD, ↓vE, ↓vF, ↓vG, ↓vH, ↓vI, ↓vJ, ↓vK, ↓vL, ↓vM, ↓vN, ↓vO, dLt, dLe, dGt, dGe, vP, vQ, vR, vS, vT, dI2, vU, vV, dEq, dNe, vW, vX, vY, vZ, ja, jb, jc, jd, je, jf, Option.some.injEq, jg, jh, ji, jk, jl, dIs, jm, jn, shs, kiC, jo, jp, obD, id_eq, List.getElem?_cons_zero, List.getElem?_cons_succ, List.set_cons_zero, List.set_cons_succ, List.length_cons, List.length_nil, D.bl.injEq, exists_eq_left', decide_eq_true_eq, decide_eq_false_iff_not, Bool.not_eq_true', Bool.not_eq_false', Nat.zero_add, Nat.reduceAdd, true_and, and_true, forall_const, reduceCtorEq, not_true_eq_false, not_false_eq_true, false_implies, true_implies, implies_true, jq, Nat.reduceLeDiff, Int.reduceLE, Int.reduceLT, Int.reduceNeg, Int.reducePow, Int.reduceAdd, Int.reduceSub, Int.reduceMul, wipeD, List.reverse_cons, List.reverse_nil, List.nil_append, noOwnB, List.all_cons, List.all_nil, Bool.and_true, Bool.true_and, wf__law_draw]
        intro z z0 z1
        exact ht _ ⟨_, rfl, _, rfl, by omega, by omega⟩
      · intro ys hy
        obtain ⟨y1, y2⟩ := hy.all
        obtain ⟨cs, rfl, c2, c3⟩ := ints_of y2
        rw [rangeD_length] at y1
        rw [List.nil_append]
        refine ⟨rfl, fun x => ⟨rfl, by simp; omega, by simp [rowsOf]; omega, by simp [rowsOf]; omega, by simp; omega, ⟨sr.map (rowOf fs), by simp [rowsOf]⟩, ⟨gr.map (rowOf fs), by simp [rowsOf]⟩, _, rfl, rfl, ?_⟩⟩
        have := q ⟨fs, sr, gr, cs⟩ rfl ⟨nd, f1, f3, by show 1 ≤ cs.length; omega, by show cs.length ≤ most.toNat; omega, by show sr.length = cs.length; omega, by show gr.length = cs.length; omega, fun r hr => ⟨(hs r hr).1, fun s hs' => by
          have := (hs r hr).2 s hs'
          show 0 ≤ s ∧ s < (cs.length : Int)
          omega⟩, hg, c2⟩
        exact this
  · exact h.elim
def wf__law_schemes : WFn
  | [.bx, .sh (.int n)], Q => n = 3 ∧ ∀ (fs : List Str) (ms : List Mach) (pl : PL), goodF fs → (∀ m ∈ ms, m.facts = fs) → SOk ms pl → Q (.lst [.lst (ms.map Mach.dd), plD pl])
  | _, _ => False
theorem len__law_schemes : ∀ as Qd, wf__law_schemes as Qd → as.length = 2 := fun as Qd h => by
  unfold wf__law_schemes at h
  split at h
  · rfl
  · exact h.elim
structure PlI (ms : List Mach) (pl : PL) (i j : Nat) : Prop where
  so : (pl.map (·.1)).Pairwise ltQ
  lt : ∀ e ∈ pl, ltQ e.1 ((i : Int), (j : Int))
  pr : ∀ e ∈ pl, 0 ≤ e.1.1 ∧ e.1.1 < ms.length ∧ 0 ≤ e.1.2 ∧ e.1.2 < ms.length ∧ e.2.ok (nst ms e.1.1) (nst ms e.1.2)
  pc : ∀ e ∈ pl, ∀ g ∈ e.2.cost, -10 ≤ g ∧ g ≤ 10
  ln : pl.length ≤ 3 * i + j
theorem PlI.next {ms : List Mach} {pl : PL} {i j : Nat} (h : PlI ms pl i j) : PlI ms pl i (j + 1) :=
  ⟨h.so, fun e he => by
    rcases h.lt e he with z | ⟨z, y⟩
    · exact .inl z
    · refine .inr ⟨z, ?_⟩
      simp only at y ⊢
      omega, h.pr, h.pc, by have := h.ln; omega⟩
theorem PlI.row {ms : List Mach} {pl : PL} {i j : Nat} (h : PlI ms pl i j) (hj : j ≤ 3) : PlI ms pl (i + 1) 0 :=
  ⟨h.so, fun e he => by
    refine .inl ?_
    rcases h.lt e he with z | ⟨z, y⟩
    · simp only at z ⊢; omega
    · simp only at z ⊢; omega, h.pr, h.pc, by have := h.ln; omega⟩
theorem PlI.add {ms : List Mach} {pl : PL} {i j : Nat} (h : PlI ms pl i j) (hi : i < ms.length) (hj : j < ms.length) {c : Cary} (hc : c.ok (nst ms i) (nst ms j)) (hg : ∀ g ∈ c.cost, -10 ≤ g ∧ g ≤ 10) : PlI ms (pl ++ [(((i : Int), (j : Int)), c)]) i (j + 1) := by
  refine ⟨?_, fun e he => ?_, fun e he => ?_, fun e he => ?_, by have := h.ln; rw [List.length_append, List.length_singleton]; omega⟩
  · rw [List.map_append, List.pairwise_append]
    refine ⟨h.so, by simp, fun a ha b hb => ?_⟩
    obtain ⟨e, he, rfl⟩ := List.mem_map.mp ha
    simp only [List.map_cons, List.map_nil, List.mem_singleton] at hb
    rw [hb]
    exact h.lt e he
  · rcases List.mem_append.mp he with he | he
    · exact h.next.lt e he
    · rw [List.mem_singleton.mp he]
      refine .inr ⟨rfl, ?_⟩
      simp only
      omega
  · rcases List.mem_append.mp he with he | he
    · exact h.pr e he
    · rw [List.mem_singleton.mp he]
      simp only
      exact ⟨by omega, by omega, by omega, by omega, hc⟩
  · rcases List.mem_append.mp he with he | he
    · exact h.pc e he
    · rw [List.mem_singleton.mp he]; exact hg
theorem put_pl {ms : List Mach} {pl : PL} {i j : Nat} (h : PlI ms pl i j) (c : Cary) : putA (pl.map fun e => qK e.1) (pl.map fun e => plE e.2) (qK ((i : Int), (j : Int))) (plE c) = ((pl ++ [(((i : Int), (j : Int)), c)]).map (fun e => qK e.1), (pl ++ [(((i : Int), (j : Int)), c)]).map fun e => plE e.2) := by
  unfold putA
  rw [if_neg (fun z => by
    obtain ⟨e, he, q⟩ := List.mem_map.mp z
    have := h.lt e he
    rw [qK_inj q] at this
    rcases this with y | ⟨_, y⟩ <;> simp only at y <;> omega), List.map_append, List.map_append]; rfl
def w__law_schemes_t1 : WS := (wPut 4 (wTup (waCons (wVar 7) (waCons (wVar 6) waNil))) (wFz (wfLst (waCons (wVar 5) (waCons (wFz (wLc [9] (wItL (wVar 5)) (wSt 9) wYes (wOp vP (wCall wf__law_draw (asBox 0 (asCons (wC (.int 8)) asNil))) (wC (.int 2))))) waNil)))))
def w__law_schemes_t2 : WS := (wRet (wFz (wfLst (waCons (wVar 3) (waCons (wVar 4) waNil)))))
def w__law_schemes_t3 : WS := (wSeq (wFor (wRg1 (waCons (wUn vW (wPk 3)) waNil)) (wSt 7)
 (wFor (wRg1 (waCons (wUn vW (wPk 3)) waNil)) (wSt 6)
 (wIf (wAnd (wTst (wOp dNe (wPk 7) (wPk 6))) (wTst (wOp dGt (wCall wf__law_draw (asBox 0 (asCons (wC (.int 4)) asNil))) (wC (.int 0)))))
 (wSeq (wAsg (wFz (wLc [9] (wItL (wFld "Machine" "leave" (wOp dIx (wPk 3) (wPk 7)))) (wSt 9) wYes (wOp vR (wUn vX (wCall wf__law_draw (asBox 0 (asCons (wC (.int 900)) asNil)))) (wUn vW (wFld "Machine" "leave" (wOp dIx (wPk 3) (wPk 6))))))) (wSt 5))
 w__law_schemes_t1)
 wNext)))
 w__law_schemes_t2)
def w__law_schemes_t4 : WS := (wSeq (wAsgO wfDt 4)
 w__law_schemes_t3)
def w__law_schemes_t5 : WS := (wSeq (wAsg (wFz (wLc [8] (wRg1 (waCons (wOp vV (wC (.int 1)) (wCall wf__law_draw (asBox 0 (asCons (wVar 1) asNil)))) waNil)) (wSt 8) wYes (wCall wf__law_machine (asBox 0 (asCons (wVar 2) (asCons (wC (.int 3)) asNil)))))) (wSt 3))
 w__law_schemes_t4)
def w__law_schemes : WS := (wSeq (wAsg (wCall wf__law_facts (asBox 0 asNil)) (wSt 2))
 w__law_schemes_t5)
theorem p__law_schemes : ∀ as Qd, wf__law_schemes as Qd → w__law_schemes (startD ["_law_box_here", "_law_most", "_law_facts_here", "_law_schemes_here", "_law_plain", "_law_to", "_law_other", "_law_one", "_law_k", "_law_state"] as) { nx := fun _ => Qd .non, rt := fun d _ => Qd d } := fun as Qd h => by
  unfold wf__law_schemes at h
  split at h
  · rename_i n
    obtain ⟨rfl, q⟩ := h
    show w__law_schemes [.bx, .sh (.int 3), .no, .no, .no, .no, .no, .no, .no, .no] _
    simp only [w__law_schemes, ↓za, ↓zb, ↓zc, ↓zd, ↓ze, ↓zf, ↓zg, ↓zh, ↓zi, ↓zj, ↓zk, ↓zl, ↓zm, ↓zn, ↓zo, ↓zp, ↓zq, ↓zr, ↓zt, ↓zu, ↓zv, ↓zw, ↓zx, zy, zz, ↓z3, ↓z7, ↓z8, ↓z9, ↓zA, ↓zB, ↓zC, ↓zD, ↓zE, ↓zF, ↓zG, ↓zH, ↓zI, ↓zJ, ↓zK, ↓zL, ↓zM, ↓zN, ↓zO, ↓zP, ↓zQ, ↓zR, ↓zS, ↓zT, ↓zU, ↓zV, ↓zW, ↓zX, ↓zY, ↓zZ, ↓xf, ↓xg, ↓xh, ↓xi, ↓xj, ↓xk, ↓xl, ↓xm, ↓xq, xt, ↓xu, ↓xw, ↓xy, ↓xz, ↓x5, ↓x6, ↓x7, ↓x8, ↓x9, ↓xB, ↓xD, ↓xE, ↓xF, ↓xG, ↓xH, ↓xI, ↓xJ, ↓xK, ↓xL, ↓xM, ↓xN, ↓xO, ↓xP, ↓xQ, ↓xR, ↓xS, ↓xT, ↓xU, ↓xV, ↓xW, ↓xX, ↓xY, ↓xZ, ↓qb, ↓qc, ↓qd, ↓qf, ↓qg, ↓qh, ↓qi, ↓qj, ↓qk, ↓ql, ↓qm, ↓qo, ↓qp, ↓qr, ↓qt, ↓qu, ↓qv, ↓qw, ↓qz, ↓qA, ↓qB, ↓qC, ↓qE, ↓qF, ↓qG, ↓qH, ↓qI, ↓qJ, ↓qL, ↓qM, ↓qN, ↓qO, ↓qP, ↓qQ, ↓qR, ↓qS, ↓qT, ↓qU, ↓qV, ↓qW, ↓qX, ↓qY, ↓qZ, ↓vf, ↓vg, ↓vh, ↓vi, ↓vj, ↓vk, ↓vl, ↓vm, ↓vo, ↓vp, ↓vq, ↓vt, ↓vu, ↓vw, vz, v6, ↓v7, ↓v8, ↓v9, ↓vA, ↓vB, ↓vC, ↓vD, ↓vE, ↓vF, ↓vG, ↓vH, ↓vI, ↓vJ, ↓vK, ↓vL, ↓vM, ↓vN, ↓vO, dLt, dLe, dGt, dGe, vP, vQ, vR, vS, vT, dI2, vU, vV, dEq, dNe, vW, vX, vY, vZ, ja, jb, jc, jd, je, jf, Option.some.injEq, jg, jh, ji, jk, jl, dIs, jm, jn, shs, kiC, jo, jp, obD, id_eq, List.getElem?_cons_zero, List.getElem?_cons_succ, List.set_cons_zero, List.set_cons_succ, List.length_cons, List.length_nil, D.bl.injEq, exists_eq_left', decide_eq_true_eq, decide_eq_false_iff_not, Bool.not_eq_true', Bool.not_eq_false', Nat.zero_add, Nat.reduceAdd, true_and, and_true, forall_const, reduceCtorEq, not_true_eq_false, not_false_eq_true, false_implies, true_implies, implies_true, jq, Nat.reduceLeDiff, Int.reduceLE, Int.reduceLT, Int.reduceNeg, Int.reducePow, Int.reduceAdd, Int.reduceSub, Int.reduceMul, wf__law_facts]
    intro fs gf
    simp only [w__law_schemes_t5, ↓za, ↓zb, ↓zc, ↓zd, ↓ze, ↓zf, ↓zg, ↓zh, ↓zi, ↓zj, ↓zk, ↓zl, ↓zm, ↓zn, ↓zo, ↓zp, ↓zq, ↓zr, ↓zt, ↓zu, ↓zv, ↓zw, ↓zx, zy, zz, ↓z3, ↓z7, ↓z8, ↓z9, ↓zA, ↓zB, ↓zC, ↓zD, ↓zE, ↓zF, ↓zG, ↓zH, ↓zI, ↓zJ, ↓zK, ↓zL, ↓zM, ↓zN, ↓zO, ↓zP, ↓zQ, ↓zR, ↓zS, ↓zT, ↓zU, ↓zV, ↓zW, ↓zX, ↓zY, ↓zZ, ↓xf, ↓xg, ↓xh, ↓xi, ↓xj, ↓xk, ↓xl, ↓xm, ↓xq, xt, ↓xu, ↓xw, ↓xy, ↓xz, ↓x5, ↓x6, ↓x7, ↓x8, ↓x9, ↓xB, ↓xD, ↓xE, ↓xF, ↓xG, ↓xH, ↓xI, ↓xJ, ↓xK, ↓xL, ↓xM, ↓xN, ↓xO, ↓xP, ↓xQ, ↓xR, ↓xS, ↓xT, ↓xU, ↓xV, ↓xW, ↓xX, ↓xY, ↓xZ, ↓qb, ↓qc, ↓qd, ↓qf, ↓qg, ↓qh, ↓qi, ↓qj, ↓qk, ↓ql, ↓qm, ↓qo, ↓qp, ↓qr, ↓qt, ↓qu, ↓qv, ↓qw, ↓qz, ↓qA, ↓qB, ↓qC, ↓qE, ↓qF, ↓qG, ↓qH, ↓qI, ↓qJ, ↓qL, ↓qM, ↓qN, ↓qO, ↓qP, ↓qQ, ↓qR, ↓qS, ↓qT, ↓qU, ↓qV, ↓qW, ↓qX, ↓qY, ↓qZ, ↓vf, ↓vg, ↓vh, ↓vi, ↓vj, ↓vk, ↓vl, ↓vm, ↓vo, ↓vp, ↓vq, ↓vt, ↓vu, ↓vw, vz, v6, ↓v7, ↓v8, ↓v9, ↓vA, ↓vB, ↓vC, ↓vD, ↓vE, ↓vF, ↓vG, ↓vH, ↓vI, ↓vJ, ↓vK, ↓vL, ↓vM, ↓vN, ↓vO, dLt, dLe, dGt, dGe, vP, vQ, vR, vS, vT, dI2, vU, vV, dEq, dNe, vW, vX, vY, vZ, ja, jb, jc, jd, je, jf, Option.some.injEq, jg, jh, ji, jk, jl, dIs, jm, jn, shs, kiC, jo, jp, obD, id_eq, List.getElem?_cons_zero, List.getElem?_cons_succ, List.set_cons_zero, List.set_cons_succ, List.length_cons, List.length_nil, D.bl.injEq, exists_eq_left', decide_eq_true_eq, decide_eq_false_iff_not, Bool.not_eq_true', Bool.not_eq_false', Nat.zero_add, Nat.reduceAdd, true_and, and_true, forall_const, reduceCtorEq, not_true_eq_false, not_false_eq_true, false_implies, true_implies, implies_true, jq, Nat.reduceLeDiff, Int.reduceLE, Int.reduceLT, Int.reduceNeg, Int.reducePow, Int.reduceAdd, Int.reduceSub, Int.reduceMul, wf__law_draw]
    intro k k0 k1
    refine ⟨by omega, by rw [rangeD_length]; omega, rfl, ?_⟩
    refine wLcL_rule (ρ := [_, _, _, .no, .no, .no, .no, .no, .no, .no]) (fun d => ∃ i : Int, d = .int i) (fun _ o => ∃ m : Mach, o = some m.dd ∧ (m.facts = fs ∧ m.ok 3 10)) ?_ _ _ _ ?_ ?_
    · rintro d ⟨i, rfl⟩ Kt Kf ht hf
      simp only [↓za, ↓zb, ↓zc, ↓zd, ↓ze, ↓zf, ↓zg, ↓zh, ↓zi, ↓zj, ↓zk, ↓zl, ↓zm, ↓zn, ↓zo, ↓zp, ↓zq, ↓zr, ↓zt, ↓zu, ↓zv, ↓zw, ↓zx, zy, zz, ↓z3, ↓z7, ↓z8, ↓z9, ↓zA, ↓zB, ↓zC, ↓zD, ↓zE, ↓zF, ↓zG, ↓zH, ↓zI, ↓zJ, ↓zK, ↓zL, ↓zM, ↓zN, ↓zO, ↓zP, ↓zQ, ↓zR, ↓zS, ↓zT, ↓zU, ↓zV, ↓zW, ↓zX, ↓zY, ↓zZ, ↓xf, ↓xg, ↓xh, ↓xi, ↓xj, ↓xk, ↓xl, ↓xm, ↓xq, xt, ↓xu, ↓xw, ↓xy, ↓xz, ↓x5, ↓x6, ↓x7, ↓x8, ↓x9, ↓xB, ↓xD, ↓xE, ↓xF, ↓xG, ↓xH, ↓xI, ↓xJ, ↓xK, ↓xL, ↓xM, ↓xN, ↓xO, ↓xP, ↓xQ, ↓xR, ↓xS, ↓xT, ↓xU, ↓xV, ↓xW, ↓xX, ↓xY, ↓xZ, ↓qb, ↓qc, ↓qd, ↓qf, ↓qg, ↓qh, ↓qi, ↓qj, ↓qk, ↓ql, ↓qm, ↓qo, ↓qp, ↓qr, ↓qt, ↓qu, ↓qv, ↓qw, ↓qz, ↓qA, ↓qB, ↓qC, ↓qE, ↓qF, ↓qG, ↓qH, ↓qI, ↓qJ, ↓qL, ↓qM, ↓qN, ↓qO, ↓qP, ↓qQ, ↓qR, ↓qS, ↓qT, ↓qU, ↓qV, ↓qW, ↓qX, ↓qY, ↓qZ, ↓vf, ↓vg, ↓vh, ↓vi, ↓vj, ↓vk, ↓vl, ↓vm, ↓vo, ↓vp, ↓vq, ↓vt, ↓vu, ↓vw, vz, v6, ↓v7, ↓v8, ↓v9, ↓vA, ↓vB, ↓vC, ↓vD, ↓vE, ↓vF, ↓vG, ↓vH, ↓vI, ↓vJ, ↓vK, ↓vL, ↓vM, ↓vN, ↓vO, dLt, dLe, dGt, dGe, vP, vQ, vR, vS, vT, dI2, vU, vV, dEq, dNe, vW, vX, vY, vZ, ja, jb, jc, jd, je, jf, Option.some.injEq, jg, jh, ji, jk, jl, dIs, jm, jn, shs, kiC, jo, jp, obD, id_eq, List.getElem?_cons_zero, List.getElem?_cons_succ, List.set_cons_zero, List.set_cons_succ, List.length_cons, List.length_nil, D.bl.injEq, exists_eq_left', decide_eq_true_eq, decide_eq_false_iff_not, Bool.not_eq_true', Bool.not_eq_false', Nat.zero_add, Nat.reduceAdd, true_and, and_true, forall_const, reduceCtorEq, not_true_eq_false, not_false_eq_true, false_implies, true_implies, implies_true, jq, Nat.reduceLeDiff, Int.reduceLE, Int.reduceLT, Int.reduceNeg, Int.reducePow, Int.reduceAdd, Int.reduceSub, Int.reduceMul, wipeD, List.reverse_cons, List.reverse_nil, List.nil_append, noOwnB, List.all_cons, List.all_nil, Bool.and_true, Bool.true_and, wf__law_machine]
      refine ⟨fs, rfl, gf, fun m hm okm => ?_⟩
      exact ht _ ⟨m, rfl, hm, okm⟩
    · intro d hd
      obtain ⟨i, e, _⟩ := rangeD_mem hd
      exact ⟨i, e⟩
    intro ys hy
    obtain ⟨ms, rfl, hl, hm⟩ := outs_map hy
    rw [rangeD_length] at hl
    have hn1 : 1 ≤ ms.length := by omega
    have hn3 : ms.length ≤ 3 := by omega
    clear hl hy
    simp only [w__law_schemes_t4, w__law_schemes_t3, ↓za, ↓zb, ↓zc, ↓zd, ↓ze, ↓zf, ↓zg, ↓zh, ↓zi, ↓zj, ↓zk, ↓zl, ↓zm, ↓zn, ↓zo, ↓zp, ↓zq, ↓zr, ↓zt, ↓zu, ↓zv, ↓zw, ↓zx, zy, zz, ↓z3, ↓z7, ↓z8, ↓z9, ↓zA, ↓zB, ↓zC, ↓zD, ↓zE, ↓zF, ↓zG, ↓zH, ↓zI, ↓zJ, ↓zK, ↓zL, ↓zM, ↓zN, ↓zO, ↓zP, ↓zQ, ↓zR, ↓zS, ↓zT, ↓zU, ↓zV, ↓zW, ↓zX, ↓zY, ↓zZ, ↓xf, ↓xg, ↓xh, ↓xi, ↓xj, ↓xk, ↓xl, ↓xm, ↓xq, xt, ↓xu, ↓xw, ↓xy, ↓xz, ↓x5, ↓x6, ↓x7, ↓x8, ↓x9, ↓xB, ↓xD, ↓xE, ↓xF, ↓xG, ↓xH, ↓xI, ↓xJ, ↓xK, ↓xL, ↓xM, ↓xN, ↓xO, ↓xP, ↓xQ, ↓xR, ↓xS, ↓xT, ↓xU, ↓xV, ↓xW, ↓xX, ↓xY, ↓xZ, ↓qb, ↓qc, ↓qd, ↓qf, ↓qg, ↓qh, ↓qi, ↓qj, ↓qk, ↓ql, ↓qm, ↓qo, ↓qp, ↓qr, ↓qt, ↓qu, ↓qv, ↓qw, ↓qz, ↓qA, ↓qB, ↓qC, ↓qE, ↓qF, ↓qG, ↓qH, ↓qI, ↓qJ, ↓qL, ↓qM, ↓qN, ↓qO, ↓qP, ↓qQ, ↓qR, ↓qS, ↓qT, ↓qU, ↓qV, ↓qW, ↓qX, ↓qY, ↓qZ, ↓vf, ↓vg, ↓vh, ↓vi, ↓vj, ↓vk, ↓vl, ↓vm, ↓vo, ↓vp, ↓vq, ↓vt, ↓vu, ↓vw, vz, v6, ↓v7, ↓v8, ↓v9, ↓vA, ↓vB, ↓vC, ↓vD, ↓vE, ↓vF, ↓vG, ↓vH, ↓vI, ↓vJ, ↓vK, ↓vL, ↓vM, ↓vN, ↓vO, dLt, dLe, dGt, dGe, vP, vQ, vR, vS, vT, dI2, vU, vV, dEq, dNe, vW, vX, vY, vZ, ja, jb, jc, jd, je, jf, Option.some.injEq, jg, jh, ji, jk, jl, dIs, jm, jn, shs, kiC, jo, jp, obD, id_eq, List.getElem?_cons_zero, List.getElem?_cons_succ, List.set_cons_zero, List.set_cons_succ, List.length_cons, List.length_nil, D.bl.injEq, exists_eq_left', decide_eq_true_eq, decide_eq_false_iff_not, Bool.not_eq_true', Bool.not_eq_false', Nat.zero_add, Nat.reduceAdd, true_and, and_true, forall_const, reduceCtorEq, not_true_eq_false, not_false_eq_true, false_implies, true_implies, implies_true, jq, Nat.reduceLeDiff, Int.reduceLE, Int.reduceLT, Int.reduceNeg, Int.reducePow, Int.reduceAdd, Int.reduceSub, Int.reduceMul, wipeD, List.reverse_cons, List.reverse_nil, List.nil_append, noOwnB, List.all_cons, List.all_nil, Bool.and_true, Bool.true_and, List.length_map]
    refine ⟨by omega, ?_⟩
    refine for_nat (fun i ρ => ∃ (pl : PL) (s5 s6 s7 : Sl), PlI ms pl i 0 ∧ ρ = [.bx, .sh (.int 3), .sh (.lst (fs.map D.str)), .sh (.lst (ms.map Mach.dd)), .ot (pl.map fun e => qK e.1) (pl.map fun e => plE e.2), s5, s6, s7, .no, .no]) ?_ ?_ _ ⟨[], .no, .no, .no, ⟨by simp, (fun e h => by cases h), (fun e h => by cases h), (fun e h => by cases h), by simp⟩, rfl⟩
    · rintro i hi ρ ⟨pl, s5, s6, s7, inv, rfl⟩ C hC
      simp only [↓za, ↓zb, ↓zc, ↓zd, ↓ze, ↓zf, ↓zg, ↓zh, ↓zi, ↓zj, ↓zk, ↓zl, ↓zm, ↓zn, ↓zo, ↓zp, ↓zq, ↓zr, ↓zt, ↓zu, ↓zv, ↓zw, ↓zx, zy, zz, ↓z3, ↓z7, ↓z8, ↓z9, ↓zA, ↓zB, ↓zC, ↓zD, ↓zE, ↓zF, ↓zG, ↓zH, ↓zI, ↓zJ, ↓zK, ↓zL, ↓zM, ↓zN, ↓zO, ↓zP, ↓zQ, ↓zR, ↓zS, ↓zT, ↓zU, ↓zV, ↓zW, ↓zX, ↓zY, ↓zZ, ↓xf, ↓xg, ↓xh, ↓xi, ↓xj, ↓xk, ↓xl, ↓xm, ↓xq, xt, ↓xu, ↓xw, ↓xy, ↓xz, ↓x5, ↓x6, ↓x7, ↓x8, ↓x9, ↓xB, ↓xD, ↓xE, ↓xF, ↓xG, ↓xH, ↓xI, ↓xJ, ↓xK, ↓xL, ↓xM, ↓xN, ↓xO, ↓xP, ↓xQ, ↓xR, ↓xS, ↓xT, ↓xU, ↓xV, ↓xW, ↓xX, ↓xY, ↓xZ, ↓qb, ↓qc, ↓qd, ↓qf, ↓qg, ↓qh, ↓qi, ↓qj, ↓qk, ↓ql, ↓qm, ↓qo, ↓qp, ↓qr, ↓qt, ↓qu, ↓qv, ↓qw, ↓qz, ↓qA, ↓qB, ↓qC, ↓qE, ↓qF, ↓qG, ↓qH, ↓qI, ↓qJ, ↓qL, ↓qM, ↓qN, ↓qO, ↓qP, ↓qQ, ↓qR, ↓qS, ↓qT, ↓qU, ↓qV, ↓qW, ↓qX, ↓qY, ↓qZ, ↓vf, ↓vg, ↓vh, ↓vi, ↓vj, ↓vk, ↓vl, ↓vm, ↓vo, ↓vp, ↓vq, ↓vt, ↓vu, ↓vw, vz, v6, ↓v7, ↓v8, ↓v9, ↓vA, ↓vB, ↓vC, ↓vD, ↓vE, ↓vF, ↓vG, ↓vH, ↓vI, ↓vJ, ↓vK, ↓vL, ↓vM, ↓vN, ↓vO, dLt, dLe, dGt, dGe, vP, vQ, vR, vS, vT, dI2, vU, vV, dEq, dNe, vW, vX, vY, vZ, ja, jb, jc, jd, je, jf, Option.some.injEq, jg, jh, ji, jk, jl, dIs, jm, jn, shs, kiC, jo, jp, obD, id_eq, List.getElem?_cons_zero, List.getElem?_cons_succ, List.set_cons_zero, List.set_cons_succ, List.length_cons, List.length_nil, D.bl.injEq, exists_eq_left', decide_eq_true_eq, decide_eq_false_iff_not, Bool.not_eq_true', Bool.not_eq_false', Nat.zero_add, Nat.reduceAdd, true_and, and_true, forall_const, reduceCtorEq, not_true_eq_false, not_false_eq_true, false_implies, true_implies, implies_true, jq, Nat.reduceLeDiff, Int.reduceLE, Int.reduceLT, Int.reduceNeg, Int.reducePow, Int.reduceAdd, Int.reduceSub, Int.reduceMul, List.length_map]
      refine ⟨by omega, ?_⟩
      refine for_nat (fun j ρ => ∃ (pl : PL) (s5 s6 : Sl), PlI ms pl i j ∧ ρ = [.bx, .sh (.int 3), .sh (.lst (fs.map D.str)), .sh (.lst (ms.map Mach.dd)), .ot (pl.map fun e => qK e.1) (pl.map fun e => plE e.2), s5, s6, .sh (.int i), .no, .no]) ?_ ?_ _ ⟨pl, s5, s6, inv, rfl⟩
      · clear inv pl s5 s6 s7
        rintro j hj ρ ⟨pl, s5, s6, inv, rfl⟩ C2 hC2
        simp only [↓za, ↓zb, ↓zc, ↓zd, ↓ze, ↓zf, ↓zg, ↓zh, ↓zi, ↓zj, ↓zk, ↓zl, ↓zm, ↓zn, ↓zo, ↓zp, ↓zq, ↓zr, ↓zt, ↓zu, ↓zv, ↓zw, ↓zx, zy, zz, ↓z3, ↓z7, ↓z8, ↓z9, ↓zA, ↓zB, ↓zC, ↓zD, ↓zE, ↓zF, ↓zG, ↓zH, ↓zI, ↓zJ, ↓zK, ↓zL, ↓zM, ↓zN, ↓zO, ↓zP, ↓zQ, ↓zR, ↓zS, ↓zT, ↓zU, ↓zV, ↓zW, ↓zX, ↓zY, ↓zZ, ↓xf, ↓xg, ↓xh, ↓xi, ↓xj, ↓xk, ↓xl, ↓xm, ↓xq, xt, ↓xu, ↓xw, ↓xy, ↓xz, ↓x5, ↓x6, ↓x7, ↓x8, ↓x9, ↓xB, ↓xD, ↓xE, ↓xF, ↓xG, ↓xH, ↓xI, ↓xJ, ↓xK, ↓xL, ↓xM, ↓xN, ↓xO, ↓xP, ↓xQ, ↓xR, ↓xS, ↓xT, ↓xU, ↓xV, ↓xW, ↓xX, ↓xY, ↓xZ, ↓qb, ↓qc, ↓qd, ↓qf, ↓qg, ↓qh, ↓qi, ↓qj, ↓qk, ↓ql, ↓qm, ↓qo, ↓qp, ↓qr, ↓qt, ↓qu, ↓qv, ↓qw, ↓qz, ↓qA, ↓qB, ↓qC, ↓qE, ↓qF, ↓qG, ↓qH, ↓qI, ↓qJ, ↓qL, ↓qM, ↓qN, ↓qO, ↓qP, ↓qQ, ↓qR, ↓qS, ↓qT, ↓qU, ↓qV, ↓qW, ↓qX, ↓qY, ↓qZ, ↓vf, ↓vg, ↓vh, ↓vi, ↓vj, ↓vk, ↓vl, ↓vm, ↓vo, ↓vp, ↓vq, ↓vt, ↓vu, ↓vw, vz, v6, ↓v7, ↓v8, ↓v9, ↓vA, ↓vB, ↓vC, ↓vD, ↓vE, ↓vF, ↓vG, ↓vH, ↓vI, ↓vJ, ↓vK, ↓vL, ↓vM, ↓vN, ↓vO, dLt, dLe, dGt, dGe, vP, vQ, vR, vS, vT, dI2, vU, vV, dEq, dNe, vW, vX, vY, vZ, ja, jb, jc, jd, je, jf, Option.some.injEq, jg, jh, ji, jk, jl, dIs, jm, jn, shs, kiC, jo, jp, obD, id_eq, List.getElem?_cons_zero, List.getElem?_cons_succ, List.set_cons_zero, List.set_cons_succ, List.length_cons, List.length_nil, D.bl.injEq, exists_eq_left', decide_eq_true_eq, decide_eq_false_iff_not, Bool.not_eq_true', Bool.not_eq_false', Nat.zero_add, Nat.reduceAdd, true_and, and_true, forall_const, reduceCtorEq, not_true_eq_false, not_false_eq_true, false_implies, true_implies, implies_true, jq, Nat.reduceLeDiff, Int.reduceLE, Int.reduceLT, Int.reduceNeg, Int.reducePow, Int.reduceAdd, Int.reduceSub, Int.reduceMul]
        have no : ∃ (pl' : PL) (t5 t6 : Sl), PlI ms pl' i (j + 1) ∧ [Sl.bx, .sh (.int 3), .sh (.lst (fs.map D.str)), .sh (.lst (ms.map Mach.dd)), .ot (pl.map fun e => qK e.1) (pl.map fun e => plE e.2), s5, .sh (.int j), .sh (.int i), .no, .no] = [.bx, .sh (.int 3), .sh (.lst (fs.map D.str)), .sh (.lst (ms.map Mach.dd)), .ot (pl'.map fun e => qK e.1) (pl'.map fun e => plE e.2), t5, t6, .sh (.int i), .no, .no] := ⟨pl, s5, _, inv.next, rfl⟩
        refine ⟨_, rfl, fun hne => ?_, fun he => hC2 _ no⟩
        simp only [wf__law_draw, ↓za, ↓zb, ↓zc, ↓zd, ↓ze, ↓zf, ↓zg, ↓zh, ↓zi, ↓zj, ↓zk, ↓zl, ↓zm, ↓zn, ↓zo, ↓zp, ↓zq, ↓zr, ↓zt, ↓zu, ↓zv, ↓zw, ↓zx, zy, zz, ↓z3, ↓z7, ↓z8, ↓z9, ↓zA, ↓zB, ↓zC, ↓zD, ↓zE, ↓zF, ↓zG, ↓zH, ↓zI, ↓zJ, ↓zK, ↓zL, ↓zM, ↓zN, ↓zO, ↓zP, ↓zQ, ↓zR, ↓zS, ↓zT, ↓zU, ↓zV, ↓zW, ↓zX, ↓zY, ↓zZ, ↓xf, ↓xg, ↓xh, ↓xi, ↓xj, ↓xk, ↓xl, ↓xm, ↓xq, xt, ↓xu, ↓xw, ↓xy, ↓xz, ↓x5, ↓x6, ↓x7, ↓x8, ↓x9, ↓xB, ↓xD, ↓xE, ↓xF, ↓xG, ↓xH, ↓xI, ↓xJ, ↓xK, ↓xL, ↓xM, ↓xN, ↓xO, ↓xP, ↓xQ, ↓xR, ↓xS, ↓xT, ↓xU, ↓xV, ↓xW, ↓xX, ↓xY, ↓xZ, ↓qb, ↓qc, ↓qd, ↓qf, ↓qg, ↓qh, ↓qi, ↓qj, ↓qk, ↓ql, ↓qm, ↓qo, ↓qp, ↓qr, ↓qt, ↓qu, ↓qv, ↓qw, ↓qz, ↓qA, ↓qB, ↓qC, ↓qE, ↓qF, ↓qG, ↓qH, ↓qI, ↓qJ, ↓qL, ↓qM, ↓qN, ↓qO, ↓qP, ↓qQ, ↓qR, ↓qS, ↓qT, ↓qU, ↓qV, ↓qW, ↓qX, ↓qY, ↓qZ, ↓vf, ↓vg, ↓vh, ↓vi, ↓vj, ↓vk, ↓vl, ↓vm, ↓vo, ↓vp, ↓vq, ↓vt, ↓vu, ↓vw, vz, v6, ↓v7, ↓v8, ↓v9, ↓vA, ↓vB, ↓vC, ↓vD, ↓vE, ↓vF, ↓vG, ↓vH, ↓vI, ↓vJ, ↓vK, ↓vL, ↓vM, ↓vN, ↓vO, dLt, dLe, dGt, dGe, vP, vQ, vR, vS, vT, dI2, vU, vV, dEq, dNe, vW, vX, vY, vZ, ja, jb, jc, jd, je, jf, Option.some.injEq, jg, jh, ji, jk, jl, dIs, jm, jn, shs, kiC, jo, jp, obD, id_eq, List.getElem?_cons_zero, List.getElem?_cons_succ, List.set_cons_zero, List.set_cons_succ, List.length_cons, List.length_nil, D.bl.injEq, exists_eq_left', decide_eq_true_eq, decide_eq_false_iff_not, Bool.not_eq_true', Bool.not_eq_false', Nat.zero_add, Nat.reduceAdd, true_and, and_true, forall_const, reduceCtorEq, not_true_eq_false, not_false_eq_true, false_implies, true_implies, implies_true, jq, Nat.reduceLeDiff, Int.reduceLE, Int.reduceLT, Int.reduceNeg, Int.reducePow, Int.reduceAdd, Int.reduceSub, Int.reduceMul]
        intro z z0 z1
        refine ⟨fun hz => ?_, fun hz => hC2 _ no⟩
        have hi' : i < ms.length := by omega
        have hj' : j < ms.length := by omega
        obtain ⟨m, em, hmm, am⟩ := ms_at (ms := ms) (k := (i : Int)) (by omega) hi
        obtain ⟨o, eo, hoo, ao⟩ := ms_at (ms := ms) (k := (j : Int)) (by omega) hj
        have okm := (hm m hmm).2
        have oko := (hm o hoo).2
        have m3 := okm.n8
        have m1 := okm.n1
        have o1 := oko.n1
        have nm := nst_at (ms := ms) (k := (i : Int)) (by omega) em
        have no2 := nst_at (ms := ms) (k := (j : Int)) (by omega) eo
        refine ⟨_, am, ?_⟩
        simp only [Mach.dd, Cary.dd, lk_facts, lk_step, lk_gain, lk_leave, lk_to, lk_cost, ↓za, ↓zb, ↓zc, ↓zd, ↓ze, ↓zf, ↓zg, ↓zh, ↓zi, ↓zj, ↓zk, ↓zl, ↓zm, ↓zn, ↓zo, ↓zp, ↓zq, ↓zr, ↓zt, ↓zu, ↓zv, ↓zw, ↓zx, zy, zz, ↓z3, ↓z7, ↓z8, ↓z9, ↓zA, ↓zB, ↓zC, ↓zD, ↓zE, ↓zF, ↓zG, ↓zH, ↓zI, ↓zJ, ↓zK, ↓zL, ↓zM, ↓zN, ↓zO, ↓zP, ↓zQ, ↓zR, ↓zS, ↓zT, ↓zU, ↓zV, ↓zW, ↓zX, ↓zY, ↓zZ, ↓xf, ↓xg, ↓xh, ↓xi, ↓xj, ↓xk, ↓xl, ↓xm, ↓xq, xt, ↓xu, ↓xw, ↓xy, ↓xz, ↓x5, ↓x6, ↓x7, ↓x8, ↓x9, ↓xB, ↓xD, ↓xE, ↓xF, ↓xG, ↓xH, ↓xI, ↓xJ, ↓xK, ↓xL, ↓xM, ↓xN, ↓xO, ↓xP, ↓xQ, ↓xR, ↓xS, ↓xT, ↓xU, ↓xV, ↓xW, ↓xX, ↓xY, ↓xZ, ↓qb, ↓qc, ↓qd, ↓qf, ↓qg, ↓qh, ↓qi, ↓qj, ↓qk, ↓ql, ↓qm, ↓qo, ↓qp, ↓qr, ↓qt, ↓qu, ↓qv, ↓qw, ↓qz, ↓qA, ↓qB, ↓qC, ↓qE, ↓qF, ↓qG, ↓qH, ↓qI, ↓qJ, ↓qL, ↓qM, ↓qN, ↓qO, ↓qP, ↓qQ, ↓qR, ↓qS, ↓qT, ↓qU, ↓qV, ↓qW, ↓qX, ↓qY, ↓qZ, ↓vf, ↓vg, ↓vh, ↓vi, ↓vj, ↓vk, ↓vl, ↓vm, ↓vo, ↓vp, ↓vq, ↓vt, ↓vu, ↓vw, vz, v6, ↓v7, ↓v8, ↓v9, ↓vA, ↓vB, ↓vC, ↓vD, ↓vE, ↓vF, ↓vG, ↓vH, ↓vI, ↓vJ, ↓vK, ↓vL, ↓vM, ↓vN, ↓vO, dLt, dLe, dGt, dGe, vP, vQ, vR, vS, vT, dI2, vU, vV, dEq, dNe, vW, vX, vY, vZ, ja, jb, jc, jd, je, jf, Option.some.injEq, jg, jh, ji, jk, jl, dIs, jm, jn, shs, kiC, jo, jp, obD, id_eq, List.getElem?_cons_zero, List.getElem?_cons_succ, List.set_cons_zero, List.set_cons_succ, List.length_cons, List.length_nil, D.bl.injEq, exists_eq_left', decide_eq_true_eq, decide_eq_false_iff_not, Bool.not_eq_true', Bool.not_eq_false', Nat.zero_add, Nat.reduceAdd, true_and, and_true, forall_const, reduceCtorEq, not_true_eq_false, not_false_eq_true, false_implies, true_implies, implies_true, jq, Nat.reduceLeDiff, Int.reduceLE, Int.reduceLT, Int.reduceNeg, Int.reducePow, Int.reduceAdd, Int.reduceSub, Int.reduceMul, List.length_map]
        refine ⟨by omega, rfl, ?_⟩
        refine ints_lc (ρ := [_, _, _, _, _, _, _, _, .no, .no]) (P := fun s => 0 ≤ s ∧ s < o.leave.length) (fun d hd Kt ht => ?_) fun r1 h1 p1 => ?_
        · simp only [Mach.dd, Cary.dd, lk_facts, lk_step, lk_gain, lk_leave, lk_to, lk_cost, ↓za, ↓zb, ↓zc, ↓zd, ↓ze, ↓zf, ↓zg, ↓zh, ↓zi, ↓zj, ↓zk, ↓zl, ↓zm, ↓zn, ↓zo, ↓zp, ↓zq, ↓zr, ↓zt, ↓zu, ↓zv, ↓zw, ↓zx, zy, zz, ↓z3, ↓z7, ↓z8, ↓z9, ↓zA, ↓zB, ↓zC, ↓zD, ↓zE, ↓zF, ↓zG, ↓zH, ↓zI, ↓zJ, ↓zK, ↓zL, ↓zM, ↓zN, ↓zO, ↓zP, ↓zQ, ↓zR, ↓zS, ↓zT, ↓zU, ↓zV, ↓zW, ↓zX, ↓zY, ↓zZ, ↓xf, ↓xg, ↓xh, ↓xi, ↓xj, ↓xk, ↓xl, ↓xm, ↓xq, xt, ↓xu, ↓xw, ↓xy, ↓xz, ↓x5, ↓x6, ↓x7, ↓x8, ↓x9, ↓xB, ↓xD, ↓xE, ↓xF, ↓xG, ↓xH, ↓xI, ↓xJ, ↓xK, ↓xL, ↓xM, ↓xN, ↓xO, ↓xP, ↓xQ, ↓xR, ↓xS, ↓xT, ↓xU, ↓xV, ↓xW, ↓xX, ↓xY, ↓xZ, ↓qb, ↓qc, ↓qd, ↓qf, ↓qg, ↓qh, ↓qi, ↓qj, ↓qk, ↓ql, ↓qm, ↓qo, ↓qp, ↓qr, ↓qt, ↓qu, ↓qv, ↓qw, ↓qz, ↓qA, ↓qB, ↓qC, ↓qE, ↓qF, ↓qG, ↓qH, ↓qI, ↓qJ, ↓qL, ↓qM, ↓qN, ↓qO, ↓qP, ↓qQ, ↓qR, ↓qS, ↓qT, ↓qU, ↓qV, ↓qW, ↓qX, ↓qY, ↓qZ, ↓vf, ↓vg, ↓vh, ↓vi, ↓vj, ↓vk, ↓vl, ↓vm, ↓vo, ↓vp, ↓vq, ↓vt, ↓vu, ↓vw, vz, v6, ↓v7, ↓v8, ↓v9, ↓vA, ↓vB, ↓vC, ↓vD, ↓vE, ↓vF, ↓vG, ↓vH, ↓vI, ↓vJ, ↓vK, ↓vL, ↓vM, ↓vN, ↓vO, dLt, dLe, dGt, dGe, vP, vQ, vR, vS, vT, dI2, vU, vV, dEq, dNe, vW, vX, vY, vZ, ja, jb, jc, jd, je, jf, Option.some.injEq, jg, jh, ji, jk, jl, dIs, jm, jn, shs, kiC, jo, jp, obD, id_eq, List.getElem?_cons_zero, List.getElem?_cons_succ, List.set_cons_zero, List.set_cons_succ, List.length_cons, List.length_nil, D.bl.injEq, exists_eq_left', decide_eq_true_eq, decide_eq_false_iff_not, Bool.not_eq_true', Bool.not_eq_false', Nat.zero_add, Nat.reduceAdd, true_and, and_true, forall_const, reduceCtorEq, not_true_eq_false, not_false_eq_true, false_implies, true_implies, implies_true, jq, Nat.reduceLeDiff, Int.reduceLE, Int.reduceLT, Int.reduceNeg, Int.reducePow, Int.reduceAdd, Int.reduceSub, Int.reduceMul, wipeD, List.reverse_cons, List.reverse_nil, List.nil_append, noOwnB, List.all_cons, List.all_nil, Bool.and_true, Bool.true_and, wf__law_draw]
          intro y y0 y1
          refine ⟨_, ao, ?_⟩
          simp only [Mach.dd, Cary.dd, lk_facts, lk_step, lk_gain, lk_leave, lk_to, lk_cost, ↓za, ↓zb, ↓zc, ↓zd, ↓ze, ↓zf, ↓zg, ↓zh, ↓zi, ↓zj, ↓zk, ↓zl, ↓zm, ↓zn, ↓zo, ↓zp, ↓zq, ↓zr, ↓zt, ↓zu, ↓zv, ↓zw, ↓zx, zy, zz, ↓z3, ↓z7, ↓z8, ↓z9, ↓zA, ↓zB, ↓zC, ↓zD, ↓zE, ↓zF, ↓zG, ↓zH, ↓zI, ↓zJ, ↓zK, ↓zL, ↓zM, ↓zN, ↓zO, ↓zP, ↓zQ, ↓zR, ↓zS, ↓zT, ↓zU, ↓zV, ↓zW, ↓zX, ↓zY, ↓zZ, ↓xf, ↓xg, ↓xh, ↓xi, ↓xj, ↓xk, ↓xl, ↓xm, ↓xq, xt, ↓xu, ↓xw, ↓xy, ↓xz, ↓x5, ↓x6, ↓x7, ↓x8, ↓x9, ↓xB, ↓xD, ↓xE, ↓xF, ↓xG, ↓xH, ↓xI, ↓xJ, ↓xK, ↓xL, ↓xM, ↓xN, ↓xO, ↓xP, ↓xQ, ↓xR, ↓xS, ↓xT, ↓xU, ↓xV, ↓xW, ↓xX, ↓xY, ↓xZ, ↓qb, ↓qc, ↓qd, ↓qf, ↓qg, ↓qh, ↓qi, ↓qj, ↓qk, ↓ql, ↓qm, ↓qo, ↓qp, ↓qr, ↓qt, ↓qu, ↓qv, ↓qw, ↓qz, ↓qA, ↓qB, ↓qC, ↓qE, ↓qF, ↓qG, ↓qH, ↓qI, ↓qJ, ↓qL, ↓qM, ↓qN, ↓qO, ↓qP, ↓qQ, ↓qR, ↓qS, ↓qT, ↓qU, ↓qV, ↓qW, ↓qX, ↓qY, ↓qZ, ↓vf, ↓vg, ↓vh, ↓vi, ↓vj, ↓vk, ↓vl, ↓vm, ↓vo, ↓vp, ↓vq, ↓vt, ↓vu, ↓vw, vz, v6, ↓v7, ↓v8, ↓v9, ↓vA, ↓vB, ↓vC, ↓vD, ↓vE, ↓vF, ↓vG, ↓vH, ↓vI, ↓vJ, ↓vK, ↓vL, ↓vM, ↓vN, ↓vO, dLt, dLe, dGt, dGe, vP, vQ, vR, vS, vT, dI2, vU, vV, dEq, dNe, vW, vX, vY, vZ, ja, jb, jc, jd, je, jf, Option.some.injEq, jg, jh, ji, jk, jl, dIs, jm, jn, shs, kiC, jo, jp, obD, id_eq, List.getElem?_cons_zero, List.getElem?_cons_succ, List.set_cons_zero, List.set_cons_succ, List.length_cons, List.length_nil, D.bl.injEq, exists_eq_left', decide_eq_true_eq, decide_eq_false_iff_not, Bool.not_eq_true', Bool.not_eq_false', Nat.zero_add, Nat.reduceAdd, true_and, and_true, forall_const, reduceCtorEq, not_true_eq_false, not_false_eq_true, false_implies, true_implies, implies_true, jq, Nat.reduceLeDiff, Int.reduceLE, Int.reduceLT, Int.reduceNeg, Int.reducePow, Int.reduceAdd, Int.reduceSub, Int.reduceMul, wipeD, List.reverse_cons, List.reverse_nil, List.nil_append, noOwnB, List.all_cons, List.all_nil, Bool.and_true, Bool.true_and, List.length_map]
          exact ⟨by omega, ht _ ⟨Int.emod_nonneg _ (by omega), Int.emod_lt_of_pos _ (by omega)⟩⟩
        rw [List.length_map] at h1
        simp only [w__law_schemes_t1, Mach.dd, Cary.dd, lk_facts, lk_step, lk_gain, lk_leave, lk_to, lk_cost, ↓za, ↓zb, ↓zc, ↓zd, ↓ze, ↓zf, ↓zg, ↓zh, ↓zi, ↓zj, ↓zk, ↓zl, ↓zm, ↓zn, ↓zo, ↓zp, ↓zq, ↓zr, ↓zt, ↓zu, ↓zv, ↓zw, ↓zx, zy, zz, ↓z3, ↓z7, ↓z8, ↓z9, ↓zA, ↓zB, ↓zC, ↓zD, ↓zE, ↓zF, ↓zG, ↓zH, ↓zI, ↓zJ, ↓zK, ↓zL, ↓zM, ↓zN, ↓zO, ↓zP, ↓zQ, ↓zR, ↓zS, ↓zT, ↓zU, ↓zV, ↓zW, ↓zX, ↓zY, ↓zZ, ↓xf, ↓xg, ↓xh, ↓xi, ↓xj, ↓xk, ↓xl, ↓xm, ↓xq, xt, ↓xu, ↓xw, ↓xy, ↓xz, ↓x5, ↓x6, ↓x7, ↓x8, ↓x9, ↓xB, ↓xD, ↓xE, ↓xF, ↓xG, ↓xH, ↓xI, ↓xJ, ↓xK, ↓xL, ↓xM, ↓xN, ↓xO, ↓xP, ↓xQ, ↓xR, ↓xS, ↓xT, ↓xU, ↓xV, ↓xW, ↓xX, ↓xY, ↓xZ, ↓qb, ↓qc, ↓qd, ↓qf, ↓qg, ↓qh, ↓qi, ↓qj, ↓qk, ↓ql, ↓qm, ↓qo, ↓qp, ↓qr, ↓qt, ↓qu, ↓qv, ↓qw, ↓qz, ↓qA, ↓qB, ↓qC, ↓qE, ↓qF, ↓qG, ↓qH, ↓qI, ↓qJ, ↓qL, ↓qM, ↓qN, ↓qO, ↓qP, ↓qQ, ↓qR, ↓qS, ↓qT, ↓qU, ↓qV, ↓qW, ↓qX, ↓qY, ↓qZ, ↓vf, ↓vg, ↓vh, ↓vi, ↓vj, ↓vk, ↓vl, ↓vm, ↓vo, ↓vp, ↓vq, ↓vt, ↓vu, ↓vw, vz, v6, ↓v7, ↓v8, ↓v9, ↓vA, ↓vB, ↓vC, ↓vD, ↓vE, ↓vF, ↓vG, ↓vH, ↓vI, ↓vJ, ↓vK, ↓vL, ↓vM, ↓vN, ↓vO, dLt, dLe, dGt, dGe, vP, vQ, vR, vS, vT, dI2, vU, vV, dEq, dNe, vW, vX, vY, vZ, ja, jb, jc, jd, je, jf, Option.some.injEq, jg, jh, ji, jk, jl, dIs, jm, jn, shs, kiC, jo, jp, obD, id_eq, List.getElem?_cons_zero, List.getElem?_cons_succ, List.set_cons_zero, List.set_cons_succ, List.length_cons, List.length_nil, D.bl.injEq, exists_eq_left', decide_eq_true_eq, decide_eq_false_iff_not, Bool.not_eq_true', Bool.not_eq_false', Nat.zero_add, Nat.reduceAdd, true_and, and_true, forall_const, reduceCtorEq, not_true_eq_false, not_false_eq_true, false_implies, true_implies, implies_true, jq, Nat.reduceLeDiff, Int.reduceLE, Int.reduceLT, Int.reduceNeg, Int.reducePow, Int.reduceAdd, Int.reduceSub, Int.reduceMul, wipeD, List.reverse_cons, List.reverse_nil, List.nil_append, noOwnB, List.all_cons, List.all_nil, Bool.and_true, Bool.true_and, List.length_map]
        refine ⟨by omega, ?_⟩
        refine ints_lc (ρ := [_, _, _, _, _, _, _, _, .no, .no]) (P := fun s => -2 ≤ s ∧ s ≤ 5) (fun d hd Kt ht => ?_) fun r2 h2 p2 => ?_
        · simp only [Mach.dd, Cary.dd, lk_facts, lk_step, lk_gain, lk_leave, lk_to, lk_cost, ↓za, ↓zb, ↓zc, ↓zd, ↓ze, ↓zf, ↓zg, ↓zh, ↓zi, ↓zj, ↓zk, ↓zl, ↓zm, ↓zn, ↓zo, ↓zp, ↓zq, ↓zr, ↓zt, ↓zu, ↓zv, ↓zw, ↓zx, zy, zz, ↓z3, ↓z7, ↓z8, ↓z9, ↓zA, ↓zB, ↓zC, ↓zD, ↓zE, ↓zF, ↓zG, ↓zH, ↓zI, ↓zJ, ↓zK, ↓zL, ↓zM, ↓zN, ↓zO, ↓zP, ↓zQ, ↓zR, ↓zS, ↓zT, ↓zU, ↓zV, ↓zW, ↓zX, ↓zY, ↓zZ, ↓xf, ↓xg, ↓xh, ↓xi, ↓xj, ↓xk, ↓xl, ↓xm, ↓xq, xt, ↓xu, ↓xw, ↓xy, ↓xz, ↓x5, ↓x6, ↓x7, ↓x8, ↓x9, ↓xB, ↓xD, ↓xE, ↓xF, ↓xG, ↓xH, ↓xI, ↓xJ, ↓xK, ↓xL, ↓xM, ↓xN, ↓xO, ↓xP, ↓xQ, ↓xR, ↓xS, ↓xT, ↓xU, ↓xV, ↓xW, ↓xX, ↓xY, ↓xZ, ↓qb, ↓qc, ↓qd, ↓qf, ↓qg, ↓qh, ↓qi, ↓qj, ↓qk, ↓ql, ↓qm, ↓qo, ↓qp, ↓qr, ↓qt, ↓qu, ↓qv, ↓qw, ↓qz, ↓qA, ↓qB, ↓qC, ↓qE, ↓qF, ↓qG, ↓qH, ↓qI, ↓qJ, ↓qL, ↓qM, ↓qN, ↓qO, ↓qP, ↓qQ, ↓qR, ↓qS, ↓qT, ↓qU, ↓qV, ↓qW, ↓qX, ↓qY, ↓qZ, ↓vf, ↓vg, ↓vh, ↓vi, ↓vj, ↓vk, ↓vl, ↓vm, ↓vo, ↓vp, ↓vq, ↓vt, ↓vu, ↓vw, vz, v6, ↓v7, ↓v8, ↓v9, ↓vA, ↓vB, ↓vC, ↓vD, ↓vE, ↓vF, ↓vG, ↓vH, ↓vI, ↓vJ, ↓vK, ↓vL, ↓vM, ↓vN, ↓vO, dLt, dLe, dGt, dGe, vP, vQ, vR, vS, vT, dI2, vU, vV, dEq, dNe, vW, vX, vY, vZ, ja, jb, jc, jd, je, jf, Option.some.injEq, jg, jh, ji, jk, jl, dIs, jm, jn, shs, kiC, jo, jp, obD, id_eq, List.getElem?_cons_zero, List.getElem?_cons_succ, List.set_cons_zero, List.set_cons_succ, List.length_cons, List.length_nil, D.bl.injEq, exists_eq_left', decide_eq_true_eq, decide_eq_false_iff_not, Bool.not_eq_true', Bool.not_eq_false', Nat.zero_add, Nat.reduceAdd, true_and, and_true, forall_const, reduceCtorEq, not_true_eq_false, not_false_eq_true, false_implies, true_implies, implies_true, jq, Nat.reduceLeDiff, Int.reduceLE, Int.reduceLT, Int.reduceNeg, Int.reducePow, Int.reduceAdd, Int.reduceSub, Int.reduceMul, wipeD, List.reverse_cons, List.reverse_nil, List.nil_append, noOwnB, List.all_cons, List.all_nil, Bool.and_true, Bool.true_and, wf__law_draw]
          intro y y0 y1
          exact ht _ (by omega)
        rw [List.length_map] at h2
        simp only [Mach.dd, Cary.dd, lk_facts, lk_step, lk_gain, lk_leave, lk_to, lk_cost, ↓za, ↓zb, ↓zc, ↓zd, ↓ze, ↓zf, ↓zg, ↓zh, ↓zi, ↓zj, ↓zk, ↓zl, ↓zm, ↓zn, ↓zo, ↓zp, ↓zq, ↓zr, ↓zt, ↓zu, ↓zv, ↓zw, ↓zx, zy, zz, ↓z3, ↓z7, ↓z8, ↓z9, ↓zA, ↓zB, ↓zC, ↓zD, ↓zE, ↓zF, ↓zG, ↓zH, ↓zI, ↓zJ, ↓zK, ↓zL, ↓zM, ↓zN, ↓zO, ↓zP, ↓zQ, ↓zR, ↓zS, ↓zT, ↓zU, ↓zV, ↓zW, ↓zX, ↓zY, ↓zZ, ↓xf, ↓xg, ↓xh, ↓xi, ↓xj, ↓xk, ↓xl, ↓xm, ↓xq, xt, ↓xu, ↓xw, ↓xy, ↓xz, ↓x5, ↓x6, ↓x7, ↓x8, ↓x9, ↓xB, ↓xD, ↓xE, ↓xF, ↓xG, ↓xH, ↓xI, ↓xJ, ↓xK, ↓xL, ↓xM, ↓xN, ↓xO, ↓xP, ↓xQ, ↓xR, ↓xS, ↓xT, ↓xU, ↓xV, ↓xW, ↓xX, ↓xY, ↓xZ, ↓qb, ↓qc, ↓qd, ↓qf, ↓qg, ↓qh, ↓qi, ↓qj, ↓qk, ↓ql, ↓qm, ↓qo, ↓qp, ↓qr, ↓qt, ↓qu, ↓qv, ↓qw, ↓qz, ↓qA, ↓qB, ↓qC, ↓qE, ↓qF, ↓qG, ↓qH, ↓qI, ↓qJ, ↓qL, ↓qM, ↓qN, ↓qO, ↓qP, ↓qQ, ↓qR, ↓qS, ↓qT, ↓qU, ↓qV, ↓qW, ↓qX, ↓qY, ↓qZ, ↓vf, ↓vg, ↓vh, ↓vi, ↓vj, ↓vk, ↓vl, ↓vm, ↓vo, ↓vp, ↓vq, ↓vt, ↓vu, ↓vw, vz, v6, ↓v7, ↓v8, ↓v9, ↓vA, ↓vB, ↓vC, ↓vD, ↓vE, ↓vF, ↓vG, ↓vH, ↓vI, ↓vJ, ↓vK, ↓vL, ↓vM, ↓vN, ↓vO, dLt, dLe, dGt, dGe, vP, vQ, vR, vS, vT, dI2, vU, vV, dEq, dNe, vW, vX, vY, vZ, ja, jb, jc, jd, je, jf, Option.some.injEq, jg, jh, ji, jk, jl, dIs, jm, jn, shs, kiC, jo, jp, obD, id_eq, List.getElem?_cons_zero, List.getElem?_cons_succ, List.set_cons_zero, List.set_cons_succ, List.length_cons, List.length_nil, D.bl.injEq, exists_eq_left', decide_eq_true_eq, decide_eq_false_iff_not, Bool.not_eq_true', Bool.not_eq_false', Nat.zero_add, Nat.reduceAdd, true_and, and_true, forall_const, reduceCtorEq, not_true_eq_false, not_false_eq_true, false_implies, true_implies, implies_true, jq, Nat.reduceLeDiff, Int.reduceLE, Int.reduceLT, Int.reduceNeg, Int.reducePow, Int.reduceAdd, Int.reduceSub, Int.reduceMul, wipeD, List.reverse_cons, List.reverse_nil, List.nil_append, noOwnB, List.all_cons, List.all_nil, Bool.and_true, Bool.true_and]
        refine ⟨⟨_, rfl, trivial⟩, _, _, rfl, rfl, by have := inv.ln; (rw [List.length_map]; have := szl; omega), ?_⟩
        have okc : Cary.ok ⟨r1, r2⟩ (nst ms i) (nst ms j) := by
          rw [nm, no2]
          exact ⟨h1, by show r2.length = _; omega, p1, fun g hg => by have := p2 g hg; omega⟩
        refine hC2 _ ⟨_, .sh (.lst (r1.map D.int)), .sh (.int j), inv.add hi' hj' okc (fun g hg => by have := p2 g hg; omega), ?_⟩
        have ep := put_pl inv ⟨r1, r2⟩
        have ek : ([Sum.inl (i : Int), Sum.inl (j : Int)] : List Key) = qK ((i : Int), (j : Int)) := rfl
        have ev : D.lst [.lst (r1.map D.int), .lst (r2.map D.int)] = plE ⟨r1, r2⟩ := rfl
        rw [ek, ev, ep]
      · rintro ρ ⟨pl, s5, s6, inv, rfl⟩
        exact hC _ ⟨pl, s5, s6, _, inv.row (by omega), rfl⟩
    · rintro ρ ⟨pl, s5, s6, s7, inv, rfl⟩
      simp only [w__law_schemes_t2, ↓za, ↓zb, ↓zc, ↓zd, ↓ze, ↓zf, ↓zg, ↓zh, ↓zi, ↓zj, ↓zk, ↓zl, ↓zm, ↓zn, ↓zo, ↓zp, ↓zq, ↓zr, ↓zt, ↓zu, ↓zv, ↓zw, ↓zx, zy, zz, ↓z3, ↓z7, ↓z8, ↓z9, ↓zA, ↓zB, ↓zC, ↓zD, ↓zE, ↓zF, ↓zG, ↓zH, ↓zI, ↓zJ, ↓zK, ↓zL, ↓zM, ↓zN, ↓zO, ↓zP, ↓zQ, ↓zR, ↓zS, ↓zT, ↓zU, ↓zV, ↓zW, ↓zX, ↓zY, ↓zZ, ↓xf, ↓xg, ↓xh, ↓xi, ↓xj, ↓xk, ↓xl, ↓xm, ↓xq, xt, ↓xu, ↓xw, ↓xy, ↓xz, ↓x5, ↓x6, ↓x7, ↓x8, ↓x9, ↓xB, ↓xD, ↓xE, ↓xF, ↓xG, ↓xH, ↓xI, ↓xJ, ↓xK, ↓xL, ↓xM, ↓xN, ↓xO, ↓xP, ↓xQ, ↓xR, ↓xS, ↓xT, ↓xU, ↓xV, ↓xW, ↓xX, ↓xY, ↓xZ, ↓qb, ↓qc, ↓qd, ↓qf, ↓qg, ↓qh, ↓qi, ↓qj, ↓qk, ↓ql, ↓qm, ↓qo, ↓qp, ↓qr, ↓qt, ↓qu, ↓qv, ↓qw, ↓qz, ↓qA, ↓qB, ↓qC, ↓qE, ↓qF, ↓qG, ↓qH, ↓qI, ↓qJ, ↓qL, ↓qM, ↓qN, ↓qO, ↓qP, ↓qQ, ↓qR, ↓qS, ↓qT, ↓qU, ↓qV, ↓qW, ↓qX, ↓qY, ↓qZ, ↓vf, ↓vg, ↓vh, ↓vi, ↓vj, ↓vk, ↓vl, ↓vm, ↓vo, ↓vp, ↓vq, ↓vt, ↓vu, ↓vw, vz, v6, ↓v7, ↓v8, ↓v9, ↓vA, ↓vB, ↓vC, ↓vD, ↓vE, ↓vF, ↓vG, ↓vH, ↓vI, ↓vJ, ↓vK, ↓vL, ↓vM, ↓vN, ↓vO, dLt, dLe, dGt, dGe, vP, vQ, vR, vS, vT, dI2, vU, vV, dEq, dNe, vW, vX, vY, vZ, ja, jb, jc, jd, je, jf, Option.some.injEq, jg, jh, ji, jk, jl, dIs, jm, jn, shs, kiC, jo, jp, obD, id_eq, List.getElem?_cons_zero, List.getElem?_cons_succ, List.set_cons_zero, List.set_cons_succ, List.length_cons, List.length_nil, D.bl.injEq, exists_eq_left', decide_eq_true_eq, decide_eq_false_iff_not, Bool.not_eq_true', Bool.not_eq_false', Nat.zero_add, Nat.reduceAdd, true_and, and_true, forall_const, reduceCtorEq, not_true_eq_false, not_false_eq_true, false_implies, true_implies, implies_true, jq, Nat.reduceLeDiff, Int.reduceLE, Int.reduceLT, Int.reduceNeg, Int.reducePow, Int.reduceAdd, Int.reduceSub, Int.reduceMul]
      have hp : pl.length ≤ 9 := by have := inv.ln; omega
      exact q fs ms pl gf (fun m hmm => (hm m hmm).1) ⟨hn1, hn3, fun m hmm => (hm m hmm).2, inv.so, inv.pr, inv.pc, hp⟩
  · exact h.elim
def wf__law_carries : WFn
  | [.sh d], Q => ∃ (ms : List Mach) (pl : PL), d = plD pl ∧ SOk ms pl ∧ Q (caD pl)
  | _, _ => False
theorem len__law_carries : ∀ as Qd, wf__law_carries as Qd → as.length = 1 := fun as Qd h => by
  unfold wf__law_carries at h
  split at h
  · rfl
  · exact h.elim
def w__law_carries : WS := (wSeq (wAsgO wfDt 1)
 (wSeq (wFor (wKeys (kVar 0)) (wSt 2)
 (wPut 1 (wVar 2) (wMake "Carry" wf_Carry_init (asCons (wUn jb (wOp dIx (wOp dIx (wPk 0) (wPk 2)) (wC (.int 0)))) (asCons (wUn jb (wOp dIx (wOp dIx (wPk 0) (wPk 2)) (wC (.int 1)))) asNil)))))
 (wRet (wVar 1))))
theorem p__law_carries : ∀ as Qd, wf__law_carries as Qd → w__law_carries (startD ["_law_plain", "_law_found", "_law_pair"] as) { nx := fun _ => Qd .non, rt := fun d _ => Qd d } := fun as Qd h => by
  unfold wf__law_carries at h
  split at h
  · obtain ⟨ms, pl, rfl, ok, q⟩ := h
    have pn := ok.pn
    show w__law_carries [.sh (plD pl), .no, .no] _
    simp only [w__law_carries, ↓za, ↓zb, ↓zc, ↓zd, ↓ze, ↓zf, ↓zg, ↓zh, ↓zi, ↓zj, ↓zk, ↓zl, ↓zm, ↓zn, ↓zo, ↓zp, ↓zq, ↓zr, ↓zt, ↓zu, ↓zv, ↓zw, ↓zx, zy, zz, ↓z3, ↓z7, ↓z8, ↓z9, ↓zA, ↓zB, ↓zC, ↓zD, ↓zE, ↓zF, ↓zG, ↓zH, ↓zI, ↓zJ, ↓zK, ↓zL, ↓zM, ↓zN, ↓zO, ↓zP, ↓zQ, ↓zR, ↓zS, ↓zT, ↓zU, ↓zV, ↓zW, ↓zX, ↓zY, ↓zZ, ↓xf, ↓xg, ↓xh, ↓xi, ↓xj, ↓xk, ↓xl, ↓xm, ↓xq, xt, ↓xu, ↓xw, ↓xy, ↓xz, ↓x5, ↓x6, ↓x7, ↓x8, ↓x9, ↓xB, ↓xD, ↓xE, ↓xF, ↓xG, ↓xH, ↓xI, ↓xJ, ↓xK, ↓xL, ↓xM, ↓xN, ↓xO, ↓xP, ↓xQ, ↓xR, ↓xS, ↓xT, ↓xU, ↓xV, ↓xW, ↓xX, ↓xY, ↓xZ, ↓qb, ↓qc, ↓qd, ↓qf, ↓qg, ↓qh, ↓qi, ↓qj, ↓qk, ↓ql, ↓qm, ↓qo, ↓qp, ↓qr, ↓qt, ↓qu, ↓qv, ↓qw, ↓qz, ↓qA, ↓qB, ↓qC, ↓qE, ↓qF, ↓qG, ↓qH, ↓qI, ↓qJ, ↓qL, ↓qM, ↓qN, ↓qO, ↓qP, ↓qQ, ↓qR, ↓qS, ↓qT, ↓qU, ↓qV, ↓qW, ↓qX, ↓qY, ↓qZ, ↓vf, ↓vg, ↓vh, ↓vi, ↓vj, ↓vk, ↓vl, ↓vm, ↓vo, ↓vp, ↓vq, ↓vt, ↓vu, ↓vw, vz, v6, ↓v7, ↓v8, ↓v9, ↓vA, ↓vB, ↓vC, ↓vD, ↓vE, ↓vF, ↓vG, ↓vH, ↓vI, ↓vJ, ↓vK, ↓vL, ↓vM, ↓vN, ↓vO, dLt, dLe, dGt, dGe, vP, vQ, vR, vS, vT, dI2, vU, vV, dEq, dNe, vW, vX, vY, vZ, ja, jb, jc, jd, je, jf, Option.some.injEq, jg, jh, ji, jk, jl, dIs, jm, jn, shs, kiC, jo, jp, obD, id_eq, List.getElem?_cons_zero, List.getElem?_cons_succ, List.set_cons_zero, List.set_cons_succ, List.length_cons, List.length_nil, D.bl.injEq, exists_eq_left', decide_eq_true_eq, decide_eq_false_iff_not, Bool.not_eq_true', Bool.not_eq_false', Nat.zero_add, Nat.reduceAdd, true_and, and_true, forall_const, reduceCtorEq, not_true_eq_false, not_false_eq_true, false_implies, true_implies, implies_true, jq, Nat.reduceLeDiff, Int.reduceLE, Int.reduceLT, Int.reduceNeg, Int.reducePow, Int.reduceAdd, Int.reduceSub, Int.reduceMul]
    simp only [plD, jp]
    refine ⟨_, rfl, ?_⟩
    rw [pl_keys]
    refine for_pre (fun dn ρ => ∃ s2, ρ = [.sh (plD pl), .ot (dn.map fun e => qK e.1) (dn.map fun e => e.2.dd), s2]) ?_ ?_ _ ⟨_, rfl⟩
    · rintro dn e rest ee ρ ⟨s2, rfl⟩ C hC
      have he : e ∈ pl := by rw [ee]; simp
      obtain ⟨_, _, _, _, co⟩ := ok.pr e he
      have ll := ok.nst3 e.1.1
      have hl1 := co.lt
      have hl2 := co.lc
      have nk : qK e.1 ∉ dn.map fun e => qK e.1 := fun z => by
        obtain ⟨x, hx, q⟩ := List.mem_map.mp z
        have nd := ok.pnd
        rw [ee, List.map_append, List.nodup_append] at nd
        exact nd.2.2 x.1 (List.mem_map_of_mem hx) e.1 (by simp) (qK_inj q)
      have ldn : dn.length ≤ pl.length := by rw [ee, List.length_append]; omega
      simp only [qD, ↓za, ↓zb, ↓zc, ↓zd, ↓ze, ↓zf, ↓zg, ↓zh, ↓zi, ↓zj, ↓zk, ↓zl, ↓zm, ↓zn, ↓zo, ↓zp, ↓zq, ↓zr, ↓zt, ↓zu, ↓zv, ↓zw, ↓zx, zy, zz, ↓z3, ↓z7, ↓z8, ↓z9, ↓zA, ↓zB, ↓zC, ↓zD, ↓zE, ↓zF, ↓zG, ↓zH, ↓zI, ↓zJ, ↓zK, ↓zL, ↓zM, ↓zN, ↓zO, ↓zP, ↓zQ, ↓zR, ↓zS, ↓zT, ↓zU, ↓zV, ↓zW, ↓zX, ↓zY, ↓zZ, ↓xf, ↓xg, ↓xh, ↓xi, ↓xj, ↓xk, ↓xl, ↓xm, ↓xq, xt, ↓xu, ↓xw, ↓xy, ↓xz, ↓x5, ↓x6, ↓x7, ↓x8, ↓x9, ↓xB, ↓xD, ↓xE, ↓xF, ↓xG, ↓xH, ↓xI, ↓xJ, ↓xK, ↓xL, ↓xM, ↓xN, ↓xO, ↓xP, ↓xQ, ↓xR, ↓xS, ↓xT, ↓xU, ↓xV, ↓xW, ↓xX, ↓xY, ↓xZ, ↓qb, ↓qc, ↓qd, ↓qf, ↓qg, ↓qh, ↓qi, ↓qj, ↓qk, ↓ql, ↓qm, ↓qo, ↓qp, ↓qr, ↓qt, ↓qu, ↓qv, ↓qw, ↓qz, ↓qA, ↓qB, ↓qC, ↓qE, ↓qF, ↓qG, ↓qH, ↓qI, ↓qJ, ↓qL, ↓qM, ↓qN, ↓qO, ↓qP, ↓qQ, ↓qR, ↓qS, ↓qT, ↓qU, ↓qV, ↓qW, ↓qX, ↓qY, ↓qZ, ↓vf, ↓vg, ↓vh, ↓vi, ↓vj, ↓vk, ↓vl, ↓vm, ↓vo, ↓vp, ↓vq, ↓vt, ↓vu, ↓vw, vz, v6, ↓v7, ↓v8, ↓v9, ↓vA, ↓vB, ↓vC, ↓vD, ↓vE, ↓vF, ↓vG, ↓vH, ↓vI, ↓vJ, ↓vK, ↓vL, ↓vM, ↓vN, ↓vO, dLt, dLe, dGt, dGe, vP, vQ, vR, vS, vT, dI2, vU, vV, dEq, dNe, vW, vX, vY, vZ, ja, jb, jc, jd, je, jf, Option.some.injEq, jg, jh, ji, jk, jl, dIs, jm, jn, shs, kiC, jo, jp, obD, id_eq, List.getElem?_cons_zero, List.getElem?_cons_succ, List.set_cons_zero, List.set_cons_succ, List.length_cons, List.length_nil, D.bl.injEq, exists_eq_left', decide_eq_true_eq, decide_eq_false_iff_not, Bool.not_eq_true', Bool.not_eq_false', Nat.zero_add, Nat.reduceAdd, true_and, and_true, forall_const, reduceCtorEq, not_true_eq_false, not_false_eq_true, false_implies, true_implies, implies_true, jq, Nat.reduceLeDiff, Int.reduceLE, Int.reduceLT, Int.reduceNeg, Int.reducePow, Int.reduceAdd, Int.reduceSub, Int.reduceMul, plD]
      refine pl_ix (g := plE) ok.pnd he ?_
      simp only [plE, ↓za, ↓zb, ↓zc, ↓zd, ↓ze, ↓zf, ↓zg, ↓zh, ↓zi, ↓zj, ↓zk, ↓zl, ↓zm, ↓zn, ↓zo, ↓zp, ↓zq, ↓zr, ↓zt, ↓zu, ↓zv, ↓zw, ↓zx, zy, zz, ↓z3, ↓z7, ↓z8, ↓z9, ↓zA, ↓zB, ↓zC, ↓zD, ↓zE, ↓zF, ↓zG, ↓zH, ↓zI, ↓zJ, ↓zK, ↓zL, ↓zM, ↓zN, ↓zO, ↓zP, ↓zQ, ↓zR, ↓zS, ↓zT, ↓zU, ↓zV, ↓zW, ↓zX, ↓zY, ↓zZ, ↓xf, ↓xg, ↓xh, ↓xi, ↓xj, ↓xk, ↓xl, ↓xm, ↓xq, xt, ↓xu, ↓xw, ↓xy, ↓xz, ↓x5, ↓x6, ↓x7, ↓x8, ↓x9, ↓xB, ↓xD, ↓xE, ↓xF, ↓xG, ↓xH, ↓xI, ↓xJ, ↓xK, ↓xL, ↓xM, ↓xN, ↓xO, ↓xP, ↓xQ, ↓xR, ↓xS, ↓xT, ↓xU, ↓xV, ↓xW, ↓xX, ↓xY, ↓xZ, ↓qb, ↓qc, ↓qd, ↓qf, ↓qg, ↓qh, ↓qi, ↓qj, ↓qk, ↓ql, ↓qm, ↓qo, ↓qp, ↓qr, ↓qt, ↓qu, ↓qv, ↓qw, ↓qz, ↓qA, ↓qB, ↓qC, ↓qE, ↓qF, ↓qG, ↓qH, ↓qI, ↓qJ, ↓qL, ↓qM, ↓qN, ↓qO, ↓qP, ↓qQ, ↓qR, ↓qS, ↓qT, ↓qU, ↓qV, ↓qW, ↓qX, ↓qY, ↓qZ, ↓vf, ↓vg, ↓vh, ↓vi, ↓vj, ↓vk, ↓vl, ↓vm, ↓vo, ↓vp, ↓vq, ↓vt, ↓vu, ↓vw, vz, v6, ↓v7, ↓v8, ↓v9, ↓vA, ↓vB, ↓vC, ↓vD, ↓vE, ↓vF, ↓vG, ↓vH, ↓vI, ↓vJ, ↓vK, ↓vL, ↓vM, ↓vN, ↓vO, dLt, dLe, dGt, dGe, vP, vQ, vR, vS, vT, dI2, vU, vV, dEq, dNe, vW, vX, vY, vZ, ja, jb, jc, jd, je, jf, Option.some.injEq, jg, jh, ji, jk, jl, dIs, jm, jn, shs, kiC, jo, jp, obD, id_eq, List.getElem?_cons_zero, List.getElem?_cons_succ, List.set_cons_zero, List.set_cons_succ, List.length_cons, List.length_nil, D.bl.injEq, exists_eq_left', decide_eq_true_eq, decide_eq_false_iff_not, Bool.not_eq_true', Bool.not_eq_false', Nat.zero_add, Nat.reduceAdd, true_and, and_true, forall_const, reduceCtorEq, not_true_eq_false, not_false_eq_true, false_implies, true_implies, implies_true, jq, Nat.reduceLeDiff, Int.reduceLE, Int.reduceLT, Int.reduceNeg, Int.reducePow, Int.reduceAdd, Int.reduceSub, Int.reduceMul, jb]
      refine pl_ix (g := plE) ok.pnd he ?_
      simp only [plE, ↓za, ↓zb, ↓zc, ↓zd, ↓ze, ↓zf, ↓zg, ↓zh, ↓zi, ↓zj, ↓zk, ↓zl, ↓zm, ↓zn, ↓zo, ↓zp, ↓zq, ↓zr, ↓zt, ↓zu, ↓zv, ↓zw, ↓zx, zy, zz, ↓z3, ↓z7, ↓z8, ↓z9, ↓zA, ↓zB, ↓zC, ↓zD, ↓zE, ↓zF, ↓zG, ↓zH, ↓zI, ↓zJ, ↓zK, ↓zL, ↓zM, ↓zN, ↓zO, ↓zP, ↓zQ, ↓zR, ↓zS, ↓zT, ↓zU, ↓zV, ↓zW, ↓zX, ↓zY, ↓zZ, ↓xf, ↓xg, ↓xh, ↓xi, ↓xj, ↓xk, ↓xl, ↓xm, ↓xq, xt, ↓xu, ↓xw, ↓xy, ↓xz, ↓x5, ↓x6, ↓x7, ↓x8, ↓x9, ↓xB, ↓xD, ↓xE, ↓xF, ↓xG, ↓xH, ↓xI, ↓xJ, ↓xK, ↓xL, ↓xM, ↓xN, ↓xO, ↓xP, ↓xQ, ↓xR, ↓xS, ↓xT, ↓xU, ↓xV, ↓xW, ↓xX, ↓xY, ↓xZ, ↓qb, ↓qc, ↓qd, ↓qf, ↓qg, ↓qh, ↓qi, ↓qj, ↓qk, ↓ql, ↓qm, ↓qo, ↓qp, ↓qr, ↓qt, ↓qu, ↓qv, ↓qw, ↓qz, ↓qA, ↓qB, ↓qC, ↓qE, ↓qF, ↓qG, ↓qH, ↓qI, ↓qJ, ↓qL, ↓qM, ↓qN, ↓qO, ↓qP, ↓qQ, ↓qR, ↓qS, ↓qT, ↓qU, ↓qV, ↓qW, ↓qX, ↓qY, ↓qZ, ↓vf, ↓vg, ↓vh, ↓vi, ↓vj, ↓vk, ↓vl, ↓vm, ↓vo, ↓vp, ↓vq, ↓vt, ↓vu, ↓vw, vz, v6, ↓v7, ↓v8, ↓v9, ↓vA, ↓vB, ↓vC, ↓vD, ↓vE, ↓vF, ↓vG, ↓vH, ↓vI, ↓vJ, ↓vK, ↓vL, ↓vM, ↓vN, ↓vO, dLt, dLe, dGt, dGe, vP, vQ, vR, vS, vT, dI2, vU, vV, dEq, dNe, vW, vX, vY, vZ, ja, jb, jc, jd, je, jf, Option.some.injEq, jg, jh, ji, jk, jl, dIs, jm, jn, shs, kiC, jo, jp, obD, id_eq, List.getElem?_cons_zero, List.getElem?_cons_succ, List.set_cons_zero, List.set_cons_succ, List.length_cons, List.length_nil, D.bl.injEq, exists_eq_left', decide_eq_true_eq, decide_eq_false_iff_not, Bool.not_eq_true', Bool.not_eq_false', Nat.zero_add, Nat.reduceAdd, true_and, and_true, forall_const, reduceCtorEq, not_true_eq_false, not_false_eq_true, false_implies, true_implies, implies_true, jq, Nat.reduceLeDiff, Int.reduceLE, Int.reduceLT, Int.reduceNeg, Int.reducePow, Int.reduceAdd, Int.reduceSub, Int.reduceMul, jb, wf_Carry_init]
      refine fun x => ⟨by rw [List.length_map]; omega, by rw [List.length_map]; omega, _, rfl, ?_⟩
      refine ⟨⟨_, rfl, trivial⟩, _, _, rfl, rfl, by (rw [List.length_map]; have := szl; omega), ?_⟩
      refine hC _ ⟨.sh (qD e.1), ?_⟩
      have ep : putA (dn.map fun e => qK e.1) (dn.map fun e => e.2.dd) (qK e.1) e.2.dd = ((dn ++ [e]).map (fun e => qK e.1), (dn ++ [e]).map fun e => e.2.dd) := by
        unfold putA
        rw [if_neg nk, List.map_append, List.map_append]; rfl
      have ev : otD (.ins "Carry" ["to", "cost"] [.sh (.lst (e.2.to.map D.int)), .sh (.lst (e.2.cost.map D.int))]) = e.2.dd := rfl
      have ek : ([Sum.inl e.1.1, Sum.inl e.1.2] : List Key) = qK e.1 := rfl
      rw [ek, ev, ep]; rfl
    · rintro ρ ⟨s2, rfl⟩
      simp only [↓za, ↓zb, ↓zc, ↓zd, ↓ze, ↓zf, ↓zg, ↓zh, ↓zi, ↓zj, ↓zk, ↓zl, ↓zm, ↓zn, ↓zo, ↓zp, ↓zq, ↓zr, ↓zt, ↓zu, ↓zv, ↓zw, ↓zx, zy, zz, ↓z3, ↓z7, ↓z8, ↓z9, ↓zA, ↓zB, ↓zC, ↓zD, ↓zE, ↓zF, ↓zG, ↓zH, ↓zI, ↓zJ, ↓zK, ↓zL, ↓zM, ↓zN, ↓zO, ↓zP, ↓zQ, ↓zR, ↓zS, ↓zT, ↓zU, ↓zV, ↓zW, ↓zX, ↓zY, ↓zZ, ↓xf, ↓xg, ↓xh, ↓xi, ↓xj, ↓xk, ↓xl, ↓xm, ↓xq, xt, ↓xu, ↓xw, ↓xy, ↓xz, ↓x5, ↓x6, ↓x7, ↓x8, ↓x9, ↓xB, ↓xD, ↓xE, ↓xF, ↓xG, ↓xH, ↓xI, ↓xJ, ↓xK, ↓xL, ↓xM, ↓xN, ↓xO, ↓xP, ↓xQ, ↓xR, ↓xS, ↓xT, ↓xU, ↓xV, ↓xW, ↓xX, ↓xY, ↓xZ, ↓qb, ↓qc, ↓qd, ↓qf, ↓qg, ↓qh, ↓qi, ↓qj, ↓qk, ↓ql, ↓qm, ↓qo, ↓qp, ↓qr, ↓qt, ↓qu, ↓qv, ↓qw, ↓qz, ↓qA, ↓qB, ↓qC, ↓qE, ↓qF, ↓qG, ↓qH, ↓qI, ↓qJ, ↓qL, ↓qM, ↓qN, ↓qO, ↓qP, ↓qQ, ↓qR, ↓qS, ↓qT, ↓qU, ↓qV, ↓qW, ↓qX, ↓qY, ↓qZ, ↓vf, ↓vg, ↓vh, ↓vi, ↓vj, ↓vk, ↓vl, ↓vm, ↓vo, ↓vp, ↓vq, ↓vt, ↓vu, ↓vw, vz, v6, ↓v7, ↓v8, ↓v9, ↓vA, ↓vB, ↓vC, ↓vD, ↓vE, ↓vF, ↓vG, ↓vH, ↓vI, ↓vJ, ↓vK, ↓vL, ↓vM, ↓vN, ↓vO, dLt, dLe, dGt, dGe, vP, vQ, vR, vS, vT, dI2, vU, vV, dEq, dNe, vW, vX, vY, vZ, ja, jb, jc, jd, je, jf, Option.some.injEq, jg, jh, ji, jk, jl, dIs, jm, jn, shs, kiC, jo, jp, obD, id_eq, List.getElem?_cons_zero, List.getElem?_cons_succ, List.set_cons_zero, List.set_cons_succ, List.length_cons, List.length_nil, D.bl.injEq, exists_eq_left', decide_eq_true_eq, decide_eq_false_iff_not, Bool.not_eq_true', Bool.not_eq_false', Nat.zero_add, Nat.reduceAdd, true_and, and_true, forall_const, reduceCtorEq, not_true_eq_false, not_false_eq_true, false_implies, true_implies, implies_true, jq, Nat.reduceLeDiff, Int.reduceLE, Int.reduceLT, Int.reduceNeg, Int.reducePow, Int.reduceAdd, Int.reduceSub, Int.reduceMul]
      exact q
  · exact h.elim
def wf__law_year : WFg
  | [.sh (.ad x), .sh f], gs, Q => ∃ (c : AC) (fs : List Str) (cs : List Nat), gs = c.cells ∧ x = c.s ∧ WOk c.ms c.pl fs ∧ AInv c.ms c.a ∧ c.a.deeds.length ≤ 1000 ∧ f = .str (fstr cs) ∧ cs.length ≤ 100 ∧ Q (doA c.ms c.pl fs c.a (.year cs)).dd { c with a := (doA c.ms c.pl fs c.a (.year cs)).st c.a }.cells
  | _, _, _ => False
theorem len__law_year : ∀ as gs Qd, wf__law_year as gs Qd → as.length = 2 ∧ gs.length ≤ 3 := fun as gs Qd h => by
  unfold wf__law_year at h
  split at h
  · obtain ⟨c, fs, cs, rfl, _⟩ := h; exact ⟨rfl, Nat.le_refl 3⟩
  · exact h.elim
def w__law_year : WS := (wTryRetM ["UnknownFact"] 2 (wxTup (xlCons (xC (.str "unknown")) (xlCons (xFld "UnknownFact" "fact") xlNil))) 0 "Account" "year" wf_Account_year (asCons (wVar 1) asNil))
theorem p__law_year : ∀ as gs Qd, wf__law_year as gs Qd → w__law_year (startG 1 3 as gs) (endG [3, 4, 5] Qd) := fun as gs Qd h => by
  unfold wf__law_year at h
  split at h
  · obtain ⟨c, fs, cs, rfl, rfl, w, h, hb, rfl, hcl, q⟩ := h
    show w__law_year [.sh (.ad c.s), .sh (.str (fstr cs)), .no, .gh c.s (.ins "Account" acF [.lst (c.ms.map Mach.dd), caD c.pl, .ad c.d, .ad c.p]), .gh c.d (.lst (c.a.deeds.map Deed.dd)), .gh c.p (.lst (c.a.past.map Pt.dd))] _
    unfold w__law_year
    rw [zb]
    refine ⟨⟨c.s, 3, _, _, rfl, rfl, acF_nd.1⟩, ?_⟩
    simp only [↓qm, ↓ql, ↓xY, List.getElem?_cons_zero, List.getElem?_cons_succ]
    refine ⟨c.s, [3, 4, 5], [3, 4, 5], rfl, fun s hs z => ?_, ?_⟩
    · rw [z, List.mem_singleton] at hs; cases hs
    simp only [↓za, ↓zb, ↓zc, ↓zd, ↓ze, ↓zf, ↓zg, ↓zh, ↓zi, ↓zj, ↓zk, ↓zl, ↓zm, ↓zn, ↓zo, ↓zp, ↓zq, ↓zr, ↓zt, ↓zu, ↓zv, ↓zw, ↓zx, zy, zz, ↓z3, ↓z7, ↓z8, ↓z9, ↓zA, ↓zB, ↓zC, ↓zD, ↓zE, ↓zF, ↓zG, ↓zH, ↓zI, ↓zJ, ↓zK, ↓zL, ↓zM, ↓zN, ↓zO, ↓zP, ↓zQ, ↓zR, ↓zS, ↓zT, ↓zU, ↓zV, ↓zW, ↓zX, ↓zY, ↓zZ, ↓xf, ↓xg, ↓xh, ↓xi, ↓xj, ↓xk, ↓xl, ↓xm, ↓xq, xt, ↓xu, ↓xw, ↓xy, ↓xz, ↓x5, ↓x6, ↓x7, ↓x8, ↓x9, ↓xB, ↓xD, ↓xE, ↓xF, ↓xG, ↓xH, ↓xI, ↓xJ, ↓xK, ↓xL, ↓xM, ↓xN, ↓xO, ↓xP, ↓xQ, ↓xR, ↓xS, ↓xT, ↓xU, ↓xV, ↓xW, ↓xX, ↓xY, ↓xZ, ↓qb, ↓qc, ↓qd, ↓qf, ↓qg, ↓qh, ↓qi, ↓qj, ↓qk, ↓ql, ↓qm, ↓qo, ↓qp, ↓qr, ↓qt, ↓qu, ↓qv, ↓qw, ↓qz, ↓qA, ↓qB, ↓qC, ↓qE, ↓qF, ↓qG, ↓qH, ↓qI, ↓qJ, ↓qL, ↓qM, ↓qN, ↓qO, ↓qP, ↓qQ, ↓qR, ↓qS, ↓qT, ↓qU, ↓qV, ↓qW, ↓qX, ↓qY, ↓qZ, ↓vf, ↓vg, ↓vh, ↓vi, ↓vj, ↓vk, ↓vl, ↓vm, ↓vo, ↓vp, ↓vq, ↓vt, ↓vu, ↓vw, vz, v6, ↓v7, ↓v8, ↓v9, ↓vA, ↓vB, ↓vC, ↓vD, ↓vE, ↓vF, ↓vG, ↓vH, ↓vI, ↓vJ, ↓vK, ↓vL, ↓vM, ↓vN, ↓vO, dLt, dLe, dGt, dGe, vP, vQ, vR, vS, vT, dI2, vU, vV, dEq, dNe, vW, vX, vY, vZ, ja, jb, jc, jd, je, jf, Option.some.injEq, jg, jh, ji, jk, jl, dIs, jm, jn, shs, kiC, jo, jp, obD, id_eq, List.getElem?_cons_zero, List.getElem?_cons_succ, List.set_cons_zero, List.set_cons_succ, List.length_cons, List.length_nil, D.bl.injEq, exists_eq_left', decide_eq_true_eq, decide_eq_false_iff_not, Bool.not_eq_true', Bool.not_eq_false', Nat.zero_add, Nat.reduceAdd, true_and, and_true, forall_const, reduceCtorEq, not_true_eq_false, not_false_eq_true, false_implies, true_implies, implies_true, jq, Nat.reduceLeDiff, Int.reduceLE, Int.reduceLT, Int.reduceNeg, Int.reducePow, Int.reduceAdd, Int.reduceSub, Int.reduceMul]
    refine ⟨c, fs, cs, rfl, rfl, w, h, hb, rfl, hcl, fun _ => ⟨rfl, rfl, rfl, q⟩, fun hf => ⟨rfl, rfl, rfl, rfl, List.mem_singleton.mpr rfl, ?_⟩⟩
    simp only [doA, if_neg hf, Ev.dd, Ev.st] at q
    refine ⟨[.str "unknown", .str (fstr cs)], [.str "unknown", .str (fstr cs)], ⟨_, _, rfl, rfl, _, _, rfl, ?_, rfl⟩, rfl, by show 2 ≤ 1000; decide, q⟩
    exact ⟨rfl, rfl⟩
  · exact h.elim
def wf__law_move : WFg
  | [.sh (.ad x), .sh (.int n)], gs, Q => ∃ (c : AC) (fs : List Str), gs = c.cells ∧ x = c.s ∧ WOk c.ms c.pl fs ∧ AInv c.ms c.a ∧ c.a.deeds.length ≤ 1000 ∧ 0 ≤ n ∧ n ≤ 300 ∧ Q (doA c.ms c.pl fs c.a (.move n)).dd { c with a := (doA c.ms c.pl fs c.a (.move n)).st c.a }.cells
  | _, _, _ => False
theorem len__law_move : ∀ as gs Qd, wf__law_move as gs Qd → as.length = 2 ∧ gs.length ≤ 3 := fun as gs Qd h => by
  unfold wf__law_move at h
  split at h
  · obtain ⟨c, fs, rfl, _⟩ := h; exact ⟨rfl, Nat.le_refl 3⟩
  · exact h.elim
def w__law_move : WS := (wTryRetM ["NoCarry"] 2 (wxTup (xlCons (xC (.str "no carry")) (xlCons (xFld "NoCarry" "scheme") (xlCons (xFld "NoCarry" "other") xlNil)))) 0 "Account" "move" wf_Account_move (asCons (wVar 1) asNil))
theorem p__law_move : ∀ as gs Qd, wf__law_move as gs Qd → w__law_move (startG 1 3 as gs) (endG [3, 4, 5] Qd) := fun as gs Qd h => by
  unfold wf__law_move at h
  split at h
  · rename_i x n
    obtain ⟨c, fs, rfl, rfl, w, h, hb, h0, h1, q⟩ := h
    show w__law_move [.sh (.ad c.s), .sh (.int n), .no, .gh c.s (.ins "Account" acF [.lst (c.ms.map Mach.dd), caD c.pl, .ad c.d, .ad c.p]), .gh c.d (.lst (c.a.deeds.map Deed.dd)), .gh c.p (.lst (c.a.past.map Pt.dd))] _
    unfold w__law_move
    rw [zb]
    refine ⟨⟨c.s, 3, _, _, rfl, rfl, acF_nd.2.1⟩, ?_⟩
    simp only [↓qm, ↓ql, ↓xY, List.getElem?_cons_zero, List.getElem?_cons_succ]
    refine ⟨c.s, [3, 4, 5], [3, 4, 5], rfl, fun s hs z => ?_, ?_⟩
    · rw [z, List.mem_singleton] at hs; cases hs
    simp only [↓za, ↓zb, ↓zc, ↓zd, ↓ze, ↓zf, ↓zg, ↓zh, ↓zi, ↓zj, ↓zk, ↓zl, ↓zm, ↓zn, ↓zo, ↓zp, ↓zq, ↓zr, ↓zt, ↓zu, ↓zv, ↓zw, ↓zx, zy, zz, ↓z3, ↓z7, ↓z8, ↓z9, ↓zA, ↓zB, ↓zC, ↓zD, ↓zE, ↓zF, ↓zG, ↓zH, ↓zI, ↓zJ, ↓zK, ↓zL, ↓zM, ↓zN, ↓zO, ↓zP, ↓zQ, ↓zR, ↓zS, ↓zT, ↓zU, ↓zV, ↓zW, ↓zX, ↓zY, ↓zZ, ↓xf, ↓xg, ↓xh, ↓xi, ↓xj, ↓xk, ↓xl, ↓xm, ↓xq, xt, ↓xu, ↓xw, ↓xy, ↓xz, ↓x5, ↓x6, ↓x7, ↓x8, ↓x9, ↓xB, ↓xD, ↓xE, ↓xF, ↓xG, ↓xH, ↓xI, ↓xJ, ↓xK, ↓xL, ↓xM, ↓xN, ↓xO, ↓xP, ↓xQ, ↓xR, ↓xS, ↓xT, ↓xU, ↓xV, ↓xW, ↓xX, ↓xY, ↓xZ, ↓qb, ↓qc, ↓qd, ↓qf, ↓qg, ↓qh, ↓qi, ↓qj, ↓qk, ↓ql, ↓qm, ↓qo, ↓qp, ↓qr, ↓qt, ↓qu, ↓qv, ↓qw, ↓qz, ↓qA, ↓qB, ↓qC, ↓qE, ↓qF, ↓qG, ↓qH, ↓qI, ↓qJ, ↓qL, ↓qM, ↓qN, ↓qO, ↓qP, ↓qQ, ↓qR, ↓qS, ↓qT, ↓qU, ↓qV, ↓qW, ↓qX, ↓qY, ↓qZ, ↓vf, ↓vg, ↓vh, ↓vi, ↓vj, ↓vk, ↓vl, ↓vm, ↓vo, ↓vp, ↓vq, ↓vt, ↓vu, ↓vw, vz, v6, ↓v7, ↓v8, ↓v9, ↓vA, ↓vB, ↓vC, ↓vD, ↓vE, ↓vF, ↓vG, ↓vH, ↓vI, ↓vJ, ↓vK, ↓vL, ↓vM, ↓vN, ↓vO, dLt, dLe, dGt, dGe, vP, vQ, vR, vS, vT, dI2, vU, vV, dEq, dNe, vW, vX, vY, vZ, ja, jb, jc, jd, je, jf, Option.some.injEq, jg, jh, ji, jk, jl, dIs, jm, jn, shs, kiC, jo, jp, obD, id_eq, List.getElem?_cons_zero, List.getElem?_cons_succ, List.set_cons_zero, List.set_cons_succ, List.length_cons, List.length_nil, D.bl.injEq, exists_eq_left', decide_eq_true_eq, decide_eq_false_iff_not, Bool.not_eq_true', Bool.not_eq_false', Nat.zero_add, Nat.reduceAdd, true_and, and_true, forall_const, reduceCtorEq, not_true_eq_false, not_false_eq_true, false_implies, true_implies, implies_true, jq, Nat.reduceLeDiff, Int.reduceLE, Int.reduceLT, Int.reduceNeg, Int.reducePow, Int.reduceAdd, Int.reduceSub, Int.reduceMul]
    refine ⟨c, fs, rfl, rfl, w, h, hb, h0, h1, fun _ => ⟨rfl, rfl, rfl, q⟩, fun hf => ⟨rfl, rfl, rfl, rfl, List.mem_singleton.mpr rfl, ?_⟩⟩
    simp only [doA, hf, Ev.dd, Ev.st] at q
    refine ⟨[.str "no carry", .int (lastP c.a).s, .int n], [.str "no carry", .int (lastP c.a).s, .int n], ⟨_, _, rfl, rfl, _, _, rfl, ?_, _, _, rfl, ?_, rfl⟩, rfl, by show 3 ≤ 1000; decide, q⟩
    · exact ⟨rfl, rfl⟩
    · exact ⟨rfl, rfl⟩
  · exact h.elim
def wf__law_done : WFg
  | [.sh (.lst m), .sh l, .sh (.ad x), .sh (.ad y), .sh d], gs, Q => ∃ (c : PC) (ms : List Mach) (pl : PL) (fs : List Str) (e : Deed), gs = c.cells ∧ x = c.p ∧ y = c.d ∧ m = ms.map Mach.dd ∧ l = plD pl ∧ WOk ms pl fs ∧ AInv ms c.a ∧ c.a.deeds.length ≤ 1000 ∧ d = e.dd ∧ Q (doA ms pl fs c.a e).dd { c with a := (doA ms pl fs c.a e).st c.a }.cells
  | _, _, _ => False
theorem len__law_done : ∀ as gs Qd, wf__law_done as gs Qd → as.length = 5 ∧ gs.length ≤ 2 := fun as gs Qd h => by
  unfold wf__law_done at h
  split at h
  · obtain ⟨c, ms, pl, fs, e, rfl, _⟩ := h; exact ⟨rfl, Nat.le_refl 2⟩
  · exact h.elim
theorem ms0 {ms : List Mach} {pl : PL} {fs : List Str} (w : WOk ms pl fs) : ∃ m, atI (ms.map Mach.dd) 0 = some m.dd ∧ m ∈ ms := by
  obtain ⟨m, _, hm, e⟩ := ms_at (ms := ms) (k := 0) (Int.le_refl _) (by have := w.so.n1; omega)
  exact ⟨m, e, hm⟩
def w__law_done_t1 : WS := (wRet (wVar 8))
def w__law_done_t2 : WS := (wAppC 11 (wVar 2) (wTup (waCons (wVar 5) (waCons (wOp dIx (wOp dIx (wFld "Machine" "step" (wOp dIx (wPk 0) (wPk 5))) (wPk 6)) (wOp dIx (wPk 4) (wC (.int 1)))) (waCons (wOp vV (wPk 7) (wPk 8)) waNil)))))
def w__law_done_t3 : WS := (wSeq (wAsg (wOp dIx (wOp dIx (wFld "Machine" "gain" (wOp dIx (wPk 0) (wPk 5))) (wPk 6)) (wOp dIx (wPk 4) (wC (.int 1)))) (wSt 8))
 w__law_done_t2)
def w__law_done_t4 : WS := (wAppC 11 (wVar 2) (wTup (waCons (wOp dIx (wPk 4) (wC (.int 1))) (waCons (wOp dIx (wPk 9) (wPk 6)) (waCons (wOp vP (wPk 7) (wPk 8)) waNil)))))
def w__law_done_t5 : WS := (wSeq (wAsg (wOp dIx (wPk 10) (wPk 6)) (wSt 8))
 w__law_done_t4)
def w__law_done_t6 : WS := (wSeq (wAsg (wOp dIx (wPk 1) (wTup (waCons (wVar 5) (waCons (wOp dIx (wPk 4) (wC (.int 1))) waNil)))) (wTpL [9, 10]))
 w__law_done_t5)
def w__law_done_t7 : WS := (wSeq (wAppC 12 (wVar 3) (wVar 4))
 w__law_done_t1)
def w__law_done_t8 : WS := (wRet (wC (.bl true)))
def w__law_done_t9 : WS := (wSeq (wDrop (wPopC 11 (wVar 2)))
 w__law_done_t8)
def w__law_done_t10 : WS := (wSeq (wDrop (wPopC 12 (wVar 3)))
 w__law_done_t9)
def w__law_done_t11 : WS := (wSeq (wIf (wTst (wOp dEq (wOp dIx (wPk 4) (wC (.int 0))) (wC (.str "year"))))
 (wSeq (wIf (wTst (wOp dNotIn (wOp dIx (wPk 4) (wC (.int 1))) (wFld "Machine" "facts" (wOp dIx (wPk 0) (wC (.int 0))))))
 (wRet (wTup (waCons (wC (.str "unknown")) (waCons (wOp dIx (wPk 4) (wC (.int 1))) waNil))))
 wNext)
 w__law_done_t3)
 (wSeq (wIf (wTst (wOp dNotIn (wTup (waCons (wVar 5) (waCons (wOp dIx (wPk 4) (wC (.int 1))) waNil))) (wPk 1)))
 (wRet (wTup (waCons (wC (.str "no carry")) (waCons (wVar 5) (waCons (wOp dIx (wPk 4) (wC (.int 1))) waNil)))))
 wNext)
 w__law_done_t6))
 w__law_done_t7)
def w__law_done_t12 : WS := (wSeq (wIf (wTst (wOp dEq (wOp dIx (wPk 4) (wC (.int 0))) (wC (.str "undo"))))
 (wSeq (wIf (wTst (wOp dEq (wUn vW (wDer 12 (wVar 3))) (wC (.int 0))))
 (wRet (wC (.bl false)))
 wNext)
 w__law_done_t10)
 wNext)
 w__law_done_t11)
def w__law_done : WS := (wSeq (wAsg (wOp dIx (wDer 11 (wVar 2)) (wUn dNeg (wC (.int 1)))) (wTp [5, 6, 7]))
 w__law_done_t12)
theorem p__law_done : ∀ as gs Qd, wf__law_done as gs Qd → w__law_done (startG 6 2 as gs) (endG [11, 12] Qd) := fun as gs Qd h => by
  unfold wf__law_done at h
  split at h
  · obtain ⟨c, ms, pl, fs, e, rfl, rfl, rfl, rfl, rfl, w, h, hb, rfl, q⟩ := h
    obtain ⟨hl, hp⟩ := h.last
    obtain ⟨m1, m2, m3⟩ := machAt_at hp.s0 hp.s1
    have t1 := hp.t1
    have t0 := hp.t0
    have mo := w.so.mo _ m1
    have fa := w.fa _ m1
    have hln := h.ln
    show w__law_done [.sh (.lst (ms.map Mach.dd)), .sh (plD pl), .sh (.ad c.p), .sh (.ad c.d), .sh e.dd, .no, .no, .no, .no, .no, .no, .gh c.p (.lst (c.a.past.map Pt.dd)), .gh c.d (.lst (c.a.deeds.map Deed.dd))] _
    simp only [w__law_done, ↓za, ↓zb, ↓zc, ↓zd, ↓ze, ↓zf, ↓zg, ↓zh, ↓zi, ↓zj, ↓zk, ↓zl, ↓zm, ↓zn, ↓zo, ↓zp, ↓zq, ↓zr, ↓zt, ↓zu, ↓zv, ↓zw, ↓zx, zy, zz, ↓z3, ↓z7, ↓z8, ↓z9, ↓zA, ↓zB, ↓zC, ↓zD, ↓zE, ↓zF, ↓zG, ↓zH, ↓zI, ↓zJ, ↓zK, ↓zL, ↓zM, ↓zN, ↓zO, ↓zP, ↓zQ, ↓zR, ↓zS, ↓zT, ↓zU, ↓zV, ↓zW, ↓zX, ↓zY, ↓zZ, ↓xf, ↓xg, ↓xh, ↓xi, ↓xj, ↓xk, ↓xl, ↓xm, ↓xq, xt, ↓xu, ↓xw, ↓xy, ↓xz, ↓x5, ↓x6, ↓x7, ↓x8, ↓x9, ↓xB, ↓xD, ↓xE, ↓xF, ↓xG, ↓xH, ↓xI, ↓xJ, ↓xK, ↓xL, ↓xM, ↓xN, ↓xO, ↓xP, ↓xQ, ↓xR, ↓xS, ↓xT, ↓xU, ↓xV, ↓xW, ↓xX, ↓xY, ↓xZ, ↓qb, ↓qc, ↓qd, ↓qf, ↓qg, ↓qh, ↓qi, ↓qj, ↓qk, ↓ql, ↓qm, ↓qo, ↓qp, ↓qr, ↓qt, ↓qu, ↓qv, ↓qw, ↓qz, ↓qA, ↓qB, ↓qC, ↓qE, ↓qF, ↓qG, ↓qH, ↓qI, ↓qJ, ↓qL, ↓qM, ↓qN, ↓qO, ↓qP, ↓qQ, ↓qR, ↓qS, ↓qT, ↓qU, ↓qV, ↓qW, ↓qX, ↓qY, ↓qZ, ↓vf, ↓vg, ↓vh, ↓vi, ↓vj, ↓vk, ↓vl, ↓vm, ↓vo, ↓vp, ↓vq, ↓vt, ↓vu, ↓vw, vz, v6, ↓v7, ↓v8, ↓v9, ↓vA, ↓vB, ↓vC, ↓vD, ↓vE, ↓vF, ↓vG, ↓vH, ↓vI, ↓vJ, ↓vK, ↓vL, ↓vM, ↓vN, ↓vO, dLt, dLe, dGt, dGe, vP, vQ, vR, vS, vT, dI2, vU, vV, dEq, dNe, vW, vX, vY, vZ, ja, jb, jc, jd, je, jf, Option.some.injEq, jg, jh, ji, jk, jl, dIs, jm, jn, shs, kiC, jo, jp, obD, id_eq, List.getElem?_cons_zero, List.getElem?_cons_succ, List.set_cons_zero, List.set_cons_succ, List.length_cons, List.length_nil, D.bl.injEq, exists_eq_left', decide_eq_true_eq, decide_eq_false_iff_not, Bool.not_eq_true', Bool.not_eq_false', Nat.zero_add, Nat.reduceAdd, true_and, and_true, forall_const, reduceCtorEq, not_true_eq_false, not_false_eq_true, false_implies, true_implies, implies_true, jq, Nat.reduceLeDiff, Int.reduceLE, Int.reduceLT, Int.reduceNeg, Int.reducePow, Int.reduceAdd, Int.reduceSub, Int.reduceMul, dNeg]
    refine ⟨_, h.at1, ?_⟩
    obtain ⟨m0, em0, hm0⟩ := ms0 w
    have fa0 := w.fa _ hm0
    cases e with
    | undo =>
      simp only [Pt.dd, Deed.dd, w__law_done_t12, w__law_done_t10, w__law_done_t9, w__law_done_t8, ↓za, ↓zb, ↓zc, ↓zd, ↓ze, ↓zf, ↓zg, ↓zh, ↓zi, ↓zj, ↓zk, ↓zl, ↓zm, ↓zn, ↓zo, ↓zp, ↓zq, ↓zr, ↓zt, ↓zu, ↓zv, ↓zw, ↓zx, zy, zz, ↓z3, ↓z7, ↓z8, ↓z9, ↓zA, ↓zB, ↓zC, ↓zD, ↓zE, ↓zF, ↓zG, ↓zH, ↓zI, ↓zJ, ↓zK, ↓zL, ↓zM, ↓zN, ↓zO, ↓zP, ↓zQ, ↓zR, ↓zS, ↓zT, ↓zU, ↓zV, ↓zW, ↓zX, ↓zY, ↓zZ, ↓xf, ↓xg, ↓xh, ↓xi, ↓xj, ↓xk, ↓xl, ↓xm, ↓xq, xt, ↓xu, ↓xw, ↓xy, ↓xz, ↓x5, ↓x6, ↓x7, ↓x8, ↓x9, ↓xB, ↓xD, ↓xE, ↓xF, ↓xG, ↓xH, ↓xI, ↓xJ, ↓xK, ↓xL, ↓xM, ↓xN, ↓xO, ↓xP, ↓xQ, ↓xR, ↓xS, ↓xT, ↓xU, ↓xV, ↓xW, ↓xX, ↓xY, ↓xZ, ↓qb, ↓qc, ↓qd, ↓qf, ↓qg, ↓qh, ↓qi, ↓qj, ↓qk, ↓ql, ↓qm, ↓qo, ↓qp, ↓qr, ↓qt, ↓qu, ↓qv, ↓qw, ↓qz, ↓qA, ↓qB, ↓qC, ↓qE, ↓qF, ↓qG, ↓qH, ↓qI, ↓qJ, ↓qL, ↓qM, ↓qN, ↓qO, ↓qP, ↓qQ, ↓qR, ↓qS, ↓qT, ↓qU, ↓qV, ↓qW, ↓qX, ↓qY, ↓qZ, ↓vf, ↓vg, ↓vh, ↓vi, ↓vj, ↓vk, ↓vl, ↓vm, ↓vo, ↓vp, ↓vq, ↓vt, ↓vu, ↓vw, vz, v6, ↓v7, ↓v8, ↓v9, ↓vA, ↓vB, ↓vC, ↓vD, ↓vE, ↓vF, ↓vG, ↓vH, ↓vI, ↓vJ, ↓vK, ↓vL, ↓vM, ↓vN, ↓vO, dLt, dLe, dGt, dGe, vP, vQ, vR, vS, vT, dI2, vU, vV, dEq, dNe, vW, vX, vY, vZ, ja, jb, jc, jd, je, jf, Option.some.injEq, jg, jh, ji, jk, jl, dIs, jm, jn, shs, kiC, jo, jp, obD, id_eq, List.getElem?_cons_zero, List.getElem?_cons_succ, List.set_cons_zero, List.set_cons_succ, List.length_cons, List.length_nil, D.bl.injEq, exists_eq_left', decide_eq_true_eq, decide_eq_false_iff_not, Bool.not_eq_true', Bool.not_eq_false', Nat.zero_add, Nat.reduceAdd, true_and, and_true, forall_const, reduceCtorEq, not_true_eq_false, not_false_eq_true, false_implies, true_implies, implies_true, jq, Nat.reduceLeDiff, Int.reduceLE, Int.reduceLT, Int.reduceNeg, Int.reducePow, Int.reduceAdd, Int.reduceSub, Int.reduceMul, dEqB, List.length_map]
      cases ed : c.a.deeds with
      | nil =>
        simp only [doA, ed, Ev.dd, Ev.st, PC.cells] at q
        exact ⟨fun _ => q, (fun z => (z rfl).elim)⟩
      | cons e es =>
        simp only [doA, ed, Ev.dd, Ev.st, PC.cells] at q
        refine ⟨(fun z => by rw [List.length_cons] at z; omega), fun _ => ?_⟩
        obtain ⟨y, hy⟩ : ∃ y, (e :: es).getLast? = some y := ⟨_, List.getLast?_eq_some_getLast (by simp)⟩
        refine ⟨_, last_map hy, _, last_map hl, ?_⟩
        rw [drop_map, drop_map]
        exact q
    | year cs =>
      simp only [Pt.dd, Deed.dd, w__law_done_t12, w__law_done_t11, ↓za, ↓zb, ↓zc, ↓zd, ↓ze, ↓zf, ↓zg, ↓zh, ↓zi, ↓zj, ↓zk, ↓zl, ↓zm, ↓zn, ↓zo, ↓zp, ↓zq, ↓zr, ↓zt, ↓zu, ↓zv, ↓zw, ↓zx, zy, zz, ↓z3, ↓z7, ↓z8, ↓z9, ↓zA, ↓zB, ↓zC, ↓zD, ↓zE, ↓zF, ↓zG, ↓zH, ↓zI, ↓zJ, ↓zK, ↓zL, ↓zM, ↓zN, ↓zO, ↓zP, ↓zQ, ↓zR, ↓zS, ↓zT, ↓zU, ↓zV, ↓zW, ↓zX, ↓zY, ↓zZ, ↓xf, ↓xg, ↓xh, ↓xi, ↓xj, ↓xk, ↓xl, ↓xm, ↓xq, xt, ↓xu, ↓xw, ↓xy, ↓xz, ↓x5, ↓x6, ↓x7, ↓x8, ↓x9, ↓xB, ↓xD, ↓xE, ↓xF, ↓xG, ↓xH, ↓xI, ↓xJ, ↓xK, ↓xL, ↓xM, ↓xN, ↓xO, ↓xP, ↓xQ, ↓xR, ↓xS, ↓xT, ↓xU, ↓xV, ↓xW, ↓xX, ↓xY, ↓xZ, ↓qb, ↓qc, ↓qd, ↓qf, ↓qg, ↓qh, ↓qi, ↓qj, ↓qk, ↓ql, ↓qm, ↓qo, ↓qp, ↓qr, ↓qt, ↓qu, ↓qv, ↓qw, ↓qz, ↓qA, ↓qB, ↓qC, ↓qE, ↓qF, ↓qG, ↓qH, ↓qI, ↓qJ, ↓qL, ↓qM, ↓qN, ↓qO, ↓qP, ↓qQ, ↓qR, ↓qS, ↓qT, ↓qU, ↓qV, ↓qW, ↓qX, ↓qY, ↓qZ, ↓vf, ↓vg, ↓vh, ↓vi, ↓vj, ↓vk, ↓vl, ↓vm, ↓vo, ↓vp, ↓vq, ↓vt, ↓vu, ↓vw, vz, v6, ↓v7, ↓v8, ↓v9, ↓vA, ↓vB, ↓vC, ↓vD, ↓vE, ↓vF, ↓vG, ↓vH, ↓vI, ↓vJ, ↓vK, ↓vL, ↓vM, ↓vN, ↓vO, dLt, dLe, dGt, dGe, vP, vQ, vR, vS, vT, dI2, vU, vV, dEq, dNe, vW, vX, vY, vZ, ja, jb, jc, jd, je, jf, Option.some.injEq, jg, jh, ji, jk, jl, dIs, jm, jn, shs, kiC, jo, jp, obD, id_eq, List.getElem?_cons_zero, List.getElem?_cons_succ, List.set_cons_zero, List.set_cons_succ, List.length_cons, List.length_nil, D.bl.injEq, exists_eq_left', decide_eq_true_eq, decide_eq_false_iff_not, Bool.not_eq_true', Bool.not_eq_false', Nat.zero_add, Nat.reduceAdd, true_and, and_true, forall_const, reduceCtorEq, not_true_eq_false, not_false_eq_true, false_implies, true_implies, implies_true, jq, Nat.reduceLeDiff, Int.reduceLE, Int.reduceLT, Int.reduceNeg, Int.reducePow, Int.reduceAdd, Int.reduceSub, Int.reduceMul, dEqB, sn_yu, if_false]
      refine ⟨_, em0, ?_⟩
      simp only [Mach.dd, Cary.dd, lk_facts, lk_step, lk_gain, lk_leave, lk_to, lk_cost, ↓za, ↓zb, ↓zc, ↓zd, ↓ze, ↓zf, ↓zg, ↓zh, ↓zi, ↓zj, ↓zk, ↓zl, ↓zm, ↓zn, ↓zo, ↓zp, ↓zq, ↓zr, ↓zt, ↓zu, ↓zv, ↓zw, ↓zx, zy, zz, ↓z3, ↓z7, ↓z8, ↓z9, ↓zA, ↓zB, ↓zC, ↓zD, ↓zE, ↓zF, ↓zG, ↓zH, ↓zI, ↓zJ, ↓zK, ↓zL, ↓zM, ↓zN, ↓zO, ↓zP, ↓zQ, ↓zR, ↓zS, ↓zT, ↓zU, ↓zV, ↓zW, ↓zX, ↓zY, ↓zZ, ↓xf, ↓xg, ↓xh, ↓xi, ↓xj, ↓xk, ↓xl, ↓xm, ↓xq, xt, ↓xu, ↓xw, ↓xy, ↓xz, ↓x5, ↓x6, ↓x7, ↓x8, ↓x9, ↓xB, ↓xD, ↓xE, ↓xF, ↓xG, ↓xH, ↓xI, ↓xJ, ↓xK, ↓xL, ↓xM, ↓xN, ↓xO, ↓xP, ↓xQ, ↓xR, ↓xS, ↓xT, ↓xU, ↓xV, ↓xW, ↓xX, ↓xY, ↓xZ, ↓qb, ↓qc, ↓qd, ↓qf, ↓qg, ↓qh, ↓qi, ↓qj, ↓qk, ↓ql, ↓qm, ↓qo, ↓qp, ↓qr, ↓qt, ↓qu, ↓qv, ↓qw, ↓qz, ↓qA, ↓qB, ↓qC, ↓qE, ↓qF, ↓qG, ↓qH, ↓qI, ↓qJ, ↓qL, ↓qM, ↓qN, ↓qO, ↓qP, ↓qQ, ↓qR, ↓qS, ↓qT, ↓qU, ↓qV, ↓qW, ↓qX, ↓qY, ↓qZ, ↓vf, ↓vg, ↓vh, ↓vi, ↓vj, ↓vk, ↓vl, ↓vm, ↓vo, ↓vp, ↓vq, ↓vt, ↓vu, ↓vw, vz, v6, ↓v7, ↓v8, ↓v9, ↓vA, ↓vB, ↓vC, ↓vD, ↓vE, ↓vF, ↓vG, ↓vH, ↓vI, ↓vJ, ↓vK, ↓vL, ↓vM, ↓vN, ↓vO, dLt, dLe, dGt, dGe, vP, vQ, vR, vS, vT, dI2, vU, vV, dEq, dNe, vW, vX, vY, vZ, ja, jb, jc, jd, je, jf, Option.some.injEq, jg, jh, ji, jk, jl, dIs, jm, jn, shs, kiC, jo, jp, obD, id_eq, List.getElem?_cons_zero, List.getElem?_cons_succ, List.set_cons_zero, List.set_cons_succ, List.length_cons, List.length_nil, D.bl.injEq, exists_eq_left', decide_eq_true_eq, decide_eq_false_iff_not, Bool.not_eq_true', Bool.not_eq_false', Nat.zero_add, Nat.reduceAdd, true_and, and_true, forall_const, reduceCtorEq, not_true_eq_false, not_false_eq_true, false_implies, true_implies, implies_true, jq, Nat.reduceLeDiff, Int.reduceLE, Int.reduceLT, Int.reduceNeg, Int.reducePow, Int.reduceAdd, Int.reduceSub, Int.reduceMul]
      refine notin_fs ?_
      rw [fa0]
      by_cases hf : fstr cs ∈ fs
      · simp only [doA, if_pos hf, Ev.dd, Ev.st, PC.cells, List.map_append, List.map_cons, List.map_nil, Pt.dd, Deed.dd] at q
        rw [show (⟨cs.toArray⟩ : Str) = fstr cs from rfl, decide_eq_true hf]
        simp only [Bool.not_true, w__law_done_t3, ↓za, ↓zb, ↓zc, ↓zd, ↓ze, ↓zf, ↓zg, ↓zh, ↓zi, ↓zj, ↓zk, ↓zl, ↓zm, ↓zn, ↓zo, ↓zp, ↓zq, ↓zr, ↓zt, ↓zu, ↓zv, ↓zw, ↓zx, zy, zz, ↓z3, ↓z7, ↓z8, ↓z9, ↓zA, ↓zB, ↓zC, ↓zD, ↓zE, ↓zF, ↓zG, ↓zH, ↓zI, ↓zJ, ↓zK, ↓zL, ↓zM, ↓zN, ↓zO, ↓zP, ↓zQ, ↓zR, ↓zS, ↓zT, ↓zU, ↓zV, ↓zW, ↓zX, ↓zY, ↓zZ, ↓xf, ↓xg, ↓xh, ↓xi, ↓xj, ↓xk, ↓xl, ↓xm, ↓xq, xt, ↓xu, ↓xw, ↓xy, ↓xz, ↓x5, ↓x6, ↓x7, ↓x8, ↓x9, ↓xB, ↓xD, ↓xE, ↓xF, ↓xG, ↓xH, ↓xI, ↓xJ, ↓xK, ↓xL, ↓xM, ↓xN, ↓xO, ↓xP, ↓xQ, ↓xR, ↓xS, ↓xT, ↓xU, ↓xV, ↓xW, ↓xX, ↓xY, ↓xZ, ↓qb, ↓qc, ↓qd, ↓qf, ↓qg, ↓qh, ↓qi, ↓qj, ↓qk, ↓ql, ↓qm, ↓qo, ↓qp, ↓qr, ↓qt, ↓qu, ↓qv, ↓qw, ↓qz, ↓qA, ↓qB, ↓qC, ↓qE, ↓qF, ↓qG, ↓qH, ↓qI, ↓qJ, ↓qL, ↓qM, ↓qN, ↓qO, ↓qP, ↓qQ, ↓qR, ↓qS, ↓qT, ↓qU, ↓qV, ↓qW, ↓qX, ↓qY, ↓qZ, ↓vf, ↓vg, ↓vh, ↓vi, ↓vj, ↓vk, ↓vl, ↓vm, ↓vo, ↓vp, ↓vq, ↓vt, ↓vu, ↓vw, vz, v6, ↓v7, ↓v8, ↓v9, ↓vA, ↓vB, ↓vC, ↓vD, ↓vE, ↓vF, ↓vG, ↓vH, ↓vI, ↓vJ, ↓vK, ↓vL, ↓vM, ↓vN, ↓vO, dLt, dLe, dGt, dGe, vP, vQ, vR, vS, vT, dI2, vU, vV, dEq, dNe, vW, vX, vY, vZ, ja, jb, jc, jd, je, jf, Option.some.injEq, jg, jh, ji, jk, jl, dIs, jm, jn, shs, kiC, jo, jp, obD, id_eq, List.getElem?_cons_zero, List.getElem?_cons_succ, List.set_cons_zero, List.set_cons_succ, List.length_cons, List.length_nil, D.bl.injEq, exists_eq_left', decide_eq_true_eq, decide_eq_false_iff_not, Bool.not_eq_true', Bool.not_eq_false', Nat.zero_add, Nat.reduceAdd, true_and, and_true, forall_const, reduceCtorEq, not_true_eq_false, not_false_eq_true, false_implies, true_implies, implies_true, jq, Nat.reduceLeDiff, Int.reduceLE, Int.reduceLT, Int.reduceNeg, Int.reducePow, Int.reduceAdd, Int.reduceSub, Int.reduceMul]
        refine ⟨_, m2, ?_⟩
        simp only [Mach.dd, Cary.dd, lk_facts, lk_step, lk_gain, lk_leave, lk_to, lk_cost, ↓za, ↓zb, ↓zc, ↓zd, ↓ze, ↓zf, ↓zg, ↓zh, ↓zi, ↓zj, ↓zk, ↓zl, ↓zm, ↓zn, ↓zo, ↓zp, ↓zq, ↓zr, ↓zt, ↓zu, ↓zv, ↓zw, ↓zx, zy, zz, ↓z3, ↓z7, ↓z8, ↓z9, ↓zA, ↓zB, ↓zC, ↓zD, ↓zE, ↓zF, ↓zG, ↓zH, ↓zI, ↓zJ, ↓zK, ↓zL, ↓zM, ↓zN, ↓zO, ↓zP, ↓zQ, ↓zR, ↓zS, ↓zT, ↓zU, ↓zV, ↓zW, ↓zX, ↓zY, ↓zZ, ↓xf, ↓xg, ↓xh, ↓xi, ↓xj, ↓xk, ↓xl, ↓xm, ↓xq, xt, ↓xu, ↓xw, ↓xy, ↓xz, ↓x5, ↓x6, ↓x7, ↓x8, ↓x9, ↓xB, ↓xD, ↓xE, ↓xF, ↓xG, ↓xH, ↓xI, ↓xJ, ↓xK, ↓xL, ↓xM, ↓xN, ↓xO, ↓xP, ↓xQ, ↓xR, ↓xS, ↓xT, ↓xU, ↓xV, ↓xW, ↓xX, ↓xY, ↓xZ, ↓qb, ↓qc, ↓qd, ↓qf, ↓qg, ↓qh, ↓qi, ↓qj, ↓qk, ↓ql, ↓qm, ↓qo, ↓qp, ↓qr, ↓qt, ↓qu, ↓qv, ↓qw, ↓qz, ↓qA, ↓qB, ↓qC, ↓qE, ↓qF, ↓qG, ↓qH, ↓qI, ↓qJ, ↓qL, ↓qM, ↓qN, ↓qO, ↓qP, ↓qQ, ↓qR, ↓qS, ↓qT, ↓qU, ↓qV, ↓qW, ↓qX, ↓qY, ↓qZ, ↓vf, ↓vg, ↓vh, ↓vi, ↓vj, ↓vk, ↓vl, ↓vm, ↓vo, ↓vp, ↓vq, ↓vt, ↓vu, ↓vw, vz, v6, ↓v7, ↓v8, ↓v9, ↓vA, ↓vB, ↓vC, ↓vD, ↓vE, ↓vF, ↓vG, ↓vH, ↓vI, ↓vJ, ↓vK, ↓vL, ↓vM, ↓vN, ↓vO, dLt, dLe, dGt, dGe, vP, vQ, vR, vS, vT, dI2, vU, vV, dEq, dNe, vW, vX, vY, vZ, ja, jb, jc, jd, je, jf, Option.some.injEq, jg, jh, ji, jk, jl, dIs, jm, jn, shs, kiC, jo, jp, obD, id_eq, List.getElem?_cons_zero, List.getElem?_cons_succ, List.set_cons_zero, List.set_cons_succ, List.length_cons, List.length_nil, D.bl.injEq, exists_eq_left', decide_eq_true_eq, decide_eq_false_iff_not, Bool.not_eq_true', Bool.not_eq_false', Nat.zero_add, Nat.reduceAdd, true_and, and_true, forall_const, reduceCtorEq, not_true_eq_false, not_false_eq_true, false_implies, true_implies, implies_true, jq, Nat.reduceLeDiff, Int.reduceLE, Int.reduceLT, Int.reduceNeg, Int.reducePow, Int.reduceAdd, Int.reduceSub, Int.reduceMul]
        refine ⟨_, Mach.at_gain mo t0 (by omega), Mach.ix_gain mo (by omega) (by rw [fa]; exact hf) ?_⟩
        simp only [w__law_done_t2, ↓za, ↓zb, ↓zc, ↓zd, ↓ze, ↓zf, ↓zg, ↓zh, ↓zi, ↓zj, ↓zk, ↓zl, ↓zm, ↓zn, ↓zo, ↓zp, ↓zq, ↓zr, ↓zt, ↓zu, ↓zv, ↓zw, ↓zx, zy, zz, ↓z3, ↓z7, ↓z8, ↓z9, ↓zA, ↓zB, ↓zC, ↓zD, ↓zE, ↓zF, ↓zG, ↓zH, ↓zI, ↓zJ, ↓zK, ↓zL, ↓zM, ↓zN, ↓zO, ↓zP, ↓zQ, ↓zR, ↓zS, ↓zT, ↓zU, ↓zV, ↓zW, ↓zX, ↓zY, ↓zZ, ↓xf, ↓xg, ↓xh, ↓xi, ↓xj, ↓xk, ↓xl, ↓xm, ↓xq, xt, ↓xu, ↓xw, ↓xy, ↓xz, ↓x5, ↓x6, ↓x7, ↓x8, ↓x9, ↓xB, ↓xD, ↓xE, ↓xF, ↓xG, ↓xH, ↓xI, ↓xJ, ↓xK, ↓xL, ↓xM, ↓xN, ↓xO, ↓xP, ↓xQ, ↓xR, ↓xS, ↓xT, ↓xU, ↓xV, ↓xW, ↓xX, ↓xY, ↓xZ, ↓qb, ↓qc, ↓qd, ↓qf, ↓qg, ↓qh, ↓qi, ↓qj, ↓qk, ↓ql, ↓qm, ↓qo, ↓qp, ↓qr, ↓qt, ↓qu, ↓qv, ↓qw, ↓qz, ↓qA, ↓qB, ↓qC, ↓qE, ↓qF, ↓qG, ↓qH, ↓qI, ↓qJ, ↓qL, ↓qM, ↓qN, ↓qO, ↓qP, ↓qQ, ↓qR, ↓qS, ↓qT, ↓qU, ↓qV, ↓qW, ↓qX, ↓qY, ↓qZ, ↓vf, ↓vg, ↓vh, ↓vi, ↓vj, ↓vk, ↓vl, ↓vm, ↓vo, ↓vp, ↓vq, ↓vt, ↓vu, ↓vw, vz, v6, ↓v7, ↓v8, ↓v9, ↓vA, ↓vB, ↓vC, ↓vD, ↓vE, ↓vF, ↓vG, ↓vH, ↓vI, ↓vJ, ↓vK, ↓vL, ↓vM, ↓vN, ↓vO, dLt, dLe, dGt, dGe, vP, vQ, vR, vS, vT, dI2, vU, vV, dEq, dNe, vW, vX, vY, vZ, ja, jb, jc, jd, je, jf, Option.some.injEq, jg, jh, ji, jk, jl, dIs, jm, jn, shs, kiC, jo, jp, obD, id_eq, List.getElem?_cons_zero, List.getElem?_cons_succ, List.set_cons_zero, List.set_cons_succ, List.length_cons, List.length_nil, D.bl.injEq, exists_eq_left', decide_eq_true_eq, decide_eq_false_iff_not, Bool.not_eq_true', Bool.not_eq_false', Nat.zero_add, Nat.reduceAdd, true_and, and_true, forall_const, reduceCtorEq, not_true_eq_false, not_false_eq_true, false_implies, true_implies, implies_true, jq, Nat.reduceLeDiff, Int.reduceLE, Int.reduceLT, Int.reduceNeg, Int.reducePow, Int.reduceAdd, Int.reduceSub, Int.reduceMul]
        refine ⟨_, m2, ?_⟩
        simp only [Mach.dd, Cary.dd, lk_facts, lk_step, lk_gain, lk_leave, lk_to, lk_cost, ↓za, ↓zb, ↓zc, ↓zd, ↓ze, ↓zf, ↓zg, ↓zh, ↓zi, ↓zj, ↓zk, ↓zl, ↓zm, ↓zn, ↓zo, ↓zp, ↓zq, ↓zr, ↓zt, ↓zu, ↓zv, ↓zw, ↓zx, zy, zz, ↓z3, ↓z7, ↓z8, ↓z9, ↓zA, ↓zB, ↓zC, ↓zD, ↓zE, ↓zF, ↓zG, ↓zH, ↓zI, ↓zJ, ↓zK, ↓zL, ↓zM, ↓zN, ↓zO, ↓zP, ↓zQ, ↓zR, ↓zS, ↓zT, ↓zU, ↓zV, ↓zW, ↓zX, ↓zY, ↓zZ, ↓xf, ↓xg, ↓xh, ↓xi, ↓xj, ↓xk, ↓xl, ↓xm, ↓xq, xt, ↓xu, ↓xw, ↓xy, ↓xz, ↓x5, ↓x6, ↓x7, ↓x8, ↓x9, ↓xB, ↓xD, ↓xE, ↓xF, ↓xG, ↓xH, ↓xI, ↓xJ, ↓xK, ↓xL, ↓xM, ↓xN, ↓xO, ↓xP, ↓xQ, ↓xR, ↓xS, ↓xT, ↓xU, ↓xV, ↓xW, ↓xX, ↓xY, ↓xZ, ↓qb, ↓qc, ↓qd, ↓qf, ↓qg, ↓qh, ↓qi, ↓qj, ↓qk, ↓ql, ↓qm, ↓qo, ↓qp, ↓qr, ↓qt, ↓qu, ↓qv, ↓qw, ↓qz, ↓qA, ↓qB, ↓qC, ↓qE, ↓qF, ↓qG, ↓qH, ↓qI, ↓qJ, ↓qL, ↓qM, ↓qN, ↓qO, ↓qP, ↓qQ, ↓qR, ↓qS, ↓qT, ↓qU, ↓qV, ↓qW, ↓qX, ↓qY, ↓qZ, ↓vf, ↓vg, ↓vh, ↓vi, ↓vj, ↓vk, ↓vl, ↓vm, ↓vo, ↓vp, ↓vq, ↓vt, ↓vu, ↓vw, vz, v6, ↓v7, ↓v8, ↓v9, ↓vA, ↓vB, ↓vC, ↓vD, ↓vE, ↓vF, ↓vG, ↓vH, ↓vI, ↓vJ, ↓vK, ↓vL, ↓vM, ↓vN, ↓vO, dLt, dLe, dGt, dGe, vP, vQ, vR, vS, vT, dI2, vU, vV, dEq, dNe, vW, vX, vY, vZ, ja, jb, jc, jd, je, jf, Option.some.injEq, jg, jh, ji, jk, jl, dIs, jm, jn, shs, kiC, jo, jp, obD, id_eq, List.getElem?_cons_zero, List.getElem?_cons_succ, List.set_cons_zero, List.set_cons_succ, List.length_cons, List.length_nil, D.bl.injEq, exists_eq_left', decide_eq_true_eq, decide_eq_false_iff_not, Bool.not_eq_true', Bool.not_eq_false', Nat.zero_add, Nat.reduceAdd, true_and, and_true, forall_const, reduceCtorEq, not_true_eq_false, not_false_eq_true, false_implies, true_implies, implies_true, jq, Nat.reduceLeDiff, Int.reduceLE, Int.reduceLT, Int.reduceNeg, Int.reducePow, Int.reduceAdd, Int.reduceSub, Int.reduceMul]
        refine ⟨_, Mach.at_step mo t0 (by omega), Mach.ix_step mo (by omega) (by rw [fa]; exact hf) ?_⟩
        simp only [w__law_done_t7, w__law_done_t1, ↓za, ↓zb, ↓zc, ↓zd, ↓ze, ↓zf, ↓zg, ↓zh, ↓zi, ↓zj, ↓zk, ↓zl, ↓zm, ↓zn, ↓zo, ↓zp, ↓zq, ↓zr, ↓zt, ↓zu, ↓zv, ↓zw, ↓zx, zy, zz, ↓z3, ↓z7, ↓z8, ↓z9, ↓zA, ↓zB, ↓zC, ↓zD, ↓zE, ↓zF, ↓zG, ↓zH, ↓zI, ↓zJ, ↓zK, ↓zL, ↓zM, ↓zN, ↓zO, ↓zP, ↓zQ, ↓zR, ↓zS, ↓zT, ↓zU, ↓zV, ↓zW, ↓zX, ↓zY, ↓zZ, ↓xf, ↓xg, ↓xh, ↓xi, ↓xj, ↓xk, ↓xl, ↓xm, ↓xq, xt, ↓xu, ↓xw, ↓xy, ↓xz, ↓x5, ↓x6, ↓x7, ↓x8, ↓x9, ↓xB, ↓xD, ↓xE, ↓xF, ↓xG, ↓xH, ↓xI, ↓xJ, ↓xK, ↓xL, ↓xM, ↓xN, ↓xO, ↓xP, ↓xQ, ↓xR, ↓xS, ↓xT, ↓xU, ↓xV, ↓xW, ↓xX, ↓xY, ↓xZ, ↓qb, ↓qc, ↓qd, ↓qf, ↓qg, ↓qh, ↓qi, ↓qj, ↓qk, ↓ql, ↓qm, ↓qo, ↓qp, ↓qr, ↓qt, ↓qu, ↓qv, ↓qw, ↓qz, ↓qA, ↓qB, ↓qC, ↓qE, ↓qF, ↓qG, ↓qH, ↓qI, ↓qJ, ↓qL, ↓qM, ↓qN, ↓qO, ↓qP, ↓qQ, ↓qR, ↓qS, ↓qT, ↓qU, ↓qV, ↓qW, ↓qX, ↓qY, ↓qZ, ↓vf, ↓vg, ↓vh, ↓vi, ↓vj, ↓vk, ↓vl, ↓vm, ↓vo, ↓vp, ↓vq, ↓vt, ↓vu, ↓vw, vz, v6, ↓v7, ↓v8, ↓v9, ↓vA, ↓vB, ↓vC, ↓vD, ↓vE, ↓vF, ↓vG, ↓vH, ↓vI, ↓vJ, ↓vK, ↓vL, ↓vM, ↓vN, ↓vO, dLt, dLe, dGt, dGe, vP, vQ, vR, vS, vT, dI2, vU, vV, dEq, dNe, vW, vX, vY, vZ, ja, jb, jc, jd, je, jf, Option.some.injEq, jg, jh, ji, jk, jl, dIs, jm, jn, shs, kiC, jo, jp, obD, id_eq, List.getElem?_cons_zero, List.getElem?_cons_succ, List.set_cons_zero, List.set_cons_succ, List.length_cons, List.length_nil, D.bl.injEq, exists_eq_left', decide_eq_true_eq, decide_eq_false_iff_not, Bool.not_eq_true', Bool.not_eq_false', Nat.zero_add, Nat.reduceAdd, true_and, and_true, forall_const, reduceCtorEq, not_true_eq_false, not_false_eq_true, false_implies, true_implies, implies_true, jq, Nat.reduceLeDiff, Int.reduceLE, Int.reduceLT, Int.reduceNeg, Int.reducePow, Int.reduceAdd, Int.reduceSub, Int.reduceMul, List.length_map]
        exact ⟨by omega, by omega, q⟩
      · simp only [doA, if_neg hf, Ev.dd, Ev.st, PC.cells] at q
        rw [show (⟨cs.toArray⟩ : Str) = fstr cs from rfl, decide_eq_false hf]
        simp only [Bool.not_false, ↓za, ↓zb, ↓zc, ↓zd, ↓ze, ↓zf, ↓zg, ↓zh, ↓zi, ↓zj, ↓zk, ↓zl, ↓zm, ↓zn, ↓zo, ↓zp, ↓zq, ↓zr, ↓zt, ↓zu, ↓zv, ↓zw, ↓zx, zy, zz, ↓z3, ↓z7, ↓z8, ↓z9, ↓zA, ↓zB, ↓zC, ↓zD, ↓zE, ↓zF, ↓zG, ↓zH, ↓zI, ↓zJ, ↓zK, ↓zL, ↓zM, ↓zN, ↓zO, ↓zP, ↓zQ, ↓zR, ↓zS, ↓zT, ↓zU, ↓zV, ↓zW, ↓zX, ↓zY, ↓zZ, ↓xf, ↓xg, ↓xh, ↓xi, ↓xj, ↓xk, ↓xl, ↓xm, ↓xq, xt, ↓xu, ↓xw, ↓xy, ↓xz, ↓x5, ↓x6, ↓x7, ↓x8, ↓x9, ↓xB, ↓xD, ↓xE, ↓xF, ↓xG, ↓xH, ↓xI, ↓xJ, ↓xK, ↓xL, ↓xM, ↓xN, ↓xO, ↓xP, ↓xQ, ↓xR, ↓xS, ↓xT, ↓xU, ↓xV, ↓xW, ↓xX, ↓xY, ↓xZ, ↓qb, ↓qc, ↓qd, ↓qf, ↓qg, ↓qh, ↓qi, ↓qj, ↓qk, ↓ql, ↓qm, ↓qo, ↓qp, ↓qr, ↓qt, ↓qu, ↓qv, ↓qw, ↓qz, ↓qA, ↓qB, ↓qC, ↓qE, ↓qF, ↓qG, ↓qH, ↓qI, ↓qJ, ↓qL, ↓qM, ↓qN, ↓qO, ↓qP, ↓qQ, ↓qR, ↓qS, ↓qT, ↓qU, ↓qV, ↓qW, ↓qX, ↓qY, ↓qZ, ↓vf, ↓vg, ↓vh, ↓vi, ↓vj, ↓vk, ↓vl, ↓vm, ↓vo, ↓vp, ↓vq, ↓vt, ↓vu, ↓vw, vz, v6, ↓v7, ↓v8, ↓v9, ↓vA, ↓vB, ↓vC, ↓vD, ↓vE, ↓vF, ↓vG, ↓vH, ↓vI, ↓vJ, ↓vK, ↓vL, ↓vM, ↓vN, ↓vO, dLt, dLe, dGt, dGe, vP, vQ, vR, vS, vT, dI2, vU, vV, dEq, dNe, vW, vX, vY, vZ, ja, jb, jc, jd, je, jf, Option.some.injEq, jg, jh, ji, jk, jl, dIs, jm, jn, shs, kiC, jo, jp, obD, id_eq, List.getElem?_cons_zero, List.getElem?_cons_succ, List.set_cons_zero, List.set_cons_succ, List.length_cons, List.length_nil, D.bl.injEq, exists_eq_left', decide_eq_true_eq, decide_eq_false_iff_not, Bool.not_eq_true', Bool.not_eq_false', Nat.zero_add, Nat.reduceAdd, true_and, and_true, forall_const, reduceCtorEq, not_true_eq_false, not_false_eq_true, false_implies, true_implies, implies_true, jq, Nat.reduceLeDiff, Int.reduceLE, Int.reduceLT, Int.reduceNeg, Int.reducePow, Int.reduceAdd, Int.reduceSub, Int.reduceMul]
        exact q
    | move n =>
      simp only [Pt.dd, Deed.dd, w__law_done_t12, w__law_done_t11, ↓za, ↓zb, ↓zc, ↓zd, ↓ze, ↓zf, ↓zg, ↓zh, ↓zi, ↓zj, ↓zk, ↓zl, ↓zm, ↓zn, ↓zo, ↓zp, ↓zq, ↓zr, ↓zt, ↓zu, ↓zv, ↓zw, ↓zx, zy, zz, ↓z3, ↓z7, ↓z8, ↓z9, ↓zA, ↓zB, ↓zC, ↓zD, ↓zE, ↓zF, ↓zG, ↓zH, ↓zI, ↓zJ, ↓zK, ↓zL, ↓zM, ↓zN, ↓zO, ↓zP, ↓zQ, ↓zR, ↓zS, ↓zT, ↓zU, ↓zV, ↓zW, ↓zX, ↓zY, ↓zZ, ↓xf, ↓xg, ↓xh, ↓xi, ↓xj, ↓xk, ↓xl, ↓xm, ↓xq, xt, ↓xu, ↓xw, ↓xy, ↓xz, ↓x5, ↓x6, ↓x7, ↓x8, ↓x9, ↓xB, ↓xD, ↓xE, ↓xF, ↓xG, ↓xH, ↓xI, ↓xJ, ↓xK, ↓xL, ↓xM, ↓xN, ↓xO, ↓xP, ↓xQ, ↓xR, ↓xS, ↓xT, ↓xU, ↓xV, ↓xW, ↓xX, ↓xY, ↓xZ, ↓qb, ↓qc, ↓qd, ↓qf, ↓qg, ↓qh, ↓qi, ↓qj, ↓qk, ↓ql, ↓qm, ↓qo, ↓qp, ↓qr, ↓qt, ↓qu, ↓qv, ↓qw, ↓qz, ↓qA, ↓qB, ↓qC, ↓qE, ↓qF, ↓qG, ↓qH, ↓qI, ↓qJ, ↓qL, ↓qM, ↓qN, ↓qO, ↓qP, ↓qQ, ↓qR, ↓qS, ↓qT, ↓qU, ↓qV, ↓qW, ↓qX, ↓qY, ↓qZ, ↓vf, ↓vg, ↓vh, ↓vi, ↓vj, ↓vk, ↓vl, ↓vm, ↓vo, ↓vp, ↓vq, ↓vt, ↓vu, ↓vw, vz, v6, ↓v7, ↓v8, ↓v9, ↓vA, ↓vB, ↓vC, ↓vD, ↓vE, ↓vF, ↓vG, ↓vH, ↓vI, ↓vJ, ↓vK, ↓vL, ↓vM, ↓vN, ↓vO, dLt, dLe, dGt, dGe, vP, vQ, vR, vS, vT, dI2, vU, vV, dEq, dNe, vW, vX, vY, vZ, ja, jb, jc, jd, je, jf, Option.some.injEq, jg, jh, ji, jk, jl, dIs, jm, jn, shs, kiC, jo, jp, obD, id_eq, List.getElem?_cons_zero, List.getElem?_cons_succ, List.set_cons_zero, List.set_cons_succ, List.length_cons, List.length_nil, D.bl.injEq, exists_eq_left', decide_eq_true_eq, decide_eq_false_iff_not, Bool.not_eq_true', Bool.not_eq_false', Nat.zero_add, Nat.reduceAdd, true_and, and_true, forall_const, reduceCtorEq, not_true_eq_false, not_false_eq_true, false_implies, true_implies, implies_true, jq, Nat.reduceLeDiff, Int.reduceLE, Int.reduceLT, Int.reduceNeg, Int.reducePow, Int.reduceAdd, Int.reduceSub, Int.reduceMul, dEqB, sn_mu, sn_my, if_false]
      refine notin_plk (p := ((lastP c.a).s, n)) (g := plE) ?_
      cases ec : carOf pl ((lastP c.a).s, n) with
      | none =>
        simp only [doA, ec, Ev.dd, Ev.st, PC.cells] at q
        rw [decide_eq_false (carOf_none ec)]
        simp only [Bool.not_false, ↓za, ↓zb, ↓zc, ↓zd, ↓ze, ↓zf, ↓zg, ↓zh, ↓zi, ↓zj, ↓zk, ↓zl, ↓zm, ↓zn, ↓zo, ↓zp, ↓zq, ↓zr, ↓zt, ↓zu, ↓zv, ↓zw, ↓zx, zy, zz, ↓z3, ↓z7, ↓z8, ↓z9, ↓zA, ↓zB, ↓zC, ↓zD, ↓zE, ↓zF, ↓zG, ↓zH, ↓zI, ↓zJ, ↓zK, ↓zL, ↓zM, ↓zN, ↓zO, ↓zP, ↓zQ, ↓zR, ↓zS, ↓zT, ↓zU, ↓zV, ↓zW, ↓zX, ↓zY, ↓zZ, ↓xf, ↓xg, ↓xh, ↓xi, ↓xj, ↓xk, ↓xl, ↓xm, ↓xq, xt, ↓xu, ↓xw, ↓xy, ↓xz, ↓x5, ↓x6, ↓x7, ↓x8, ↓x9, ↓xB, ↓xD, ↓xE, ↓xF, ↓xG, ↓xH, ↓xI, ↓xJ, ↓xK, ↓xL, ↓xM, ↓xN, ↓xO, ↓xP, ↓xQ, ↓xR, ↓xS, ↓xT, ↓xU, ↓xV, ↓xW, ↓xX, ↓xY, ↓xZ, ↓qb, ↓qc, ↓qd, ↓qf, ↓qg, ↓qh, ↓qi, ↓qj, ↓qk, ↓ql, ↓qm, ↓qo, ↓qp, ↓qr, ↓qt, ↓qu, ↓qv, ↓qw, ↓qz, ↓qA, ↓qB, ↓qC, ↓qE, ↓qF, ↓qG, ↓qH, ↓qI, ↓qJ, ↓qL, ↓qM, ↓qN, ↓qO, ↓qP, ↓qQ, ↓qR, ↓qS, ↓qT, ↓qU, ↓qV, ↓qW, ↓qX, ↓qY, ↓qZ, ↓vf, ↓vg, ↓vh, ↓vi, ↓vj, ↓vk, ↓vl, ↓vm, ↓vo, ↓vp, ↓vq, ↓vt, ↓vu, ↓vw, vz, v6, ↓v7, ↓v8, ↓v9, ↓vA, ↓vB, ↓vC, ↓vD, ↓vE, ↓vF, ↓vG, ↓vH, ↓vI, ↓vJ, ↓vK, ↓vL, ↓vM, ↓vN, ↓vO, dLt, dLe, dGt, dGe, vP, vQ, vR, vS, vT, dI2, vU, vV, dEq, dNe, vW, vX, vY, vZ, ja, jb, jc, jd, je, jf, Option.some.injEq, jg, jh, ji, jk, jl, dIs, jm, jn, shs, kiC, jo, jp, obD, id_eq, List.getElem?_cons_zero, List.getElem?_cons_succ, List.set_cons_zero, List.set_cons_succ, List.length_cons, List.length_nil, D.bl.injEq, exists_eq_left', decide_eq_true_eq, decide_eq_false_iff_not, Bool.not_eq_true', Bool.not_eq_false', Nat.zero_add, Nat.reduceAdd, true_and, and_true, forall_const, reduceCtorEq, not_true_eq_false, not_false_eq_true, false_implies, true_implies, implies_true, jq, Nat.reduceLeDiff, Int.reduceLE, Int.reduceLT, Int.reduceNeg, Int.reducePow, Int.reduceAdd, Int.reduceSub, Int.reduceMul]
        exact q
      | some cc =>
        obtain ⟨_, _, _, _, _, _, a1, a2⟩ := w.car ec hp.t0 hp.t1
        simp only [doA, ec, Ev.dd, Ev.st, PC.cells, List.map_append, List.map_cons, List.map_nil, Pt.dd, Deed.dd] at q
        rw [decide_eq_true (mem_pl ec)]
        simp only [Bool.not_true, w__law_done_t6, ↓za, ↓zb, ↓zc, ↓zd, ↓ze, ↓zf, ↓zg, ↓zh, ↓zi, ↓zj, ↓zk, ↓zl, ↓zm, ↓zn, ↓zo, ↓zp, ↓zq, ↓zr, ↓zt, ↓zu, ↓zv, ↓zw, ↓zx, zy, zz, ↓z3, ↓z7, ↓z8, ↓z9, ↓zA, ↓zB, ↓zC, ↓zD, ↓zE, ↓zF, ↓zG, ↓zH, ↓zI, ↓zJ, ↓zK, ↓zL, ↓zM, ↓zN, ↓zO, ↓zP, ↓zQ, ↓zR, ↓zS, ↓zT, ↓zU, ↓zV, ↓zW, ↓zX, ↓zY, ↓zZ, ↓xf, ↓xg, ↓xh, ↓xi, ↓xj, ↓xk, ↓xl, ↓xm, ↓xq, xt, ↓xu, ↓xw, ↓xy, ↓xz, ↓x5, ↓x6, ↓x7, ↓x8, ↓x9, ↓xB, ↓xD, ↓xE, ↓xF, ↓xG, ↓xH, ↓xI, ↓xJ, ↓xK, ↓xL, ↓xM, ↓xN, ↓xO, ↓xP, ↓xQ, ↓xR, ↓xS, ↓xT, ↓xU, ↓xV, ↓xW, ↓xX, ↓xY, ↓xZ, ↓qb, ↓qc, ↓qd, ↓qf, ↓qg, ↓qh, ↓qi, ↓qj, ↓qk, ↓ql, ↓qm, ↓qo, ↓qp, ↓qr, ↓qt, ↓qu, ↓qv, ↓qw, ↓qz, ↓qA, ↓qB, ↓qC, ↓qE, ↓qF, ↓qG, ↓qH, ↓qI, ↓qJ, ↓qL, ↓qM, ↓qN, ↓qO, ↓qP, ↓qQ, ↓qR, ↓qS, ↓qT, ↓qU, ↓qV, ↓qW, ↓qX, ↓qY, ↓qZ, ↓vf, ↓vg, ↓vh, ↓vi, ↓vj, ↓vk, ↓vl, ↓vm, ↓vo, ↓vp, ↓vq, ↓vt, ↓vu, ↓vw, vz, v6, ↓v7, ↓v8, ↓v9, ↓vA, ↓vB, ↓vC, ↓vD, ↓vE, ↓vF, ↓vG, ↓vH, ↓vI, ↓vJ, ↓vK, ↓vL, ↓vM, ↓vN, ↓vO, dLt, dLe, dGt, dGe, vP, vQ, vR, vS, vT, dI2, vU, vV, dEq, dNe, vW, vX, vY, vZ, ja, jb, jc, jd, je, jf, Option.some.injEq, jg, jh, ji, jk, jl, dIs, jm, jn, shs, kiC, jo, jp, obD, id_eq, List.getElem?_cons_zero, List.getElem?_cons_succ, List.set_cons_zero, List.set_cons_succ, List.length_cons, List.length_nil, D.bl.injEq, exists_eq_left', decide_eq_true_eq, decide_eq_false_iff_not, Bool.not_eq_true', Bool.not_eq_false', Nat.zero_add, Nat.reduceAdd, true_and, and_true, forall_const, reduceCtorEq, not_true_eq_false, not_false_eq_true, false_implies, true_implies, implies_true, jq, Nat.reduceLeDiff, Int.reduceLE, Int.reduceLT, Int.reduceNeg, Int.reducePow, Int.reduceAdd, Int.reduceSub, Int.reduceMul]
        refine pl_at (g := plE) w.so.pnd ec ?_
        simp only [plE, w__law_done_t5, w__law_done_t4, ↓za, ↓zb, ↓zc, ↓zd, ↓ze, ↓zf, ↓zg, ↓zh, ↓zi, ↓zj, ↓zk, ↓zl, ↓zm, ↓zn, ↓zo, ↓zp, ↓zq, ↓zr, ↓zt, ↓zu, ↓zv, ↓zw, ↓zx, zy, zz, ↓z3, ↓z7, ↓z8, ↓z9, ↓zA, ↓zB, ↓zC, ↓zD, ↓zE, ↓zF, ↓zG, ↓zH, ↓zI, ↓zJ, ↓zK, ↓zL, ↓zM, ↓zN, ↓zO, ↓zP, ↓zQ, ↓zR, ↓zS, ↓zT, ↓zU, ↓zV, ↓zW, ↓zX, ↓zY, ↓zZ, ↓xf, ↓xg, ↓xh, ↓xi, ↓xj, ↓xk, ↓xl, ↓xm, ↓xq, xt, ↓xu, ↓xw, ↓xy, ↓xz, ↓x5, ↓x6, ↓x7, ↓x8, ↓x9, ↓xB, ↓xD, ↓xE, ↓xF, ↓xG, ↓xH, ↓xI, ↓xJ, ↓xK, ↓xL, ↓xM, ↓xN, ↓xO, ↓xP, ↓xQ, ↓xR, ↓xS, ↓xT, ↓xU, ↓xV, ↓xW, ↓xX, ↓xY, ↓xZ, ↓qb, ↓qc, ↓qd, ↓qf, ↓qg, ↓qh, ↓qi, ↓qj, ↓qk, ↓ql, ↓qm, ↓qo, ↓qp, ↓qr, ↓qt, ↓qu, ↓qv, ↓qw, ↓qz, ↓qA, ↓qB, ↓qC, ↓qE, ↓qF, ↓qG, ↓qH, ↓qI, ↓qJ, ↓qL, ↓qM, ↓qN, ↓qO, ↓qP, ↓qQ, ↓qR, ↓qS, ↓qT, ↓qU, ↓qV, ↓qW, ↓qX, ↓qY, ↓qZ, ↓vf, ↓vg, ↓vh, ↓vi, ↓vj, ↓vk, ↓vl, ↓vm, ↓vo, ↓vp, ↓vq, ↓vt, ↓vu, ↓vw, vz, v6, ↓v7, ↓v8, ↓v9, ↓vA, ↓vB, ↓vC, ↓vD, ↓vE, ↓vF, ↓vG, ↓vH, ↓vI, ↓vJ, ↓vK, ↓vL, ↓vM, ↓vN, ↓vO, dLt, dLe, dGt, dGe, vP, vQ, vR, vS, vT, dI2, vU, vV, dEq, dNe, vW, vX, vY, vZ, ja, jb, jc, jd, je, jf, Option.some.injEq, jg, jh, ji, jk, jl, dIs, jm, jn, shs, kiC, jo, jp, obD, id_eq, List.getElem?_cons_zero, List.getElem?_cons_succ, List.set_cons_zero, List.set_cons_succ, List.length_cons, List.length_nil, D.bl.injEq, exists_eq_left', decide_eq_true_eq, decide_eq_false_iff_not, Bool.not_eq_true', Bool.not_eq_false', Nat.zero_add, Nat.reduceAdd, true_and, and_true, forall_const, reduceCtorEq, not_true_eq_false, not_false_eq_true, false_implies, true_implies, implies_true, jq, Nat.reduceLeDiff, Int.reduceLE, Int.reduceLT, Int.reduceNeg, Int.reducePow, Int.reduceAdd, Int.reduceSub, Int.reduceMul]
        refine ⟨_, a2, ?_⟩
        simp only [↓za, ↓zb, ↓zc, ↓zd, ↓ze, ↓zf, ↓zg, ↓zh, ↓zi, ↓zj, ↓zk, ↓zl, ↓zm, ↓zn, ↓zo, ↓zp, ↓zq, ↓zr, ↓zt, ↓zu, ↓zv, ↓zw, ↓zx, zy, zz, ↓z3, ↓z7, ↓z8, ↓z9, ↓zA, ↓zB, ↓zC, ↓zD, ↓zE, ↓zF, ↓zG, ↓zH, ↓zI, ↓zJ, ↓zK, ↓zL, ↓zM, ↓zN, ↓zO, ↓zP, ↓zQ, ↓zR, ↓zS, ↓zT, ↓zU, ↓zV, ↓zW, ↓zX, ↓zY, ↓zZ, ↓xf, ↓xg, ↓xh, ↓xi, ↓xj, ↓xk, ↓xl, ↓xm, ↓xq, xt, ↓xu, ↓xw, ↓xy, ↓xz, ↓x5, ↓x6, ↓x7, ↓x8, ↓x9, ↓xB, ↓xD, ↓xE, ↓xF, ↓xG, ↓xH, ↓xI, ↓xJ, ↓xK, ↓xL, ↓xM, ↓xN, ↓xO, ↓xP, ↓xQ, ↓xR, ↓xS, ↓xT, ↓xU, ↓xV, ↓xW, ↓xX, ↓xY, ↓xZ, ↓qb, ↓qc, ↓qd, ↓qf, ↓qg, ↓qh, ↓qi, ↓qj, ↓qk, ↓ql, ↓qm, ↓qo, ↓qp, ↓qr, ↓qt, ↓qu, ↓qv, ↓qw, ↓qz, ↓qA, ↓qB, ↓qC, ↓qE, ↓qF, ↓qG, ↓qH, ↓qI, ↓qJ, ↓qL, ↓qM, ↓qN, ↓qO, ↓qP, ↓qQ, ↓qR, ↓qS, ↓qT, ↓qU, ↓qV, ↓qW, ↓qX, ↓qY, ↓qZ, ↓vf, ↓vg, ↓vh, ↓vi, ↓vj, ↓vk, ↓vl, ↓vm, ↓vo, ↓vp, ↓vq, ↓vt, ↓vu, ↓vw, vz, v6, ↓v7, ↓v8, ↓v9, ↓vA, ↓vB, ↓vC, ↓vD, ↓vE, ↓vF, ↓vG, ↓vH, ↓vI, ↓vJ, ↓vK, ↓vL, ↓vM, ↓vN, ↓vO, dLt, dLe, dGt, dGe, vP, vQ, vR, vS, vT, dI2, vU, vV, dEq, dNe, vW, vX, vY, vZ, ja, jb, jc, jd, je, jf, Option.some.injEq, jg, jh, ji, jk, jl, dIs, jm, jn, shs, kiC, jo, jp, obD, id_eq, List.getElem?_cons_zero, List.getElem?_cons_succ, List.set_cons_zero, List.set_cons_succ, List.length_cons, List.length_nil, D.bl.injEq, exists_eq_left', decide_eq_true_eq, decide_eq_false_iff_not, Bool.not_eq_true', Bool.not_eq_false', Nat.zero_add, Nat.reduceAdd, true_and, and_true, forall_const, reduceCtorEq, not_true_eq_false, not_false_eq_true, false_implies, true_implies, implies_true, jq, Nat.reduceLeDiff, Int.reduceLE, Int.reduceLT, Int.reduceNeg, Int.reducePow, Int.reduceAdd, Int.reduceSub, Int.reduceMul]
        refine ⟨_, a1, ?_⟩
        simp only [w__law_done_t7, w__law_done_t1, ↓za, ↓zb, ↓zc, ↓zd, ↓ze, ↓zf, ↓zg, ↓zh, ↓zi, ↓zj, ↓zk, ↓zl, ↓zm, ↓zn, ↓zo, ↓zp, ↓zq, ↓zr, ↓zt, ↓zu, ↓zv, ↓zw, ↓zx, zy, zz, ↓z3, ↓z7, ↓z8, ↓z9, ↓zA, ↓zB, ↓zC, ↓zD, ↓zE, ↓zF, ↓zG, ↓zH, ↓zI, ↓zJ, ↓zK, ↓zL, ↓zM, ↓zN, ↓zO, ↓zP, ↓zQ, ↓zR, ↓zS, ↓zT, ↓zU, ↓zV, ↓zW, ↓zX, ↓zY, ↓zZ, ↓xf, ↓xg, ↓xh, ↓xi, ↓xj, ↓xk, ↓xl, ↓xm, ↓xq, xt, ↓xu, ↓xw, ↓xy, ↓xz, ↓x5, ↓x6, ↓x7, ↓x8, ↓x9, ↓xB, ↓xD, ↓xE, ↓xF, ↓xG, ↓xH, ↓xI, ↓xJ, ↓xK, ↓xL, ↓xM, ↓xN, ↓xO, ↓xP, ↓xQ, ↓xR, ↓xS, ↓xT, ↓xU, ↓xV, ↓xW, ↓xX, ↓xY, ↓xZ, ↓qb, ↓qc, ↓qd, ↓qf, ↓qg, ↓qh, ↓qi, ↓qj, ↓qk, ↓ql, ↓qm, ↓qo, ↓qp, ↓qr, ↓qt, ↓qu, ↓qv, ↓qw, ↓qz, ↓qA, ↓qB, ↓qC, ↓qE, ↓qF, ↓qG, ↓qH, ↓qI, ↓qJ, ↓qL, ↓qM, ↓qN, ↓qO, ↓qP, ↓qQ, ↓qR, ↓qS, ↓qT, ↓qU, ↓qV, ↓qW, ↓qX, ↓qY, ↓qZ, ↓vf, ↓vg, ↓vh, ↓vi, ↓vj, ↓vk, ↓vl, ↓vm, ↓vo, ↓vp, ↓vq, ↓vt, ↓vu, ↓vw, vz, v6, ↓v7, ↓v8, ↓v9, ↓vA, ↓vB, ↓vC, ↓vD, ↓vE, ↓vF, ↓vG, ↓vH, ↓vI, ↓vJ, ↓vK, ↓vL, ↓vM, ↓vN, ↓vO, dLt, dLe, dGt, dGe, vP, vQ, vR, vS, vT, dI2, vU, vV, dEq, dNe, vW, vX, vY, vZ, ja, jb, jc, jd, je, jf, Option.some.injEq, jg, jh, ji, jk, jl, dIs, jm, jn, shs, kiC, jo, jp, obD, id_eq, List.getElem?_cons_zero, List.getElem?_cons_succ, List.set_cons_zero, List.set_cons_succ, List.length_cons, List.length_nil, D.bl.injEq, exists_eq_left', decide_eq_true_eq, decide_eq_false_iff_not, Bool.not_eq_true', Bool.not_eq_false', Nat.zero_add, Nat.reduceAdd, true_and, and_true, forall_const, reduceCtorEq, not_true_eq_false, not_false_eq_true, false_implies, true_implies, implies_true, jq, Nat.reduceLeDiff, Int.reduceLE, Int.reduceLT, Int.reduceNeg, Int.reducePow, Int.reduceAdd, Int.reduceSub, Int.reduceMul, List.length_map]
        exact ⟨by omega, by omega, q⟩
  · exact h.elim
def wf__law_deed : WFn
  | [.bx, .sh (.lst m)], Q => ∃ (ms : List Mach) (pl : PL) (fs : List Str), m = ms.map Mach.dd ∧ WOk ms pl fs ∧ ∀ e : Deed, e.ok → Q e.dd
  | _, _ => False
theorem len__law_deed : ∀ as Qd, wf__law_deed as Qd → as.length = 2 := fun as Qd h => by
  unfold wf__law_deed at h
  split at h
  · rfl
  · exact h.elim
theorem odd_f : ("odd" : Str) = fstr [111, 100, 100] := by decide +kernel
def w__law_deed_t1 : WS := (wRet (wTup (waCons (wC (.str "year")) (waCons (wOp dIx (wPk 3) (wOp vR (wUn vX (wCall wf__law_draw (asBox 0 (asCons (wC (.int 900)) asNil)))) (wUn vW (wPk 3)))) waNil))))
def w__law_deed_t2 : WS := (wRet (wTup (waCons (wC (.str "move")) (waCons (wCall wf__law_draw (asBox 0 (asCons (wOp dIx (wFz (wfLst (waCons (wUn vW (wPk 1)) (waCons (wC (.int 4)) waNil)))) (wCall wf__law_draw (asBox 0 (asCons (wC (.int 2)) asNil)))) asNil))) waNil))))
def w__law_deed_t3 : WS := (wSeq (wIf (wTst (wOp dLt (wPk 2) (wC (.int 5))))
 (wSeq (wAsg (wOp vV (wFld "Machine" "facts" (wOp dIx (wPk 1) (wC (.int 0)))) (wFz (wfLst (waCons (wC (.str "odd")) waNil)))) (wSt 3))
 w__law_deed_t1)
 wNext)
 w__law_deed_t2)
def w__law_deed_t4 : WS := (wSeq (wIf (wTst (wOp dEq (wPk 2) (wC (.int 0))))
 (wRet (wTup (waCons (wC (.str "undo")) waNil)))
 wNext)
 w__law_deed_t3)
def w__law_deed : WS := (wSeq (wAsg (wCall wf__law_draw (asBox 0 (asCons (wC (.int 8)) asNil))) (wSt 2))
 w__law_deed_t4)
theorem p__law_deed : ∀ as Qd, wf__law_deed as Qd → w__law_deed (startD ["_law_box_here", "_law_schemes_here", "_law_kind", "_law_facts_here"] as) { nx := fun _ => Qd .non, rt := fun d _ => Qd d } := fun as Qd h => by
  unfold wf__law_deed at h
  split at h
  · obtain ⟨ms, pl, fs, rfl, w, q⟩ := h
    obtain ⟨m0, em0, hm0⟩ := ms0 w
    have fa0 := w.fa _ hm0
    have f1 := w.f1
    have f3 := w.f3
    have n3 := w.so.n3
    have n1 := w.so.n1
    show w__law_deed [.bx, .sh (.lst (ms.map Mach.dd)), .no, .no] _
    simp only [w__law_deed, ↓za, ↓zb, ↓zc, ↓zd, ↓ze, ↓zf, ↓zg, ↓zh, ↓zi, ↓zj, ↓zk, ↓zl, ↓zm, ↓zn, ↓zo, ↓zp, ↓zq, ↓zr, ↓zt, ↓zu, ↓zv, ↓zw, ↓zx, zy, zz, ↓z3, ↓z7, ↓z8, ↓z9, ↓zA, ↓zB, ↓zC, ↓zD, ↓zE, ↓zF, ↓zG, ↓zH, ↓zI, ↓zJ, ↓zK, ↓zL, ↓zM, ↓zN, ↓zO, ↓zP, ↓zQ, ↓zR, ↓zS, ↓zT, ↓zU, ↓zV, ↓zW, ↓zX, ↓zY, ↓zZ, ↓xf, ↓xg, ↓xh, ↓xi, ↓xj, ↓xk, ↓xl, ↓xm, ↓xq, xt, ↓xu, ↓xw, ↓xy, ↓xz, ↓x5, ↓x6, ↓x7, ↓x8, ↓x9, ↓xB, ↓xD, ↓xE, ↓xF, ↓xG, ↓xH, ↓xI, ↓xJ, ↓xK, ↓xL, ↓xM, ↓xN, ↓xO, ↓xP, ↓xQ, ↓xR, ↓xS, ↓xT, ↓xU, ↓xV, ↓xW, ↓xX, ↓xY, ↓xZ, ↓qb, ↓qc, ↓qd, ↓qf, ↓qg, ↓qh, ↓qi, ↓qj, ↓qk, ↓ql, ↓qm, ↓qo, ↓qp, ↓qr, ↓qt, ↓qu, ↓qv, ↓qw, ↓qz, ↓qA, ↓qB, ↓qC, ↓qE, ↓qF, ↓qG, ↓qH, ↓qI, ↓qJ, ↓qL, ↓qM, ↓qN, ↓qO, ↓qP, ↓qQ, ↓qR, ↓qS, ↓qT, ↓qU, ↓qV, ↓qW, ↓qX, ↓qY, ↓qZ, ↓vf, ↓vg, ↓vh, ↓vi, ↓vj, ↓vk, ↓vl, ↓vm, ↓vo, ↓vp, ↓vq, ↓vt, ↓vu, ↓vw, vz, v6, ↓v7, ↓v8, ↓v9, ↓vA, ↓vB, ↓vC, ↓vD, ↓vE, ↓vF, ↓vG, ↓vH, ↓vI, ↓vJ, ↓vK, ↓vL, ↓vM, ↓vN, ↓vO, dLt, dLe, dGt, dGe, vP, vQ, vR, vS, vT, dI2, vU, vV, dEq, dNe, vW, vX, vY, vZ, ja, jb, jc, jd, je, jf, Option.some.injEq, jg, jh, ji, jk, jl, dIs, jm, jn, shs, kiC, jo, jp, obD, id_eq, List.getElem?_cons_zero, List.getElem?_cons_succ, List.set_cons_zero, List.set_cons_succ, List.length_cons, List.length_nil, D.bl.injEq, exists_eq_left', decide_eq_true_eq, decide_eq_false_iff_not, Bool.not_eq_true', Bool.not_eq_false', Nat.zero_add, Nat.reduceAdd, true_and, and_true, forall_const, reduceCtorEq, not_true_eq_false, not_false_eq_true, false_implies, true_implies, implies_true, jq, Nat.reduceLeDiff, Int.reduceLE, Int.reduceLT, Int.reduceNeg, Int.reducePow, Int.reduceAdd, Int.reduceSub, Int.reduceMul, wf__law_draw]
    intro k k0 k1
    simp only [w__law_deed_t4, ↓za, ↓zb, ↓zc, ↓zd, ↓ze, ↓zf, ↓zg, ↓zh, ↓zi, ↓zj, ↓zk, ↓zl, ↓zm, ↓zn, ↓zo, ↓zp, ↓zq, ↓zr, ↓zt, ↓zu, ↓zv, ↓zw, ↓zx, zy, zz, ↓z3, ↓z7, ↓z8, ↓z9, ↓zA, ↓zB, ↓zC, ↓zD, ↓zE, ↓zF, ↓zG, ↓zH, ↓zI, ↓zJ, ↓zK, ↓zL, ↓zM, ↓zN, ↓zO, ↓zP, ↓zQ, ↓zR, ↓zS, ↓zT, ↓zU, ↓zV, ↓zW, ↓zX, ↓zY, ↓zZ, ↓xf, ↓xg, ↓xh, ↓xi, ↓xj, ↓xk, ↓xl, ↓xm, ↓xq, xt, ↓xu, ↓xw, ↓xy, ↓xz, ↓x5, ↓x6, ↓x7, ↓x8, ↓x9, ↓xB, ↓xD, ↓xE, ↓xF, ↓xG, ↓xH, ↓xI, ↓xJ, ↓xK, ↓xL, ↓xM, ↓xN, ↓xO, ↓xP, ↓xQ, ↓xR, ↓xS, ↓xT, ↓xU, ↓xV, ↓xW, ↓xX, ↓xY, ↓xZ, ↓qb, ↓qc, ↓qd, ↓qf, ↓qg, ↓qh, ↓qi, ↓qj, ↓qk, ↓ql, ↓qm, ↓qo, ↓qp, ↓qr, ↓qt, ↓qu, ↓qv, ↓qw, ↓qz, ↓qA, ↓qB, ↓qC, ↓qE, ↓qF, ↓qG, ↓qH, ↓qI, ↓qJ, ↓qL, ↓qM, ↓qN, ↓qO, ↓qP, ↓qQ, ↓qR, ↓qS, ↓qT, ↓qU, ↓qV, ↓qW, ↓qX, ↓qY, ↓qZ, ↓vf, ↓vg, ↓vh, ↓vi, ↓vj, ↓vk, ↓vl, ↓vm, ↓vo, ↓vp, ↓vq, ↓vt, ↓vu, ↓vw, vz, v6, ↓v7, ↓v8, ↓v9, ↓vA, ↓vB, ↓vC, ↓vD, ↓vE, ↓vF, ↓vG, ↓vH, ↓vI, ↓vJ, ↓vK, ↓vL, ↓vM, ↓vN, ↓vO, dLt, dLe, dGt, dGe, vP, vQ, vR, vS, vT, dI2, vU, vV, dEq, dNe, vW, vX, vY, vZ, ja, jb, jc, jd, je, jf, Option.some.injEq, jg, jh, ji, jk, jl, dIs, jm, jn, shs, kiC, jo, jp, obD, id_eq, List.getElem?_cons_zero, List.getElem?_cons_succ, List.set_cons_zero, List.set_cons_succ, List.length_cons, List.length_nil, D.bl.injEq, exists_eq_left', decide_eq_true_eq, decide_eq_false_iff_not, Bool.not_eq_true', Bool.not_eq_false', Nat.zero_add, Nat.reduceAdd, true_and, and_true, forall_const, reduceCtorEq, not_true_eq_false, not_false_eq_true, false_implies, true_implies, implies_true, jq, Nat.reduceLeDiff, Int.reduceLE, Int.reduceLT, Int.reduceNeg, Int.reducePow, Int.reduceAdd, Int.reduceSub, Int.reduceMul, dEqB]
    refine ⟨fun hk => q .undo trivial, fun hk => ?_⟩
    simp only [w__law_deed_t3, ↓za, ↓zb, ↓zc, ↓zd, ↓ze, ↓zf, ↓zg, ↓zh, ↓zi, ↓zj, ↓zk, ↓zl, ↓zm, ↓zn, ↓zo, ↓zp, ↓zq, ↓zr, ↓zt, ↓zu, ↓zv, ↓zw, ↓zx, zy, zz, ↓z3, ↓z7, ↓z8, ↓z9, ↓zA, ↓zB, ↓zC, ↓zD, ↓zE, ↓zF, ↓zG, ↓zH, ↓zI, ↓zJ, ↓zK, ↓zL, ↓zM, ↓zN, ↓zO, ↓zP, ↓zQ, ↓zR, ↓zS, ↓zT, ↓zU, ↓zV, ↓zW, ↓zX, ↓zY, ↓zZ, ↓xf, ↓xg, ↓xh, ↓xi, ↓xj, ↓xk, ↓xl, ↓xm, ↓xq, xt, ↓xu, ↓xw, ↓xy, ↓xz, ↓x5, ↓x6, ↓x7, ↓x8, ↓x9, ↓xB, ↓xD, ↓xE, ↓xF, ↓xG, ↓xH, ↓xI, ↓xJ, ↓xK, ↓xL, ↓xM, ↓xN, ↓xO, ↓xP, ↓xQ, ↓xR, ↓xS, ↓xT, ↓xU, ↓xV, ↓xW, ↓xX, ↓xY, ↓xZ, ↓qb, ↓qc, ↓qd, ↓qf, ↓qg, ↓qh, ↓qi, ↓qj, ↓qk, ↓ql, ↓qm, ↓qo, ↓qp, ↓qr, ↓qt, ↓qu, ↓qv, ↓qw, ↓qz, ↓qA, ↓qB, ↓qC, ↓qE, ↓qF, ↓qG, ↓qH, ↓qI, ↓qJ, ↓qL, ↓qM, ↓qN, ↓qO, ↓qP, ↓qQ, ↓qR, ↓qS, ↓qT, ↓qU, ↓qV, ↓qW, ↓qX, ↓qY, ↓qZ, ↓vf, ↓vg, ↓vh, ↓vi, ↓vj, ↓vk, ↓vl, ↓vm, ↓vo, ↓vp, ↓vq, ↓vt, ↓vu, ↓vw, vz, v6, ↓v7, ↓v8, ↓v9, ↓vA, ↓vB, ↓vC, ↓vD, ↓vE, ↓vF, ↓vG, ↓vH, ↓vI, ↓vJ, ↓vK, ↓vL, ↓vM, ↓vN, ↓vO, dLt, dLe, dGt, dGe, vP, vQ, vR, vS, vT, dI2, vU, vV, dEq, dNe, vW, vX, vY, vZ, ja, jb, jc, jd, je, jf, Option.some.injEq, jg, jh, ji, jk, jl, dIs, jm, jn, shs, kiC, jo, jp, obD, id_eq, List.getElem?_cons_zero, List.getElem?_cons_succ, List.set_cons_zero, List.set_cons_succ, List.length_cons, List.length_nil, D.bl.injEq, exists_eq_left', decide_eq_true_eq, decide_eq_false_iff_not, Bool.not_eq_true', Bool.not_eq_false', Nat.zero_add, Nat.reduceAdd, true_and, and_true, forall_const, reduceCtorEq, not_true_eq_false, not_false_eq_true, false_implies, true_implies, implies_true, jq, Nat.reduceLeDiff, Int.reduceLE, Int.reduceLT, Int.reduceNeg, Int.reducePow, Int.reduceAdd, Int.reduceSub, Int.reduceMul]
    refine ⟨fun h5 => ?_, fun h5 => ?_⟩
    · refine ⟨_, em0, ?_⟩
      simp only [Mach.dd, Cary.dd, lk_facts, lk_step, lk_gain, lk_leave, lk_to, lk_cost, ↓za, ↓zb, ↓zc, ↓zd, ↓ze, ↓zf, ↓zg, ↓zh, ↓zi, ↓zj, ↓zk, ↓zl, ↓zm, ↓zn, ↓zo, ↓zp, ↓zq, ↓zr, ↓zt, ↓zu, ↓zv, ↓zw, ↓zx, zy, zz, ↓z3, ↓z7, ↓z8, ↓z9, ↓zA, ↓zB, ↓zC, ↓zD, ↓zE, ↓zF, ↓zG, ↓zH, ↓zI, ↓zJ, ↓zK, ↓zL, ↓zM, ↓zN, ↓zO, ↓zP, ↓zQ, ↓zR, ↓zS, ↓zT, ↓zU, ↓zV, ↓zW, ↓zX, ↓zY, ↓zZ, ↓xf, ↓xg, ↓xh, ↓xi, ↓xj, ↓xk, ↓xl, ↓xm, ↓xq, xt, ↓xu, ↓xw, ↓xy, ↓xz, ↓x5, ↓x6, ↓x7, ↓x8, ↓x9, ↓xB, ↓xD, ↓xE, ↓xF, ↓xG, ↓xH, ↓xI, ↓xJ, ↓xK, ↓xL, ↓xM, ↓xN, ↓xO, ↓xP, ↓xQ, ↓xR, ↓xS, ↓xT, ↓xU, ↓xV, ↓xW, ↓xX, ↓xY, ↓xZ, ↓qb, ↓qc, ↓qd, ↓qf, ↓qg, ↓qh, ↓qi, ↓qj, ↓qk, ↓ql, ↓qm, ↓qo, ↓qp, ↓qr, ↓qt, ↓qu, ↓qv, ↓qw, ↓qz, ↓qA, ↓qB, ↓qC, ↓qE, ↓qF, ↓qG, ↓qH, ↓qI, ↓qJ, ↓qL, ↓qM, ↓qN, ↓qO, ↓qP, ↓qQ, ↓qR, ↓qS, ↓qT, ↓qU, ↓qV, ↓qW, ↓qX, ↓qY, ↓qZ, ↓vf, ↓vg, ↓vh, ↓vi, ↓vj, ↓vk, ↓vl, ↓vm, ↓vo, ↓vp, ↓vq, ↓vt, ↓vu, ↓vw, vz, v6, ↓v7, ↓v8, ↓v9, ↓vA, ↓vB, ↓vC, ↓vD, ↓vE, ↓vF, ↓vG, ↓vH, ↓vI, ↓vJ, ↓vK, ↓vL, ↓vM, ↓vN, ↓vO, dLt, dLe, dGt, dGe, vP, vQ, vR, vS, vT, dI2, vU, vV, dEq, dNe, vW, vX, vY, vZ, ja, jb, jc, jd, je, jf, Option.some.injEq, jg, jh, ji, jk, jl, dIs, jm, jn, shs, kiC, jo, jp, obD, id_eq, List.getElem?_cons_zero, List.getElem?_cons_succ, List.set_cons_zero, List.set_cons_succ, List.length_cons, List.length_nil, D.bl.injEq, exists_eq_left', decide_eq_true_eq, decide_eq_false_iff_not, Bool.not_eq_true', Bool.not_eq_false', Nat.zero_add, Nat.reduceAdd, true_and, and_true, forall_const, reduceCtorEq, not_true_eq_false, not_false_eq_true, false_implies, true_implies, implies_true, jq, Nat.reduceLeDiff, Int.reduceLE, Int.reduceLT, Int.reduceNeg, Int.reducePow, Int.reduceAdd, Int.reduceSub, Int.reduceMul, fa0, List.length_map]
      refine ⟨by omega, ?_⟩
      simp only [w__law_deed_t1, ↓za, ↓zb, ↓zc, ↓zd, ↓ze, ↓zf, ↓zg, ↓zh, ↓zi, ↓zj, ↓zk, ↓zl, ↓zm, ↓zn, ↓zo, ↓zp, ↓zq, ↓zr, ↓zt, ↓zu, ↓zv, ↓zw, ↓zx, zy, zz, ↓z3, ↓z7, ↓z8, ↓z9, ↓zA, ↓zB, ↓zC, ↓zD, ↓zE, ↓zF, ↓zG, ↓zH, ↓zI, ↓zJ, ↓zK, ↓zL, ↓zM, ↓zN, ↓zO, ↓zP, ↓zQ, ↓zR, ↓zS, ↓zT, ↓zU, ↓zV, ↓zW, ↓zX, ↓zY, ↓zZ, ↓xf, ↓xg, ↓xh, ↓xi, ↓xj, ↓xk, ↓xl, ↓xm, ↓xq, xt, ↓xu, ↓xw, ↓xy, ↓xz, ↓x5, ↓x6, ↓x7, ↓x8, ↓x9, ↓xB, ↓xD, ↓xE, ↓xF, ↓xG, ↓xH, ↓xI, ↓xJ, ↓xK, ↓xL, ↓xM, ↓xN, ↓xO, ↓xP, ↓xQ, ↓xR, ↓xS, ↓xT, ↓xU, ↓xV, ↓xW, ↓xX, ↓xY, ↓xZ, ↓qb, ↓qc, ↓qd, ↓qf, ↓qg, ↓qh, ↓qi, ↓qj, ↓qk, ↓ql, ↓qm, ↓qo, ↓qp, ↓qr, ↓qt, ↓qu, ↓qv, ↓qw, ↓qz, ↓qA, ↓qB, ↓qC, ↓qE, ↓qF, ↓qG, ↓qH, ↓qI, ↓qJ, ↓qL, ↓qM, ↓qN, ↓qO, ↓qP, ↓qQ, ↓qR, ↓qS, ↓qT, ↓qU, ↓qV, ↓qW, ↓qX, ↓qY, ↓qZ, ↓vf, ↓vg, ↓vh, ↓vi, ↓vj, ↓vk, ↓vl, ↓vm, ↓vo, ↓vp, ↓vq, ↓vt, ↓vu, ↓vw, vz, v6, ↓v7, ↓v8, ↓v9, ↓vA, ↓vB, ↓vC, ↓vD, ↓vE, ↓vF, ↓vG, ↓vH, ↓vI, ↓vJ, ↓vK, ↓vL, ↓vM, ↓vN, ↓vO, dLt, dLe, dGt, dGe, vP, vQ, vR, vS, vT, dI2, vU, vV, dEq, dNe, vW, vX, vY, vZ, ja, jb, jc, jd, je, jf, Option.some.injEq, jg, jh, ji, jk, jl, dIs, jm, jn, shs, kiC, jo, jp, obD, id_eq, List.getElem?_cons_zero, List.getElem?_cons_succ, List.set_cons_zero, List.set_cons_succ, List.length_cons, List.length_nil, D.bl.injEq, exists_eq_left', decide_eq_true_eq, decide_eq_false_iff_not, Bool.not_eq_true', Bool.not_eq_false', Nat.zero_add, Nat.reduceAdd, true_and, and_true, forall_const, reduceCtorEq, not_true_eq_false, not_false_eq_true, false_implies, true_implies, implies_true, jq, Nat.reduceLeDiff, Int.reduceLE, Int.reduceLT, Int.reduceNeg, Int.reducePow, Int.reduceAdd, Int.reduceSub, Int.reduceMul, wf__law_draw]
      intro r r0 r1
      rw [show fs.map D.str ++ [.str "odd"] = (fs ++ [fstr [111, 100, 100]]).map D.str by rw [List.map_append, ← odd_f]; rfl]
      simp only [List.length_map]
      obtain ⟨d, hd, e⟩ := atI_mem (l := (fs ++ [fstr [111, 100, 100]]).map D.str) (i := r % ((fs ++ [fstr [111, 100, 100]]).length : Int)) (Int.emod_nonneg _ (by rw [List.length_append, List.length_singleton]; omega)) (by rw [List.length_map]; exact Int.emod_lt_of_pos _ (by rw [List.length_append, List.length_singleton]; omega))
      refine ⟨by rw [List.length_append, List.length_singleton]; omega, d, e, ?_⟩
      obtain ⟨f, hf, rfl⟩ := List.mem_map.mp hd
      obtain ⟨cs, rfl, ho⟩ : ∃ cs : List Nat, f = fstr cs ∧ (Deed.year cs).ok := by
        rcases List.mem_append.mp hf with hf | hf
        · rcases w.lt f hf with z | z | z
          · exact ⟨_, z, by simp, by simp, fun x hx => by rw [List.mem_singleton.mp hx]; omega⟩
          · exact ⟨_, z, by simp, by simp, fun x hx => by rw [List.mem_singleton.mp hx]; omega⟩
          · exact ⟨_, z, by simp, by simp, fun x hx => by rw [List.mem_singleton.mp hx]; omega⟩
        · exact ⟨_, List.mem_singleton.mp hf, by simp, by simp, fun x hx => by
            simp only [List.mem_cons, List.not_mem_nil, or_false] at hx
            omega⟩
      exact q (.year cs) ho
    · simp only [w__law_deed_t2, ↓za, ↓zb, ↓zc, ↓zd, ↓ze, ↓zf, ↓zg, ↓zh, ↓zi, ↓zj, ↓zk, ↓zl, ↓zm, ↓zn, ↓zo, ↓zp, ↓zq, ↓zr, ↓zt, ↓zu, ↓zv, ↓zw, ↓zx, zy, zz, ↓z3, ↓z7, ↓z8, ↓z9, ↓zA, ↓zB, ↓zC, ↓zD, ↓zE, ↓zF, ↓zG, ↓zH, ↓zI, ↓zJ, ↓zK, ↓zL, ↓zM, ↓zN, ↓zO, ↓zP, ↓zQ, ↓zR, ↓zS, ↓zT, ↓zU, ↓zV, ↓zW, ↓zX, ↓zY, ↓zZ, ↓xf, ↓xg, ↓xh, ↓xi, ↓xj, ↓xk, ↓xl, ↓xm, ↓xq, xt, ↓xu, ↓xw, ↓xy, ↓xz, ↓x5, ↓x6, ↓x7, ↓x8, ↓x9, ↓xB, ↓xD, ↓xE, ↓xF, ↓xG, ↓xH, ↓xI, ↓xJ, ↓xK, ↓xL, ↓xM, ↓xN, ↓xO, ↓xP, ↓xQ, ↓xR, ↓xS, ↓xT, ↓xU, ↓xV, ↓xW, ↓xX, ↓xY, ↓xZ, ↓qb, ↓qc, ↓qd, ↓qf, ↓qg, ↓qh, ↓qi, ↓qj, ↓qk, ↓ql, ↓qm, ↓qo, ↓qp, ↓qr, ↓qt, ↓qu, ↓qv, ↓qw, ↓qz, ↓qA, ↓qB, ↓qC, ↓qE, ↓qF, ↓qG, ↓qH, ↓qI, ↓qJ, ↓qL, ↓qM, ↓qN, ↓qO, ↓qP, ↓qQ, ↓qR, ↓qS, ↓qT, ↓qU, ↓qV, ↓qW, ↓qX, ↓qY, ↓qZ, ↓vf, ↓vg, ↓vh, ↓vi, ↓vj, ↓vk, ↓vl, ↓vm, ↓vo, ↓vp, ↓vq, ↓vt, ↓vu, ↓vw, vz, v6, ↓v7, ↓v8, ↓v9, ↓vA, ↓vB, ↓vC, ↓vD, ↓vE, ↓vF, ↓vG, ↓vH, ↓vI, ↓vJ, ↓vK, ↓vL, ↓vM, ↓vN, ↓vO, dLt, dLe, dGt, dGe, vP, vQ, vR, vS, vT, dI2, vU, vV, dEq, dNe, vW, vX, vY, vZ, ja, jb, jc, jd, je, jf, Option.some.injEq, jg, jh, ji, jk, jl, dIs, jm, jn, shs, kiC, jo, jp, obD, id_eq, List.getElem?_cons_zero, List.getElem?_cons_succ, List.set_cons_zero, List.set_cons_succ, List.length_cons, List.length_nil, D.bl.injEq, exists_eq_left', decide_eq_true_eq, decide_eq_false_iff_not, Bool.not_eq_true', Bool.not_eq_false', Nat.zero_add, Nat.reduceAdd, true_and, and_true, forall_const, reduceCtorEq, not_true_eq_false, not_false_eq_true, false_implies, true_implies, implies_true, jq, Nat.reduceLeDiff, Int.reduceLE, Int.reduceLT, Int.reduceNeg, Int.reducePow, Int.reduceAdd, Int.reduceSub, Int.reduceMul, wf__law_draw, List.length_map]
      intro r r0 r1
      obtain ⟨y, ey, hy⟩ : ∃ y : Int, atI [D.int (ms.length : Int), D.int 4] r = some (.int y) ∧ 1 ≤ y ∧ y ≤ 4 := by
        rcases (by omega : r = 0 ∨ r = 1) with rfl | rfl
        · exact ⟨_, rfl, by omega, by omega⟩
        · exact ⟨_, rfl, by omega, by omega⟩
      refine ⟨_, ey, by omega, fun n n0 n1 => ?_⟩
      exact q (.move n) ⟨n0, by omega⟩
  · exact h.elim
def wf__law_told : WFg
  | [.sh (.ad x), .sh d], gs, Q => ∃ (c : AC) (fs : List Str) (e : Deed), gs = c.cells ∧ x = c.s ∧ WOk c.ms c.pl fs ∧ AInv c.ms c.a ∧ c.a.deeds.length ≤ 1000 ∧ d = e.dd ∧ e.ok ∧ Q (doA c.ms c.pl fs c.a e).dd { c with a := (doA c.ms c.pl fs c.a e).st c.a }.cells
  | _, _, _ => False
theorem len__law_told : ∀ as gs Qd, wf__law_told as gs Qd → as.length = 2 ∧ gs.length ≤ 3 := fun as gs Qd h => by
  unfold wf__law_told at h
  split at h
  · obtain ⟨c, fs, e, rfl, _⟩ := h; exact ⟨rfl, Nat.le_refl 3⟩
  · exact h.elim
def w__law_told : WS := (wSeq (wIf (wTst (wOp dEq (wOp dIx (wPk 1) (wC (.int 0))) (wC (.str "undo"))))
 (wRet (wMethC 2 "Account" "undo" [2, 3, 4] [2, 3, 4] wf_Account_undo (wVar 0) asNil))
 wNext)
 (wSeq (wIf (wTst (wOp dEq (wOp dIx (wPk 1) (wC (.int 0))) (wC (.str "year"))))
 (wRet (wCallC [2, 3, 4] [2, 3, 4] wf__law_year (asCons (wVar 0) (asCons (wOp dIx (wPk 1) (wC (.int 1))) asNil))))
 wNext)
 (wRet (wCallC [2, 3, 4] [2, 3, 4] wf__law_move (asCons (wVar 0) (asCons (wOp dIx (wPk 1) (wC (.int 1))) asNil))))))
theorem p__law_told : ∀ as gs Qd, wf__law_told as gs Qd → w__law_told (startG 0 3 as gs) (endG [2, 3, 4] Qd) := fun as gs Qd h => by
  unfold wf__law_told at h
  split at h
  · obtain ⟨c, fs, e, rfl, rfl, w, h, hb, rfl, hok, q⟩ := h
    show w__law_told [.sh (.ad c.s), .sh e.dd, .gh c.s (.ins "Account" acF [.lst (c.ms.map Mach.dd), caD c.pl, .ad c.d, .ad c.p]), .gh c.d (.lst (c.a.deeds.map Deed.dd)), .gh c.p (.lst (c.a.past.map Pt.dd))] _
    cases e with
    | undo =>
      simp only [w__law_told, Deed.dd, ↓za, ↓zb, ↓zc, ↓zd, ↓ze, ↓zf, ↓zg, ↓zh, ↓zi, ↓zj, ↓zk, ↓zl, ↓zm, ↓zn, ↓zo, ↓zp, ↓zq, ↓zr, ↓zt, ↓zu, ↓zv, ↓zw, ↓zx, zy, zz, ↓z3, ↓z7, ↓z8, ↓z9, ↓zA, ↓zB, ↓zC, ↓zD, ↓zE, ↓zF, ↓zG, ↓zH, ↓zI, ↓zJ, ↓zK, ↓zL, ↓zM, ↓zN, ↓zO, ↓zP, ↓zQ, ↓zR, ↓zS, ↓zT, ↓zU, ↓zV, ↓zW, ↓zX, ↓zY, ↓zZ, ↓xf, ↓xg, ↓xh, ↓xi, ↓xj, ↓xk, ↓xl, ↓xm, ↓xq, xt, ↓xu, ↓xw, ↓xy, ↓xz, ↓x5, ↓x6, ↓x7, ↓x8, ↓x9, ↓xB, ↓xD, ↓xE, ↓xF, ↓xG, ↓xH, ↓xI, ↓xJ, ↓xK, ↓xL, ↓xM, ↓xN, ↓xO, ↓xP, ↓xQ, ↓xR, ↓xS, ↓xT, ↓xU, ↓xV, ↓xW, ↓xX, ↓xY, ↓xZ, ↓qb, ↓qc, ↓qd, ↓qf, ↓qg, ↓qh, ↓qi, ↓qj, ↓qk, ↓ql, ↓qm, ↓qo, ↓qp, ↓qr, ↓qt, ↓qu, ↓qv, ↓qw, ↓qz, ↓qA, ↓qB, ↓qC, ↓qE, ↓qF, ↓qG, ↓qH, ↓qI, ↓qJ, ↓qL, ↓qM, ↓qN, ↓qO, ↓qP, ↓qQ, ↓qR, ↓qS, ↓qT, ↓qU, ↓qV, ↓qW, ↓qX, ↓qY, ↓qZ, ↓vf, ↓vg, ↓vh, ↓vi, ↓vj, ↓vk, ↓vl, ↓vm, ↓vo, ↓vp, ↓vq, ↓vt, ↓vu, ↓vw, vz, v6, ↓v7, ↓v8, ↓v9, ↓vA, ↓vB, ↓vC, ↓vD, ↓vE, ↓vF, ↓vG, ↓vH, ↓vI, ↓vJ, ↓vK, ↓vL, ↓vM, ↓vN, ↓vO, dLt, dLe, dGt, dGe, vP, vQ, vR, vS, vT, dI2, vU, vV, dEq, dNe, vW, vX, vY, vZ, ja, jb, jc, jd, je, jf, Option.some.injEq, jg, jh, ji, jk, jl, dIs, jm, jn, shs, kiC, jo, jp, obD, id_eq, List.getElem?_cons_zero, List.getElem?_cons_succ, List.set_cons_zero, List.set_cons_succ, List.length_cons, List.length_nil, D.bl.injEq, exists_eq_left', decide_eq_true_eq, decide_eq_false_iff_not, Bool.not_eq_true', Bool.not_eq_false', Nat.zero_add, Nat.reduceAdd, true_and, and_true, forall_const, reduceCtorEq, not_true_eq_false, not_false_eq_true, false_implies, true_implies, implies_true, jq, Nat.reduceLeDiff, Int.reduceLE, Int.reduceLT, Int.reduceNeg, Int.reducePow, Int.reduceAdd, Int.reduceSub, Int.reduceMul, dEqB]
      exact ⟨acF_nd.2.2.1, c, rfl, rfl, h, rfl, rfl, rfl, q⟩
    | year cs =>
      simp only [w__law_told, Deed.dd, ↓za, ↓zb, ↓zc, ↓zd, ↓ze, ↓zf, ↓zg, ↓zh, ↓zi, ↓zj, ↓zk, ↓zl, ↓zm, ↓zn, ↓zo, ↓zp, ↓zq, ↓zr, ↓zt, ↓zu, ↓zv, ↓zw, ↓zx, zy, zz, ↓z3, ↓z7, ↓z8, ↓z9, ↓zA, ↓zB, ↓zC, ↓zD, ↓zE, ↓zF, ↓zG, ↓zH, ↓zI, ↓zJ, ↓zK, ↓zL, ↓zM, ↓zN, ↓zO, ↓zP, ↓zQ, ↓zR, ↓zS, ↓zT, ↓zU, ↓zV, ↓zW, ↓zX, ↓zY, ↓zZ, ↓xf, ↓xg, ↓xh, ↓xi, ↓xj, ↓xk, ↓xl, ↓xm, ↓xq, xt, ↓xu, ↓xw, ↓xy, ↓xz, ↓x5, ↓x6, ↓x7, ↓x8, ↓x9, ↓xB, ↓xD, ↓xE, ↓xF, ↓xG, ↓xH, ↓xI, ↓xJ, ↓xK, ↓xL, ↓xM, ↓xN, ↓xO, ↓xP, ↓xQ, ↓xR, ↓xS, ↓xT, ↓xU, ↓xV, ↓xW, ↓xX, ↓xY, ↓xZ, ↓qb, ↓qc, ↓qd, ↓qf, ↓qg, ↓qh, ↓qi, ↓qj, ↓qk, ↓ql, ↓qm, ↓qo, ↓qp, ↓qr, ↓qt, ↓qu, ↓qv, ↓qw, ↓qz, ↓qA, ↓qB, ↓qC, ↓qE, ↓qF, ↓qG, ↓qH, ↓qI, ↓qJ, ↓qL, ↓qM, ↓qN, ↓qO, ↓qP, ↓qQ, ↓qR, ↓qS, ↓qT, ↓qU, ↓qV, ↓qW, ↓qX, ↓qY, ↓qZ, ↓vf, ↓vg, ↓vh, ↓vi, ↓vj, ↓vk, ↓vl, ↓vm, ↓vo, ↓vp, ↓vq, ↓vt, ↓vu, ↓vw, vz, v6, ↓v7, ↓v8, ↓v9, ↓vA, ↓vB, ↓vC, ↓vD, ↓vE, ↓vF, ↓vG, ↓vH, ↓vI, ↓vJ, ↓vK, ↓vL, ↓vM, ↓vN, ↓vO, dLt, dLe, dGt, dGe, vP, vQ, vR, vS, vT, dI2, vU, vV, dEq, dNe, vW, vX, vY, vZ, ja, jb, jc, jd, je, jf, Option.some.injEq, jg, jh, ji, jk, jl, dIs, jm, jn, shs, kiC, jo, jp, obD, id_eq, List.getElem?_cons_zero, List.getElem?_cons_succ, List.set_cons_zero, List.set_cons_succ, List.length_cons, List.length_nil, D.bl.injEq, exists_eq_left', decide_eq_true_eq, decide_eq_false_iff_not, Bool.not_eq_true', Bool.not_eq_false', Nat.zero_add, Nat.reduceAdd, true_and, and_true, forall_const, reduceCtorEq, not_true_eq_false, not_false_eq_true, false_implies, true_implies, implies_true, jq, Nat.reduceLeDiff, Int.reduceLE, Int.reduceLT, Int.reduceNeg, Int.reducePow, Int.reduceAdd, Int.reduceSub, Int.reduceMul, dEqB, sn_yu, if_false]
      exact ⟨c, fs, cs, rfl, rfl, w, h, hb, rfl, by have := hok.2.1; omega, rfl, rfl, rfl, q⟩
    | move n =>
      simp only [w__law_told, Deed.dd, ↓za, ↓zb, ↓zc, ↓zd, ↓ze, ↓zf, ↓zg, ↓zh, ↓zi, ↓zj, ↓zk, ↓zl, ↓zm, ↓zn, ↓zo, ↓zp, ↓zq, ↓zr, ↓zt, ↓zu, ↓zv, ↓zw, ↓zx, zy, zz, ↓z3, ↓z7, ↓z8, ↓z9, ↓zA, ↓zB, ↓zC, ↓zD, ↓zE, ↓zF, ↓zG, ↓zH, ↓zI, ↓zJ, ↓zK, ↓zL, ↓zM, ↓zN, ↓zO, ↓zP, ↓zQ, ↓zR, ↓zS, ↓zT, ↓zU, ↓zV, ↓zW, ↓zX, ↓zY, ↓zZ, ↓xf, ↓xg, ↓xh, ↓xi, ↓xj, ↓xk, ↓xl, ↓xm, ↓xq, xt, ↓xu, ↓xw, ↓xy, ↓xz, ↓x5, ↓x6, ↓x7, ↓x8, ↓x9, ↓xB, ↓xD, ↓xE, ↓xF, ↓xG, ↓xH, ↓xI, ↓xJ, ↓xK, ↓xL, ↓xM, ↓xN, ↓xO, ↓xP, ↓xQ, ↓xR, ↓xS, ↓xT, ↓xU, ↓xV, ↓xW, ↓xX, ↓xY, ↓xZ, ↓qb, ↓qc, ↓qd, ↓qf, ↓qg, ↓qh, ↓qi, ↓qj, ↓qk, ↓ql, ↓qm, ↓qo, ↓qp, ↓qr, ↓qt, ↓qu, ↓qv, ↓qw, ↓qz, ↓qA, ↓qB, ↓qC, ↓qE, ↓qF, ↓qG, ↓qH, ↓qI, ↓qJ, ↓qL, ↓qM, ↓qN, ↓qO, ↓qP, ↓qQ, ↓qR, ↓qS, ↓qT, ↓qU, ↓qV, ↓qW, ↓qX, ↓qY, ↓qZ, ↓vf, ↓vg, ↓vh, ↓vi, ↓vj, ↓vk, ↓vl, ↓vm, ↓vo, ↓vp, ↓vq, ↓vt, ↓vu, ↓vw, vz, v6, ↓v7, ↓v8, ↓v9, ↓vA, ↓vB, ↓vC, ↓vD, ↓vE, ↓vF, ↓vG, ↓vH, ↓vI, ↓vJ, ↓vK, ↓vL, ↓vM, ↓vN, ↓vO, dLt, dLe, dGt, dGe, vP, vQ, vR, vS, vT, dI2, vU, vV, dEq, dNe, vW, vX, vY, vZ, ja, jb, jc, jd, je, jf, Option.some.injEq, jg, jh, ji, jk, jl, dIs, jm, jn, shs, kiC, jo, jp, obD, id_eq, List.getElem?_cons_zero, List.getElem?_cons_succ, List.set_cons_zero, List.set_cons_succ, List.length_cons, List.length_nil, D.bl.injEq, exists_eq_left', decide_eq_true_eq, decide_eq_false_iff_not, Bool.not_eq_true', Bool.not_eq_false', Nat.zero_add, Nat.reduceAdd, true_and, and_true, forall_const, reduceCtorEq, not_true_eq_false, not_false_eq_true, false_implies, true_implies, implies_true, jq, Nat.reduceLeDiff, Int.reduceLE, Int.reduceLT, Int.reduceNeg, Int.reducePow, Int.reduceAdd, Int.reduceSub, Int.reduceMul, dEqB, sn_mu, sn_my, if_false]
      have hok : 0 ≤ n ∧ n < 256 := hok
      exact ⟨c, fs, rfl, rfl, w, h, hb, by omega, by omega, rfl, rfl, rfl, q⟩
  · exact h.elim
theorem shw_alike {a b c d : Int} {es : List Deed} (ha : -100000 ≤ a ∧ a ≤ 100000) (hb : -100000 ≤ b ∧ b ≤ 100000) (hc : -100000 ≤ c ∧ c ≤ 100000) (hd : -100000 ≤ d ∧ d ≤ 100000) (h : ∀ e ∈ es, e.ok) (hl : es.length ≤ 1000) : Shw (.lst [.int a, .int b, .int c, .int d, .lst (es.map Deed.dd)]) := by
  have h1 : smDL (es.map Deed.dd) = true := smDL_of fun d hd => by
    obtain ⟨e, he, rfl⟩ := List.mem_map.mp hd
    exact (dd_sm (h e he)).1
  have h3 := szDL_of (ds := es.map Deed.dd) (B := 100) fun d hd => by
    obtain ⟨e, he, rfl⟩ := List.mem_map.mp hd
    exact (dd_sm (h e he)).2.2
  have h2 : depDL (es.map Deed.dd) ≤ 1 := by
    clear h1 h3 hl
    induction es with
    | nil => simp only [List.map_nil, depDL]; omega
    | cons e es ih =>
      have := (dd_sm (h e List.mem_cons_self)).2.1
      have := ih fun x hx => h x (List.mem_cons_of_mem _ hx)
      simp only [List.map_cons, depDL]; omega
  rw [List.length_map] at h3
  refine .of ?_ ?_ ?_
  · simp only [smD, smDL, h1, Bool.and_true, Bool.true_and, Bool.and_eq_true, decide_eq_true_eq]; omega
  · simp only [depD, depDL]; omega
  · simp only [szD, szDL]; omega
def wf__law_alike : WFg
  | [.sh (.ad x), .sh (.lst m), .sh (.ad y), .sh (.ad z)], gs, Q => ∃ (c : AC) (p : PC) (fs : List Str), gs = c.cells ++ p.cells ∧ x = c.s ∧ y = p.p ∧ z = p.d ∧ m = c.ms.map Mach.dd ∧ WOk c.ms c.pl fs ∧ AInv c.ms c.a ∧ p.a = c.a ∧ c.a.deeds.length ≤ 1000 ∧ (∀ e ∈ c.a.deeds, e.ok) ∧ Q (.bl true) (c.cells ++ p.cells)
  | _, _, _ => False
theorem len__law_alike : ∀ as gs Qd, wf__law_alike as gs Qd → as.length = 4 ∧ gs.length ≤ 5 := fun as gs Qd h => by
  unfold wf__law_alike at h
  split at h
  · obtain ⟨c, p, fs, rfl, _⟩ := h; exact ⟨rfl, Nat.le_refl 5⟩
  · exact h.elim
def w__law_alike_x1 : WA := (waCons (wUn jb (wDer 9 (wFld "Account" "deeds" (wDer 8 (wVar 0))))) waNil)
def w__law_alike_x2 : WA := (waCons (wMethC 8 "Account" "worth" [8, 9, 10] [8, 9, 10] wf_Account_worth (wVar 0) asNil) w__law_alike_x1)
def w__law_alike_x3 : WA := (waCons (wMethC 8 "Account" "paid" [8, 9, 10] [8, 9, 10] wf_Account_paid (wVar 0) asNil) w__law_alike_x2)
def w__law_alike_x4 : WA := (waCons (wMethC 8 "Account" "state" [8, 9, 10] [8, 9, 10] wf_Account_state (wVar 0) asNil) w__law_alike_x3)
def w__law_alike_t5 : WS := (wRet (wCallPk wf__law_same (asCons (wVar 7) (asCons (wFz (wfLst (waCons (wVar 4) (waCons (wVar 5) (waCons (wVar 6) (waCons (wOp vV (wPk 6) (wOp dIx (wFld "Machine" "leave" (wOp dIx (wPk 1) (wPk 4))) (wPk 5))) (waCons (wVar 3) waNil))))))) asNil))))
def w__law_alike_t6 : WS := (wSeq (wAsg (wFz (wfLst (waCons (wMethC 8 "Account" "scheme" [8, 9, 10] [8, 9, 10] wf_Account_scheme (wVar 0) asNil) w__law_alike_x4))) (wSt 7))
 w__law_alike_t5)
def w__law_alike : WS := (wSeq (wAsg (wOp dIx (wDer 11 (wVar 2)) (wUn dNeg (wC (.int 1)))) (wTp [4, 5, 6]))
 w__law_alike_t6)
theorem p__law_alike : ∀ as gs Qd, wf__law_alike as gs Qd → w__law_alike (startG 4 5 as gs) (endG [8, 9, 10, 11, 12] Qd) := fun as gs Qd h => by
  unfold wf__law_alike at h
  split at h
  · obtain ⟨c, p, fs, rfl, rfl, rfl, rfl, rfl, w, h, ea, hb, hok, q⟩ := h
    have h2 : AInv c.ms p.a := by rw [ea]; exact h
    show w__law_alike [.sh (.ad c.s), .sh (.lst (c.ms.map Mach.dd)), .sh (.ad p.p), .sh (.ad p.d), .no, .no, .no, .no, .gh c.s (.ins "Account" acF [.lst (c.ms.map Mach.dd), caD c.pl, .ad c.d, .ad c.p]), .gh c.d (.lst (c.a.deeds.map Deed.dd)), .gh c.p (.lst (c.a.past.map Pt.dd)), .gh p.p (.lst (p.a.past.map Pt.dd)), .gh p.d (.lst (p.a.deeds.map Deed.dd))] _
    simp only [w__law_alike, ↓za, ↓zb, ↓zc, ↓zd, ↓ze, ↓zf, ↓zg, ↓zh, ↓zi, ↓zj, ↓zk, ↓zl, ↓zm, ↓zn, ↓zo, ↓zp, ↓zq, ↓zr, ↓zt, ↓zu, ↓zv, ↓zw, ↓zx, zy, zz, ↓z3, ↓z7, ↓z8, ↓z9, ↓zA, ↓zB, ↓zC, ↓zD, ↓zE, ↓zF, ↓zG, ↓zH, ↓zI, ↓zJ, ↓zK, ↓zL, ↓zM, ↓zN, ↓zO, ↓zP, ↓zQ, ↓zR, ↓zS, ↓zT, ↓zU, ↓zV, ↓zW, ↓zX, ↓zY, ↓zZ, ↓xf, ↓xg, ↓xh, ↓xi, ↓xj, ↓xk, ↓xl, ↓xm, ↓xq, xt, ↓xu, ↓xw, ↓xy, ↓xz, ↓x5, ↓x6, ↓x7, ↓x8, ↓x9, ↓xB, ↓xD, ↓xE, ↓xF, ↓xG, ↓xH, ↓xI, ↓xJ, ↓xK, ↓xL, ↓xM, ↓xN, ↓xO, ↓xP, ↓xQ, ↓xR, ↓xS, ↓xT, ↓xU, ↓xV, ↓xW, ↓xX, ↓xY, ↓xZ, ↓qb, ↓qc, ↓qd, ↓qf, ↓qg, ↓qh, ↓qi, ↓qj, ↓qk, ↓ql, ↓qm, ↓qo, ↓qp, ↓qr, ↓qt, ↓qu, ↓qv, ↓qw, ↓qz, ↓qA, ↓qB, ↓qC, ↓qE, ↓qF, ↓qG, ↓qH, ↓qI, ↓qJ, ↓qL, ↓qM, ↓qN, ↓qO, ↓qP, ↓qQ, ↓qR, ↓qS, ↓qT, ↓qU, ↓qV, ↓qW, ↓qX, ↓qY, ↓qZ, ↓vf, ↓vg, ↓vh, ↓vi, ↓vj, ↓vk, ↓vl, ↓vm, ↓vo, ↓vp, ↓vq, ↓vt, ↓vu, ↓vw, vz, v6, ↓v7, ↓v8, ↓v9, ↓vA, ↓vB, ↓vC, ↓vD, ↓vE, ↓vF, ↓vG, ↓vH, ↓vI, ↓vJ, ↓vK, ↓vL, ↓vM, ↓vN, ↓vO, dLt, dLe, dGt, dGe, vP, vQ, vR, vS, vT, dI2, vU, vV, dEq, dNe, vW, vX, vY, vZ, ja, jb, jc, jd, je, jf, Option.some.injEq, jg, jh, ji, jk, jl, dIs, jm, jn, shs, kiC, jo, jp, obD, id_eq, List.getElem?_cons_zero, List.getElem?_cons_succ, List.set_cons_zero, List.set_cons_succ, List.length_cons, List.length_nil, D.bl.injEq, exists_eq_left', decide_eq_true_eq, decide_eq_false_iff_not, Bool.not_eq_true', Bool.not_eq_false', Nat.zero_add, Nat.reduceAdd, true_and, and_true, forall_const, reduceCtorEq, not_true_eq_false, not_false_eq_true, false_implies, true_implies, implies_true, jq, Nat.reduceLeDiff, Int.reduceLE, Int.reduceLT, Int.reduceNeg, Int.reducePow, Int.reduceAdd, Int.reduceSub, Int.reduceMul, dNeg]
    refine ⟨_, h2.at1, ?_⟩
    rw [show lastP p.a = lastP c.a by rw [ea]]
    simp only [Pt.dd, ↓za, ↓zb, ↓zc, ↓zd, ↓ze, ↓zf, ↓zg, ↓zh, ↓zi, ↓zj, ↓zk, ↓zl, ↓zm, ↓zn, ↓zo, ↓zp, ↓zq, ↓zr, ↓zt, ↓zu, ↓zv, ↓zw, ↓zx, zy, zz, ↓z3, ↓z7, ↓z8, ↓z9, ↓zA, ↓zB, ↓zC, ↓zD, ↓zE, ↓zF, ↓zG, ↓zH, ↓zI, ↓zJ, ↓zK, ↓zL, ↓zM, ↓zN, ↓zO, ↓zP, ↓zQ, ↓zR, ↓zS, ↓zT, ↓zU, ↓zV, ↓zW, ↓zX, ↓zY, ↓zZ, ↓xf, ↓xg, ↓xh, ↓xi, ↓xj, ↓xk, ↓xl, ↓xm, ↓xq, xt, ↓xu, ↓xw, ↓xy, ↓xz, ↓x5, ↓x6, ↓x7, ↓x8, ↓x9, ↓xB, ↓xD, ↓xE, ↓xF, ↓xG, ↓xH, ↓xI, ↓xJ, ↓xK, ↓xL, ↓xM, ↓xN, ↓xO, ↓xP, ↓xQ, ↓xR, ↓xS, ↓xT, ↓xU, ↓xV, ↓xW, ↓xX, ↓xY, ↓xZ, ↓qb, ↓qc, ↓qd, ↓qf, ↓qg, ↓qh, ↓qi, ↓qj, ↓qk, ↓ql, ↓qm, ↓qo, ↓qp, ↓qr, ↓qt, ↓qu, ↓qv, ↓qw, ↓qz, ↓qA, ↓qB, ↓qC, ↓qE, ↓qF, ↓qG, ↓qH, ↓qI, ↓qJ, ↓qL, ↓qM, ↓qN, ↓qO, ↓qP, ↓qQ, ↓qR, ↓qS, ↓qT, ↓qU, ↓qV, ↓qW, ↓qX, ↓qY, ↓qZ, ↓vf, ↓vg, ↓vh, ↓vi, ↓vj, ↓vk, ↓vl, ↓vm, ↓vo, ↓vp, ↓vq, ↓vt, ↓vu, ↓vw, vz, v6, ↓v7, ↓v8, ↓v9, ↓vA, ↓vB, ↓vC, ↓vD, ↓vE, ↓vF, ↓vG, ↓vH, ↓vI, ↓vJ, ↓vK, ↓vL, ↓vM, ↓vN, ↓vO, dLt, dLe, dGt, dGe, vP, vQ, vR, vS, vT, dI2, vU, vV, dEq, dNe, vW, vX, vY, vZ, ja, jb, jc, jd, je, jf, Option.some.injEq, jg, jh, ji, jk, jl, dIs, jm, jn, shs, kiC, jo, jp, obD, id_eq, List.getElem?_cons_zero, List.getElem?_cons_succ, List.set_cons_zero, List.set_cons_succ, List.length_cons, List.length_nil, D.bl.injEq, exists_eq_left', decide_eq_true_eq, decide_eq_false_iff_not, Bool.not_eq_true', Bool.not_eq_false', Nat.zero_add, Nat.reduceAdd, true_and, and_true, forall_const, reduceCtorEq, not_true_eq_false, not_false_eq_true, false_implies, true_implies, implies_true, jq, Nat.reduceLeDiff, Int.reduceLE, Int.reduceLT, Int.reduceNeg, Int.reducePow, Int.reduceAdd, Int.reduceSub, Int.reduceMul]
    simp only [w__law_alike_t6, ↓za, ↓zb, ↓zc, ↓zd, ↓ze, ↓zf, ↓zg, ↓zh, ↓zi, ↓zj, ↓zk, ↓zl, ↓zm, ↓zn, ↓zo, ↓zp, ↓zq, ↓zr, ↓zt, ↓zu, ↓zv, ↓zw, ↓zx, zy, zz, ↓z3, ↓z7, ↓z8, ↓z9, ↓zA, ↓zB, ↓zC, ↓zD, ↓zE, ↓zF, ↓zG, ↓zH, ↓zI, ↓zJ, ↓zK, ↓zL, ↓zM, ↓zN, ↓zO, ↓zP, ↓zQ, ↓zR, ↓zS, ↓zT, ↓zU, ↓zV, ↓zW, ↓zX, ↓zY, ↓zZ, ↓xf, ↓xg, ↓xh, ↓xi, ↓xj, ↓xk, ↓xl, ↓xm, ↓xq, xt, ↓xu, ↓xw, ↓xy, ↓xz, ↓x5, ↓x6, ↓x7, ↓x8, ↓x9, ↓xB, ↓xD, ↓xE, ↓xF, ↓xG, ↓xH, ↓xI, ↓xJ, ↓xK, ↓xL, ↓xM, ↓xN, ↓xO, ↓xP, ↓xQ, ↓xR, ↓xS, ↓xT, ↓xU, ↓xV, ↓xW, ↓xX, ↓xY, ↓xZ, ↓qb, ↓qc, ↓qd, ↓qf, ↓qg, ↓qh, ↓qi, ↓qj, ↓qk, ↓ql, ↓qm, ↓qo, ↓qp, ↓qr, ↓qt, ↓qu, ↓qv, ↓qw, ↓qz, ↓qA, ↓qB, ↓qC, ↓qE, ↓qF, ↓qG, ↓qH, ↓qI, ↓qJ, ↓qL, ↓qM, ↓qN, ↓qO, ↓qP, ↓qQ, ↓qR, ↓qS, ↓qT, ↓qU, ↓qV, ↓qW, ↓qX, ↓qY, ↓qZ, ↓vf, ↓vg, ↓vh, ↓vi, ↓vj, ↓vk, ↓vl, ↓vm, ↓vo, ↓vp, ↓vq, ↓vt, ↓vu, ↓vw, vz, v6, ↓v7, ↓v8, ↓v9, ↓vA, ↓vB, ↓vC, ↓vD, ↓vE, ↓vF, ↓vG, ↓vH, ↓vI, ↓vJ, ↓vK, ↓vL, ↓vM, ↓vN, ↓vO, dLt, dLe, dGt, dGe, vP, vQ, vR, vS, vT, dI2, vU, vV, dEq, dNe, vW, vX, vY, vZ, ja, jb, jc, jd, je, jf, Option.some.injEq, jg, jh, ji, jk, jl, dIs, jm, jn, shs, kiC, jo, jp, obD, id_eq, List.getElem?_cons_zero, List.getElem?_cons_succ, List.set_cons_zero, List.set_cons_succ, List.length_cons, List.length_nil, D.bl.injEq, exists_eq_left', decide_eq_true_eq, decide_eq_false_iff_not, Bool.not_eq_true', Bool.not_eq_false', Nat.zero_add, Nat.reduceAdd, true_and, and_true, forall_const, reduceCtorEq, not_true_eq_false, not_false_eq_true, false_implies, true_implies, implies_true, jq, Nat.reduceLeDiff, Int.reduceLE, Int.reduceLT, Int.reduceNeg, Int.reducePow, Int.reduceAdd, Int.reduceSub, Int.reduceMul]
    refine ⟨acF_nd.2.2.2.1, c, rfl, rfl, h, ?_⟩
    simp only [AC.cells, w__law_alike_x4, ↓za, ↓zb, ↓zc, ↓zd, ↓ze, ↓zf, ↓zg, ↓zh, ↓zi, ↓zj, ↓zk, ↓zl, ↓zm, ↓zn, ↓zo, ↓zp, ↓zq, ↓zr, ↓zt, ↓zu, ↓zv, ↓zw, ↓zx, zy, zz, ↓z3, ↓z7, ↓z8, ↓z9, ↓zA, ↓zB, ↓zC, ↓zD, ↓zE, ↓zF, ↓zG, ↓zH, ↓zI, ↓zJ, ↓zK, ↓zL, ↓zM, ↓zN, ↓zO, ↓zP, ↓zQ, ↓zR, ↓zS, ↓zT, ↓zU, ↓zV, ↓zW, ↓zX, ↓zY, ↓zZ, ↓xf, ↓xg, ↓xh, ↓xi, ↓xj, ↓xk, ↓xl, ↓xm, ↓xq, xt, ↓xu, ↓xw, ↓xy, ↓xz, ↓x5, ↓x6, ↓x7, ↓x8, ↓x9, ↓xB, ↓xD, ↓xE, ↓xF, ↓xG, ↓xH, ↓xI, ↓xJ, ↓xK, ↓xL, ↓xM, ↓xN, ↓xO, ↓xP, ↓xQ, ↓xR, ↓xS, ↓xT, ↓xU, ↓xV, ↓xW, ↓xX, ↓xY, ↓xZ, ↓qb, ↓qc, ↓qd, ↓qf, ↓qg, ↓qh, ↓qi, ↓qj, ↓qk, ↓ql, ↓qm, ↓qo, ↓qp, ↓qr, ↓qt, ↓qu, ↓qv, ↓qw, ↓qz, ↓qA, ↓qB, ↓qC, ↓qE, ↓qF, ↓qG, ↓qH, ↓qI, ↓qJ, ↓qL, ↓qM, ↓qN, ↓qO, ↓qP, ↓qQ, ↓qR, ↓qS, ↓qT, ↓qU, ↓qV, ↓qW, ↓qX, ↓qY, ↓qZ, ↓vf, ↓vg, ↓vh, ↓vi, ↓vj, ↓vk, ↓vl, ↓vm, ↓vo, ↓vp, ↓vq, ↓vt, ↓vu, ↓vw, vz, v6, ↓v7, ↓v8, ↓v9, ↓vA, ↓vB, ↓vC, ↓vD, ↓vE, ↓vF, ↓vG, ↓vH, ↓vI, ↓vJ, ↓vK, ↓vL, ↓vM, ↓vN, ↓vO, dLt, dLe, dGt, dGe, vP, vQ, vR, vS, vT, dI2, vU, vV, dEq, dNe, vW, vX, vY, vZ, ja, jb, jc, jd, je, jf, Option.some.injEq, jg, jh, ji, jk, jl, dIs, jm, jn, shs, kiC, jo, jp, obD, id_eq, List.getElem?_cons_zero, List.getElem?_cons_succ, List.set_cons_zero, List.set_cons_succ, List.length_cons, List.length_nil, D.bl.injEq, exists_eq_left', decide_eq_true_eq, decide_eq_false_iff_not, Bool.not_eq_true', Bool.not_eq_false', Nat.zero_add, Nat.reduceAdd, true_and, and_true, forall_const, reduceCtorEq, not_true_eq_false, not_false_eq_true, false_implies, true_implies, implies_true, jq, Nat.reduceLeDiff, Int.reduceLE, Int.reduceLT, Int.reduceNeg, Int.reducePow, Int.reduceAdd, Int.reduceSub, Int.reduceMul]
    refine ⟨acF_nd.2.2.2.2.1, c, rfl, rfl, h, ?_⟩
    simp only [AC.cells, w__law_alike_x3, ↓za, ↓zb, ↓zc, ↓zd, ↓ze, ↓zf, ↓zg, ↓zh, ↓zi, ↓zj, ↓zk, ↓zl, ↓zm, ↓zn, ↓zo, ↓zp, ↓zq, ↓zr, ↓zt, ↓zu, ↓zv, ↓zw, ↓zx, zy, zz, ↓z3, ↓z7, ↓z8, ↓z9, ↓zA, ↓zB, ↓zC, ↓zD, ↓zE, ↓zF, ↓zG, ↓zH, ↓zI, ↓zJ, ↓zK, ↓zL, ↓zM, ↓zN, ↓zO, ↓zP, ↓zQ, ↓zR, ↓zS, ↓zT, ↓zU, ↓zV, ↓zW, ↓zX, ↓zY, ↓zZ, ↓xf, ↓xg, ↓xh, ↓xi, ↓xj, ↓xk, ↓xl, ↓xm, ↓xq, xt, ↓xu, ↓xw, ↓xy, ↓xz, ↓x5, ↓x6, ↓x7, ↓x8, ↓x9, ↓xB, ↓xD, ↓xE, ↓xF, ↓xG, ↓xH, ↓xI, ↓xJ, ↓xK, ↓xL, ↓xM, ↓xN, ↓xO, ↓xP, ↓xQ, ↓xR, ↓xS, ↓xT, ↓xU, ↓xV, ↓xW, ↓xX, ↓xY, ↓xZ, ↓qb, ↓qc, ↓qd, ↓qf, ↓qg, ↓qh, ↓qi, ↓qj, ↓qk, ↓ql, ↓qm, ↓qo, ↓qp, ↓qr, ↓qt, ↓qu, ↓qv, ↓qw, ↓qz, ↓qA, ↓qB, ↓qC, ↓qE, ↓qF, ↓qG, ↓qH, ↓qI, ↓qJ, ↓qL, ↓qM, ↓qN, ↓qO, ↓qP, ↓qQ, ↓qR, ↓qS, ↓qT, ↓qU, ↓qV, ↓qW, ↓qX, ↓qY, ↓qZ, ↓vf, ↓vg, ↓vh, ↓vi, ↓vj, ↓vk, ↓vl, ↓vm, ↓vo, ↓vp, ↓vq, ↓vt, ↓vu, ↓vw, vz, v6, ↓v7, ↓v8, ↓v9, ↓vA, ↓vB, ↓vC, ↓vD, ↓vE, ↓vF, ↓vG, ↓vH, ↓vI, ↓vJ, ↓vK, ↓vL, ↓vM, ↓vN, ↓vO, dLt, dLe, dGt, dGe, vP, vQ, vR, vS, vT, dI2, vU, vV, dEq, dNe, vW, vX, vY, vZ, ja, jb, jc, jd, je, jf, Option.some.injEq, jg, jh, ji, jk, jl, dIs, jm, jn, shs, kiC, jo, jp, obD, id_eq, List.getElem?_cons_zero, List.getElem?_cons_succ, List.set_cons_zero, List.set_cons_succ, List.length_cons, List.length_nil, D.bl.injEq, exists_eq_left', decide_eq_true_eq, decide_eq_false_iff_not, Bool.not_eq_true', Bool.not_eq_false', Nat.zero_add, Nat.reduceAdd, true_and, and_true, forall_const, reduceCtorEq, not_true_eq_false, not_false_eq_true, false_implies, true_implies, implies_true, jq, Nat.reduceLeDiff, Int.reduceLE, Int.reduceLT, Int.reduceNeg, Int.reducePow, Int.reduceAdd, Int.reduceSub, Int.reduceMul]
    refine ⟨acF_nd.2.2.2.2.2.1, c, rfl, rfl, h, ?_⟩
    simp only [AC.cells, w__law_alike_x2, ↓za, ↓zb, ↓zc, ↓zd, ↓ze, ↓zf, ↓zg, ↓zh, ↓zi, ↓zj, ↓zk, ↓zl, ↓zm, ↓zn, ↓zo, ↓zp, ↓zq, ↓zr, ↓zt, ↓zu, ↓zv, ↓zw, ↓zx, zy, zz, ↓z3, ↓z7, ↓z8, ↓z9, ↓zA, ↓zB, ↓zC, ↓zD, ↓zE, ↓zF, ↓zG, ↓zH, ↓zI, ↓zJ, ↓zK, ↓zL, ↓zM, ↓zN, ↓zO, ↓zP, ↓zQ, ↓zR, ↓zS, ↓zT, ↓zU, ↓zV, ↓zW, ↓zX, ↓zY, ↓zZ, ↓xf, ↓xg, ↓xh, ↓xi, ↓xj, ↓xk, ↓xl, ↓xm, ↓xq, xt, ↓xu, ↓xw, ↓xy, ↓xz, ↓x5, ↓x6, ↓x7, ↓x8, ↓x9, ↓xB, ↓xD, ↓xE, ↓xF, ↓xG, ↓xH, ↓xI, ↓xJ, ↓xK, ↓xL, ↓xM, ↓xN, ↓xO, ↓xP, ↓xQ, ↓xR, ↓xS, ↓xT, ↓xU, ↓xV, ↓xW, ↓xX, ↓xY, ↓xZ, ↓qb, ↓qc, ↓qd, ↓qf, ↓qg, ↓qh, ↓qi, ↓qj, ↓qk, ↓ql, ↓qm, ↓qo, ↓qp, ↓qr, ↓qt, ↓qu, ↓qv, ↓qw, ↓qz, ↓qA, ↓qB, ↓qC, ↓qE, ↓qF, ↓qG, ↓qH, ↓qI, ↓qJ, ↓qL, ↓qM, ↓qN, ↓qO, ↓qP, ↓qQ, ↓qR, ↓qS, ↓qT, ↓qU, ↓qV, ↓qW, ↓qX, ↓qY, ↓qZ, ↓vf, ↓vg, ↓vh, ↓vi, ↓vj, ↓vk, ↓vl, ↓vm, ↓vo, ↓vp, ↓vq, ↓vt, ↓vu, ↓vw, vz, v6, ↓v7, ↓v8, ↓v9, ↓vA, ↓vB, ↓vC, ↓vD, ↓vE, ↓vF, ↓vG, ↓vH, ↓vI, ↓vJ, ↓vK, ↓vL, ↓vM, ↓vN, ↓vO, dLt, dLe, dGt, dGe, vP, vQ, vR, vS, vT, dI2, vU, vV, dEq, dNe, vW, vX, vY, vZ, ja, jb, jc, jd, je, jf, Option.some.injEq, jg, jh, ji, jk, jl, dIs, jm, jn, shs, kiC, jo, jp, obD, id_eq, List.getElem?_cons_zero, List.getElem?_cons_succ, List.set_cons_zero, List.set_cons_succ, List.length_cons, List.length_nil, D.bl.injEq, exists_eq_left', decide_eq_true_eq, decide_eq_false_iff_not, Bool.not_eq_true', Bool.not_eq_false', Nat.zero_add, Nat.reduceAdd, true_and, and_true, forall_const, reduceCtorEq, not_true_eq_false, not_false_eq_true, false_implies, true_implies, implies_true, jq, Nat.reduceLeDiff, Int.reduceLE, Int.reduceLT, Int.reduceNeg, Int.reducePow, Int.reduceAdd, Int.reduceSub, Int.reduceMul]
    refine ⟨acF_nd.2.2.2.2.2.2.1, c, fs, rfl, rfl, w, h, ?_⟩
    simp only [AC.cells, w__law_alike_x1, ↓za, ↓zb, ↓zc, ↓zd, ↓ze, ↓zf, ↓zg, ↓zh, ↓zi, ↓zj, ↓zk, ↓zl, ↓zm, ↓zn, ↓zo, ↓zp, ↓zq, ↓zr, ↓zt, ↓zu, ↓zv, ↓zw, ↓zx, zy, zz, ↓z3, ↓z7, ↓z8, ↓z9, ↓zA, ↓zB, ↓zC, ↓zD, ↓zE, ↓zF, ↓zG, ↓zH, ↓zI, ↓zJ, ↓zK, ↓zL, ↓zM, ↓zN, ↓zO, ↓zP, ↓zQ, ↓zR, ↓zS, ↓zT, ↓zU, ↓zV, ↓zW, ↓zX, ↓zY, ↓zZ, ↓xf, ↓xg, ↓xh, ↓xi, ↓xj, ↓xk, ↓xl, ↓xm, ↓xq, xt, ↓xu, ↓xw, ↓xy, ↓xz, ↓x5, ↓x6, ↓x7, ↓x8, ↓x9, ↓xB, ↓xD, ↓xE, ↓xF, ↓xG, ↓xH, ↓xI, ↓xJ, ↓xK, ↓xL, ↓xM, ↓xN, ↓xO, ↓xP, ↓xQ, ↓xR, ↓xS, ↓xT, ↓xU, ↓xV, ↓xW, ↓xX, ↓xY, ↓xZ, ↓qb, ↓qc, ↓qd, ↓qf, ↓qg, ↓qh, ↓qi, ↓qj, ↓qk, ↓ql, ↓qm, ↓qo, ↓qp, ↓qr, ↓qt, ↓qu, ↓qv, ↓qw, ↓qz, ↓qA, ↓qB, ↓qC, ↓qE, ↓qF, ↓qG, ↓qH, ↓qI, ↓qJ, ↓qL, ↓qM, ↓qN, ↓qO, ↓qP, ↓qQ, ↓qR, ↓qS, ↓qT, ↓qU, ↓qV, ↓qW, ↓qX, ↓qY, ↓qZ, ↓vf, ↓vg, ↓vh, ↓vi, ↓vj, ↓vk, ↓vl, ↓vm, ↓vo, ↓vp, ↓vq, ↓vt, ↓vu, ↓vw, vz, v6, ↓v7, ↓v8, ↓v9, ↓vA, ↓vB, ↓vC, ↓vD, ↓vE, ↓vF, ↓vG, ↓vH, ↓vI, ↓vJ, ↓vK, ↓vL, ↓vM, ↓vN, ↓vO, dLt, dLe, dGt, dGe, vP, vQ, vR, vS, vT, dI2, vU, vV, dEq, dNe, vW, vX, vY, vZ, ja, jb, jc, jd, je, jf, Option.some.injEq, jg, jh, ji, jk, jl, dIs, jm, jn, shs, kiC, jo, jp, obD, id_eq, List.getElem?_cons_zero, List.getElem?_cons_succ, List.set_cons_zero, List.set_cons_succ, List.length_cons, List.length_nil, D.bl.injEq, exists_eq_left', decide_eq_true_eq, decide_eq_false_iff_not, Bool.not_eq_true', Bool.not_eq_false', Nat.zero_add, Nat.reduceAdd, true_and, and_true, forall_const, reduceCtorEq, not_true_eq_false, not_false_eq_true, false_implies, true_implies, implies_true, jq, Nat.reduceLeDiff, Int.reduceLE, Int.reduceLT, Int.reduceNeg, Int.reducePow, Int.reduceAdd, Int.reduceSub, Int.reduceMul, lka_deeds, jb, List.length_map]
    obtain ⟨hl, hp⟩ := h.last
    obtain ⟨m1, m2, m3⟩ := machAt_at hp.s0 hp.s1
    have t1 := hp.t1
    have t0 := hp.t0
    simp only [w__law_alike_t5, ↓za, ↓zb, ↓zc, ↓zd, ↓ze, ↓zf, ↓zg, ↓zh, ↓zi, ↓zj, ↓zk, ↓zl, ↓zm, ↓zn, ↓zo, ↓zp, ↓zq, ↓zr, ↓zt, ↓zu, ↓zv, ↓zw, ↓zx, zy, zz, ↓z3, ↓z7, ↓z8, ↓z9, ↓zA, ↓zB, ↓zC, ↓zD, ↓zE, ↓zF, ↓zG, ↓zH, ↓zI, ↓zJ, ↓zK, ↓zL, ↓zM, ↓zN, ↓zO, ↓zP, ↓zQ, ↓zR, ↓zS, ↓zT, ↓zU, ↓zV, ↓zW, ↓zX, ↓zY, ↓zZ, ↓xf, ↓xg, ↓xh, ↓xi, ↓xj, ↓xk, ↓xl, ↓xm, ↓xq, xt, ↓xu, ↓xw, ↓xy, ↓xz, ↓x5, ↓x6, ↓x7, ↓x8, ↓x9, ↓xB, ↓xD, ↓xE, ↓xF, ↓xG, ↓xH, ↓xI, ↓xJ, ↓xK, ↓xL, ↓xM, ↓xN, ↓xO, ↓xP, ↓xQ, ↓xR, ↓xS, ↓xT, ↓xU, ↓xV, ↓xW, ↓xX, ↓xY, ↓xZ, ↓qb, ↓qc, ↓qd, ↓qf, ↓qg, ↓qh, ↓qi, ↓qj, ↓qk, ↓ql, ↓qm, ↓qo, ↓qp, ↓qr, ↓qt, ↓qu, ↓qv, ↓qw, ↓qz, ↓qA, ↓qB, ↓qC, ↓qE, ↓qF, ↓qG, ↓qH, ↓qI, ↓qJ, ↓qL, ↓qM, ↓qN, ↓qO, ↓qP, ↓qQ, ↓qR, ↓qS, ↓qT, ↓qU, ↓qV, ↓qW, ↓qX, ↓qY, ↓qZ, ↓vf, ↓vg, ↓vh, ↓vi, ↓vj, ↓vk, ↓vl, ↓vm, ↓vo, ↓vp, ↓vq, ↓vt, ↓vu, ↓vw, vz, v6, ↓v7, ↓v8, ↓v9, ↓vA, ↓vB, ↓vC, ↓vD, ↓vE, ↓vF, ↓vG, ↓vH, ↓vI, ↓vJ, ↓vK, ↓vL, ↓vM, ↓vN, ↓vO, dLt, dLe, dGt, dGe, vP, vQ, vR, vS, vT, dI2, vU, vV, dEq, dNe, vW, vX, vY, vZ, ja, jb, jc, jd, je, jf, Option.some.injEq, jg, jh, ji, jk, jl, dIs, jm, jn, shs, kiC, jo, jp, obD, id_eq, List.getElem?_cons_zero, List.getElem?_cons_succ, List.set_cons_zero, List.set_cons_succ, List.length_cons, List.length_nil, D.bl.injEq, exists_eq_left', decide_eq_true_eq, decide_eq_false_iff_not, Bool.not_eq_true', Bool.not_eq_false', Nat.zero_add, Nat.reduceAdd, true_and, and_true, forall_const, reduceCtorEq, not_true_eq_false, not_false_eq_true, false_implies, true_implies, implies_true, jq, Nat.reduceLeDiff, Int.reduceLE, Int.reduceLT, Int.reduceNeg, Int.reducePow, Int.reduceAdd, Int.reduceSub, Int.reduceMul]
    refine ⟨_, m2, ?_⟩
    simp only [Mach.dd, Cary.dd, lk_facts, lk_step, lk_gain, lk_leave, lk_to, lk_cost, ↓za, ↓zb, ↓zc, ↓zd, ↓ze, ↓zf, ↓zg, ↓zh, ↓zi, ↓zj, ↓zk, ↓zl, ↓zm, ↓zn, ↓zo, ↓zp, ↓zq, ↓zr, ↓zt, ↓zu, ↓zv, ↓zw, ↓zx, zy, zz, ↓z3, ↓z7, ↓z8, ↓z9, ↓zA, ↓zB, ↓zC, ↓zD, ↓zE, ↓zF, ↓zG, ↓zH, ↓zI, ↓zJ, ↓zK, ↓zL, ↓zM, ↓zN, ↓zO, ↓zP, ↓zQ, ↓zR, ↓zS, ↓zT, ↓zU, ↓zV, ↓zW, ↓zX, ↓zY, ↓zZ, ↓xf, ↓xg, ↓xh, ↓xi, ↓xj, ↓xk, ↓xl, ↓xm, ↓xq, xt, ↓xu, ↓xw, ↓xy, ↓xz, ↓x5, ↓x6, ↓x7, ↓x8, ↓x9, ↓xB, ↓xD, ↓xE, ↓xF, ↓xG, ↓xH, ↓xI, ↓xJ, ↓xK, ↓xL, ↓xM, ↓xN, ↓xO, ↓xP, ↓xQ, ↓xR, ↓xS, ↓xT, ↓xU, ↓xV, ↓xW, ↓xX, ↓xY, ↓xZ, ↓qb, ↓qc, ↓qd, ↓qf, ↓qg, ↓qh, ↓qi, ↓qj, ↓qk, ↓ql, ↓qm, ↓qo, ↓qp, ↓qr, ↓qt, ↓qu, ↓qv, ↓qw, ↓qz, ↓qA, ↓qB, ↓qC, ↓qE, ↓qF, ↓qG, ↓qH, ↓qI, ↓qJ, ↓qL, ↓qM, ↓qN, ↓qO, ↓qP, ↓qQ, ↓qR, ↓qS, ↓qT, ↓qU, ↓qV, ↓qW, ↓qX, ↓qY, ↓qZ, ↓vf, ↓vg, ↓vh, ↓vi, ↓vj, ↓vk, ↓vl, ↓vm, ↓vo, ↓vp, ↓vq, ↓vt, ↓vu, ↓vw, vz, v6, ↓v7, ↓v8, ↓v9, ↓vA, ↓vB, ↓vC, ↓vD, ↓vE, ↓vF, ↓vG, ↓vH, ↓vI, ↓vJ, ↓vK, ↓vL, ↓vM, ↓vN, ↓vO, dLt, dLe, dGt, dGe, vP, vQ, vR, vS, vT, dI2, vU, vV, dEq, dNe, vW, vX, vY, vZ, ja, jb, jc, jd, je, jf, Option.some.injEq, jg, jh, ji, jk, jl, dIs, jm, jn, shs, kiC, jo, jp, obD, id_eq, List.getElem?_cons_zero, List.getElem?_cons_succ, List.set_cons_zero, List.set_cons_succ, List.length_cons, List.length_nil, D.bl.injEq, exists_eq_left', decide_eq_true_eq, decide_eq_false_iff_not, Bool.not_eq_true', Bool.not_eq_false', Nat.zero_add, Nat.reduceAdd, true_and, and_true, forall_const, reduceCtorEq, not_true_eq_false, not_false_eq_true, false_implies, true_implies, implies_true, jq, Nat.reduceLeDiff, Int.reduceLE, Int.reduceLT, Int.reduceNeg, Int.reducePow, Int.reduceAdd, Int.reduceSub, Int.reduceMul]
    refine ⟨_, Mach.at_leave (w.so.mo _ m1) hp.t0 (by omega), ?_⟩
    simp only [↓za, ↓zb, ↓zc, ↓zd, ↓ze, ↓zf, ↓zg, ↓zh, ↓zi, ↓zj, ↓zk, ↓zl, ↓zm, ↓zn, ↓zo, ↓zp, ↓zq, ↓zr, ↓zt, ↓zu, ↓zv, ↓zw, ↓zx, zy, zz, ↓z3, ↓z7, ↓z8, ↓z9, ↓zA, ↓zB, ↓zC, ↓zD, ↓zE, ↓zF, ↓zG, ↓zH, ↓zI, ↓zJ, ↓zK, ↓zL, ↓zM, ↓zN, ↓zO, ↓zP, ↓zQ, ↓zR, ↓zS, ↓zT, ↓zU, ↓zV, ↓zW, ↓zX, ↓zY, ↓zZ, ↓xf, ↓xg, ↓xh, ↓xi, ↓xj, ↓xk, ↓xl, ↓xm, ↓xq, xt, ↓xu, ↓xw, ↓xy, ↓xz, ↓x5, ↓x6, ↓x7, ↓x8, ↓x9, ↓xB, ↓xD, ↓xE, ↓xF, ↓xG, ↓xH, ↓xI, ↓xJ, ↓xK, ↓xL, ↓xM, ↓xN, ↓xO, ↓xP, ↓xQ, ↓xR, ↓xS, ↓xT, ↓xU, ↓xV, ↓xW, ↓xX, ↓xY, ↓xZ, ↓qb, ↓qc, ↓qd, ↓qf, ↓qg, ↓qh, ↓qi, ↓qj, ↓qk, ↓ql, ↓qm, ↓qo, ↓qp, ↓qr, ↓qt, ↓qu, ↓qv, ↓qw, ↓qz, ↓qA, ↓qB, ↓qC, ↓qE, ↓qF, ↓qG, ↓qH, ↓qI, ↓qJ, ↓qL, ↓qM, ↓qN, ↓qO, ↓qP, ↓qQ, ↓qR, ↓qS, ↓qT, ↓qU, ↓qV, ↓qW, ↓qX, ↓qY, ↓qZ, ↓vf, ↓vg, ↓vh, ↓vi, ↓vj, ↓vk, ↓vl, ↓vm, ↓vo, ↓vp, ↓vq, ↓vt, ↓vu, ↓vw, vz, v6, ↓v7, ↓v8, ↓v9, ↓vA, ↓vB, ↓vC, ↓vD, ↓vE, ↓vF, ↓vG, ↓vH, ↓vI, ↓vJ, ↓vK, ↓vL, ↓vM, ↓vN, ↓vO, dLt, dLe, dGt, dGe, vP, vQ, vR, vS, vT, dI2, vU, vV, dEq, dNe, vW, vX, vY, vZ, ja, jb, jc, jd, je, jf, Option.some.injEq, jg, jh, ji, jk, jl, dIs, jm, jn, shs, kiC, jo, jp, obD, id_eq, List.getElem?_cons_zero, List.getElem?_cons_succ, List.set_cons_zero, List.set_cons_succ, List.length_cons, List.length_nil, D.bl.injEq, exists_eq_left', decide_eq_true_eq, decide_eq_false_iff_not, Bool.not_eq_true', Bool.not_eq_false', Nat.zero_add, Nat.reduceAdd, true_and, and_true, forall_const, reduceCtorEq, not_true_eq_false, not_false_eq_true, false_implies, true_implies, implies_true, jq, Nat.reduceLeDiff, Int.reduceLE, Int.reduceLT, Int.reduceNeg, Int.reducePow, Int.reduceAdd, Int.reduceSub, Int.reduceMul]
    have dk : okDL (c.a.deeds.map Deed.dd) = true := by
      have : ∀ l : List Deed, (∀ e ∈ l, e.ok) → okDL (l.map Deed.dd) = true := fun l => by
        induction l with
        | nil => intro _; rfl
        | cons e l ih =>
          intro h
          simp only [List.map_cons, okDL, Bool.and_eq_true]
          exact ⟨(smD_all _ (dd_sm (h e List.mem_cons_self)).1).1, ih fun x hx => h x (List.mem_cons_of_mem _ hx)⟩
      exact this _ hok
    refine ⟨[.sh (.lst [.int (lastP c.a).s, .int (lastP c.a).t, .int (lastP c.a).p, .int (wthA c.ms c.a), .lst (c.a.deeds.map Deed.dd)]), .sh (.lst [.int (lastP c.a).s, .int (lastP c.a).t, .int (lastP c.a).p, .int (wthA c.ms c.a), .lst (p.a.deeds.map Deed.dd)])],
      rsAs_cons (rsD_lst (rsDL_cons rsD_int (rsDL_cons rsD_int (rsDL_cons rsD_int (rsDL_cons rsD_int (rsDL_cons (rsD_lst (rsDL_same _ dk)) rsDL_nil)))))) (rsAs_cons (rsD_lst (rsDL_cons rsD_int (rsDL_cons rsD_int (rsDL_cons rsD_int (rsDL_cons rsD_int (rsDL_cons (rsD_ad 12 rfl) rsDL_nil)))))) rsAs_nil), ?_⟩
    simp only [wf__law_same, ea]
    have hg := Mach.lv_in (w.so.mo _ m1) (s := (lastP c.a).t.toNat) (by omega)
    have p0 := hp.p0
    have p1 := hp.p1
    have s0 := hp.s0
    have s1 := hp.s1
    have n3 := w.so.n3
    have k3 := w.so.nst3 (lastP c.a).s
    have hw : wthA c.ms c.a = (lastP c.a).p + (machAt c.ms (lastP c.a).s).lv (lastP c.a).t.toNat := rfl
    refine ⟨trivial, shw_alike (by omega) (by omega) (by omega) (by omega) hok hb, rfl, ?_⟩
    simp only [AC.cells, PC.cells, ea] at q
    exact q
  · exact h.elim
def w_law_x1 : WAs := (asCons (wNewE (wfLst waNil)) asNil)
def w_law_x2 : WE := (wOp (dIsBI id) (wMethCE "Account" "undo" wf_Account_undo (wOp dIx (wOp dIx (wDer 12 (wVar 4)) (wC (.int 0))) (wC (.int 0))) asNil) (wC (.bl false)))
def w_law_x3 : WAs := (asCons (wCallCE wf__law_done (asCons (wVar 2) (asCons (wVar 3) (asCons (wOp dIx (wOp dIx (wDer 12 (wVar 4)) (wC (.int 0))) (wC (.int 1))) (asCons (wOp dIx (wOp dIx (wDer 12 (wVar 4)) (wC (.int 0))) (wC (.int 2))) (asCons (wTup (waCons (wC (.str "undo")) waNil)) asNil)))))) asNil)
def w_law_t4 : WS := (wRet (wAndV (wCallCE wf__law_alike (asCons (wOp dIx (wOp dIx (wDer 12 (wVar 4)) (wC (.int 0))) (wC (.int 0))) (asCons (wVar 2) (asCons (wNewE (wfLst (waCons (wTup (waCons (wC (.int 0)) (waCons (wC (.int 0)) (waCons (wC (.int 0)) waNil)))) waNil))) w_law_x1)))) w_law_x2))
def w_law_x4 : WAs := (asCons (wCallCE wf__law_done (asCons (wVar 2) (asCons (wVar 3) (asCons (wVar 7) (asCons (wVar 8) (asCons (wVar 9) asNil)))))) asNil)
def w_law_t6 : WS := (wForC 12 (wVar 4) (wSt 10)
 (wIf (wNot (wTst (wCallCE wf__law_alike (asCons (wOp dIx (wPk 10) (wC (.int 0))) (asCons (wVar 2) (asCons (wOp dIx (wPk 10) (wC (.int 1))) (asCons (wOp dIx (wPk 10) (wC (.int 2))) asNil)))))))
 (wRet (wC (.bl false)))
 wNext))
def w_law_t7 : WS := (wSeq (wIf (wNot (wTst (wCall wf__law_same (asCons (wCallCE wf__law_told (asCons (wVar 6) (asCons (wVar 9) asNil))) w_law_x4))))
 (wRet (wC (.bl false)))
 wNext)
 w_law_t6)
def w_law_x5 : WA := (waCons (wNewE (wfList (wDerE (wVar 8)))) waNil)
def w_law_x6 : WA := (waCons (wNewE (wfList (wDerE (wVar 7)))) w_law_x5)
def w_law_t10 : WS := (wSeq (wAsg (wCall wf__law_deed (asBox 1 (asCons (wVar 2) asNil))) (wSt 9))
 w_law_t7)
def w_law_t11 : WS := (wSeq (wIf (wAnd (wTst (wOp dEq (wCall wf__law_draw (asBox 1 (asCons (wC (.int 9)) asNil))) (wC (.int 0)))) (wTst (wOp dLt (wUn vW (wDer 12 (wVar 4))) (wC (.int 4)))))
 (wAppC 12 (wVar 4) (wFz (wfLst (waCons (wMethCE "Account" "branch" wf_Account_branch (wVar 6) asNil) w_law_x6))))
 wNext)
 w_law_t10)
def w_law_t12 : WS := (wSeq (wAsg (wOp dIx (wDer 12 (wVar 4)) (wPk 5)) (wTpL [6, 7, 8]))
 w_law_t11)
def w_law_t13 : WS := (wSeq (wFor (wRg1 (waCons (wUn vW (wDerE (wOp dIx (wOp dIx (wDer 12 (wVar 4)) (wC (.int 0))) (wC (.int 2))))) waNil)) (wSt 11)
 (wIf (wNot (wTst (wCall wf__law_same (asCons (wMethCE "Account" "undo" wf_Account_undo (wOp dIx (wOp dIx (wDer 12 (wVar 4)) (wC (.int 0))) (wC (.int 0))) asNil) w_law_x3))))
 (wRet (wC (.bl false)))
 wNext))
 w_law_t4)
def w_law_x7 : WA := (waCons (wNewE (wfLst waNil)) waNil)
def w_law_x8 : WA := (waCons (wNewE (wfLst (waCons (wTup (waCons (wC (.int 0)) (waCons (wC (.int 0)) (waCons (wC (.int 0)) waNil)))) waNil))) w_law_x7)
def w_law_t16 : WS := (wSeq (wFor (wRg1 (waCons (wC (.int 30)) waNil)) (wSt 11)
 (wSeq (wAsg (wOp vR (wUn vX (wCall wf__law_draw (asBox 1 (asCons (wC (.int 900)) asNil)))) (wUn vW (wDer 12 (wVar 4)))) (wSt 5))
 w_law_t12))
 w_law_t13)
def w_law_t17 : WS := (wSeq (wAsg (wNew 12 (wfLst (waCons (wFz (wfLst (waCons (wMakeC "Account" [] [15, 16, 17] wf_Account_init (asCons (wVar 2) (asCons (wCall wf__law_carries (asCons (wVar 3) asNil)) asNil))) w_law_x8))) waNil))) (wSt 4))
 w_law_t16)
def w_law0 : WE := (wCall wf__law_box (asCons (wVar 0) (asCons (wC (.int 0)) (asCons (wC (.int 40)) asNil))))
def w_law1 : WS := (wSeq (wAsg (wCall wf__law_schemes (asBox 1 (asCons (wC (.int 3)) asNil))) (wTpL [2, 3]))
 w_law_t17)
structure T4 where
  s : Addr
  d : Addr
  p : Addr
  q : Addr
  e : Addr
  a : AS
def T4.ac (ms : List Mach) (pl : PL) (t : T4) : AC := ⟨t.s, t.d, t.p, ms, pl, t.a⟩
def T4.pc (t : T4) : PC := ⟨t.q, t.e, t.a⟩
def T4.dd (t : T4) : D := .lst [.ad t.s, .ad t.q, .ad t.e]
def XL (ms : List Mach) (pl : PL) : List T4 → List Sl
  | [] => []
  | t :: L => (t.ac ms pl).cells.map ghS ++ (t.pc.cells.map ghS ++ XL ms pl L)
def pad (n : Nat) : List Sl := List.replicate (20 - 5 * n) .no
theorem XL_app {ms : List Mach} {pl : PL} : ∀ (L M : List T4), XL ms pl (L ++ M) = XL ms pl L ++ XL ms pl M
  | [], M => rfl
  | t :: L, M => by simp only [List.cons_append, XL, XL_app L M, List.append_assoc]
theorem XL_at {ms : List Mach} {pl : PL} {L M : List T4} {t : T4} {P : List Sl} : XL ms pl (L ++ t :: M) ++ P = XL ms pl L ++ ((t.ac ms pl).cells.map ghS ++ (t.pc.cells.map ghS ++ (XL ms pl M ++ P))) := by
  simp only [XL_app, XL, List.append_assoc]
theorem pad_one {n : Nat} (h : n + 1 ≤ 4) : pad n = .no :: .no :: .no :: .no :: .no :: pad (n + 1) := by
  unfold pad
  rw [show 20 - 5 * n = (20 - 5 * (n + 1)) + 5 by omega]
  rfl
structure TI (ms : List Mach) (n : Nat) (t : T4) : Prop where
  iv : AInv ms t.a
  ln : t.a.deeds.length ≤ n
  ok : ∀ e ∈ t.a.deeds, e.ok
  hd : t.a.past[0]? = some ⟨0, 0, 0⟩
theorem TI.step {ms : List Mach} {pl : PL} {fs : List Str} {n : Nat} {t : T4} {e : Deed} (w : WOk ms pl fs) (h : TI ms n t) (he : e.ok) : TI ms (n + 1) { t with a := (doA ms pl fs t.a e).st t.a } := by
  have hl := h.ln
  refine ⟨h.iv.step w e, ?_, ?_, ?_⟩
  · cases e with
    | undo =>
      cases ed : t.a.deeds with
      | nil => simp only [doA, ed, Ev.st]; exact Nat.zero_le _
      | cons x xs =>
        rw [ed] at hl
        simp only [doA, ed, Ev.st]
        rw [List.length_dropLast]; omega
    | year cs => simp only [doA]; split <;> simp only [Ev.st, List.length_append, List.length_singleton] <;> omega
    | move m => simp only [doA]; split <;> simp only [Ev.st, List.length_append, List.length_singleton] <;> omega
  · have add : ∀ x ∈ t.a.deeds ++ [e], x.ok := fun x hx => by
      rcases List.mem_append.mp hx with hx | hx
      · exact h.ok x hx
      · rw [List.mem_singleton.mp hx]; exact he
    cases e with
    | undo =>
      cases ed : t.a.deeds with
      | nil => simp only [doA, ed, Ev.st]; exact fun x hx => by cases hx
      | cons y ys =>
        simp only [doA, ed, Ev.st]
        exact fun x hx => h.ok x (by rw [ed]; exact List.dropLast_subset _ hx)
    | year cs => simp only [doA]; split <;> first | exact add | exact fun x hx => h.ok x hx
    | move m => simp only [doA]; split <;> first | exact add | exact fun x hx => h.ok x hx
  · have hd := h.hd
    have hn := h.iv.ln
    have add : ∀ x, (t.a.past ++ [x])[0]? = some ⟨0, 0, 0⟩ := fun x => by rw [List.getElem?_append_left (by omega)]; exact hd
    cases e with
    | undo =>
      cases ed : t.a.deeds with
      | nil => simp only [doA, ed, Ev.st]; exact hd
      | cons y ys =>
        rw [ed, List.length_cons] at hn
        simp only [doA, ed, Ev.st]
        rw [List.getElem?_dropLast, if_pos (by omega)]; exact hd
    | year cs => simp only [doA]; split <;> first | exact add _ | exact hd
    | move m => simp only [doA]; split <;> first | exact add _ | exact hd
theorem TI.mono {ms : List Mach} {n m : Nat} {t : T4} (h : TI ms n t) (hm : n ≤ m) : TI ms m t := ⟨h.iv, by have := h.ln; omega, h.ok, h.hd⟩
theorem p_law0 : ∀ ns : List Int, w_law0 (scrD ns :: List.replicate 34 .no) fun d ρ => ρ = scrD ns :: List.replicate 34 .no ∧ ∃ ms : List Int, d = .lst [.lst (ms.map D.int), .int 0] :=
  fun ns => ⟨⟨ns, rfl⟩, by decide, by decide, by decide, fun ms => ⟨rfl, ms, rfl⟩⟩
theorem p_law1 : ∀ ns : List Int, w_law1 ((scrD ns :: List.replicate 34 .no).set 1 .bx) { nx := fun _ => False, rt := fun d _ => d = .bl true } := fun ns => by
  show w_law1 [scrD ns, .bx, .no, .no, .no, .no, .no, .no, .no, .no, .no, .no, .no, .no, .no, .no, .no, .no, .no, .no, .no, .no, .no, .no, .no, .no, .no, .no, .no, .no, .no, .no, .no, .no, .no] _
  generalize scrD ns = s0
  simp only [w_law1, ↓za, ↓zb, ↓zc, ↓zd, ↓ze, ↓zf, ↓zg, ↓zh, ↓zi, ↓zj, ↓zk, ↓zl, ↓zm, ↓zn, ↓zo, ↓zp, ↓zq, ↓zr, ↓zt, ↓zu, ↓zv, ↓zw, ↓zx, zy, zz, ↓z3, ↓z7, ↓z8, ↓z9, ↓zA, ↓zB, ↓zC, ↓zD, ↓zE, ↓zF, ↓zG, ↓zH, ↓zI, ↓zJ, ↓zK, ↓zL, ↓zM, ↓zN, ↓zO, ↓zP, ↓zQ, ↓zR, ↓zS, ↓zT, ↓zU, ↓zV, ↓zW, ↓zX, ↓zY, ↓zZ, ↓xf, ↓xg, ↓xh, ↓xi, ↓xj, ↓xk, ↓xl, ↓xm, ↓xq, xt, ↓xu, ↓xw, ↓xy, ↓xz, ↓x5, ↓x6, ↓x7, ↓x8, ↓x9, ↓xB, ↓xD, ↓xE, ↓xF, ↓xG, ↓xH, ↓xI, ↓xJ, ↓xK, ↓xL, ↓xM, ↓xN, ↓xO, ↓xP, ↓xQ, ↓xR, ↓xS, ↓xT, ↓xU, ↓xV, ↓xW, ↓xX, ↓xY, ↓xZ, ↓qb, ↓qc, ↓qd, ↓qf, ↓qg, ↓qh, ↓qi, ↓qj, ↓qk, ↓ql, ↓qm, ↓qo, ↓qp, ↓qr, ↓qt, ↓qu, ↓qv, ↓qw, ↓qz, ↓qA, ↓qB, ↓qC, ↓qE, ↓qF, ↓qG, ↓qH, ↓qI, ↓qJ, ↓qL, ↓qM, ↓qN, ↓qO, ↓qP, ↓qQ, ↓qR, ↓qS, ↓qT, ↓qU, ↓qV, ↓qW, ↓qX, ↓qY, ↓qZ, ↓vf, ↓vg, ↓vh, ↓vi, ↓vj, ↓vk, ↓vl, ↓vm, ↓vo, ↓vp, ↓vq, ↓vt, ↓vu, ↓vw, vz, v6, ↓v7, ↓v8, ↓v9, ↓vA, ↓vB, ↓vC, ↓vD, ↓vE, ↓vF, ↓vG, ↓vH, ↓vI, ↓vJ, ↓vK, ↓vL, ↓vM, ↓vN, ↓vO, dLt, dLe, dGt, dGe, vP, vQ, vR, vS, vT, dI2, vU, vV, dEq, dNe, vW, vX, vY, vZ, ja, jb, jc, jd, je, jf, Option.some.injEq, jg, jh, ji, jk, jl, dIs, jm, jn, shs, kiC, jo, jp, obD, id_eq, List.getElem?_cons_zero, List.getElem?_cons_succ, List.set_cons_zero, List.set_cons_succ, List.length_cons, List.length_nil, D.bl.injEq, exists_eq_left', decide_eq_true_eq, decide_eq_false_iff_not, Bool.not_eq_true', Bool.not_eq_false', Nat.zero_add, Nat.reduceAdd, true_and, and_true, forall_const, reduceCtorEq, not_true_eq_false, not_false_eq_true, false_implies, true_implies, implies_true, jq, Nat.reduceLeDiff, Int.reduceLE, Int.reduceLT, Int.reduceNeg, Int.reducePow, Int.reduceAdd, Int.reduceSub, Int.reduceMul, wf__law_schemes]
  intro fs ms pl gf hfs ok
  have w : WOk ms pl fs := ⟨ok, hfs, gf.2.2.2, gf.2.1, gf.2.2.1⟩
  simp only [w_law_t17, ↓za, ↓zb, ↓zc, ↓zd, ↓ze, ↓zf, ↓zg, ↓zh, ↓zi, ↓zj, ↓zk, ↓zl, ↓zm, ↓zn, ↓zo, ↓zp, ↓zq, ↓zr, ↓zt, ↓zu, ↓zv, ↓zw, ↓zx, zy, zz, ↓z3, ↓z7, ↓z8, ↓z9, ↓zA, ↓zB, ↓zC, ↓zD, ↓zE, ↓zF, ↓zG, ↓zH, ↓zI, ↓zJ, ↓zK, ↓zL, ↓zM, ↓zN, ↓zO, ↓zP, ↓zQ, ↓zR, ↓zS, ↓zT, ↓zU, ↓zV, ↓zW, ↓zX, ↓zY, ↓zZ, ↓xf, ↓xg, ↓xh, ↓xi, ↓xj, ↓xk, ↓xl, ↓xm, ↓xq, xt, ↓xu, ↓xw, ↓xy, ↓xz, ↓x5, ↓x6, ↓x7, ↓x8, ↓x9, ↓xB, ↓xD, ↓xE, ↓xF, ↓xG, ↓xH, ↓xI, ↓xJ, ↓xK, ↓xL, ↓xM, ↓xN, ↓xO, ↓xP, ↓xQ, ↓xR, ↓xS, ↓xT, ↓xU, ↓xV, ↓xW, ↓xX, ↓xY, ↓xZ, ↓qb, ↓qc, ↓qd, ↓qf, ↓qg, ↓qh, ↓qi, ↓qj, ↓qk, ↓ql, ↓qm, ↓qo, ↓qp, ↓qr, ↓qt, ↓qu, ↓qv, ↓qw, ↓qz, ↓qA, ↓qB, ↓qC, ↓qE, ↓qF, ↓qG, ↓qH, ↓qI, ↓qJ, ↓qL, ↓qM, ↓qN, ↓qO, ↓qP, ↓qQ, ↓qR, ↓qS, ↓qT, ↓qU, ↓qV, ↓qW, ↓qX, ↓qY, ↓qZ, ↓vf, ↓vg, ↓vh, ↓vi, ↓vj, ↓vk, ↓vl, ↓vm, ↓vo, ↓vp, ↓vq, ↓vt, ↓vu, ↓vw, vz, v6, ↓v7, ↓v8, ↓v9, ↓vA, ↓vB, ↓vC, ↓vD, ↓vE, ↓vF, ↓vG, ↓vH, ↓vI, ↓vJ, ↓vK, ↓vL, ↓vM, ↓vN, ↓vO, dLt, dLe, dGt, dGe, vP, vQ, vR, vS, vT, dI2, vU, vV, dEq, dNe, vW, vX, vY, vZ, ja, jb, jc, jd, je, jf, Option.some.injEq, jg, jh, ji, jk, jl, dIs, jm, jn, shs, kiC, jo, jp, obD, id_eq, List.getElem?_cons_zero, List.getElem?_cons_succ, List.set_cons_zero, List.set_cons_succ, List.length_cons, List.length_nil, D.bl.injEq, exists_eq_left', decide_eq_true_eq, decide_eq_false_iff_not, Bool.not_eq_true', Bool.not_eq_false', Nat.zero_add, Nat.reduceAdd, true_and, and_true, forall_const, reduceCtorEq, not_true_eq_false, not_false_eq_true, false_implies, true_implies, implies_true, jq, Nat.reduceLeDiff, Int.reduceLE, Int.reduceLT, Int.reduceNeg, Int.reducePow, Int.reduceAdd, Int.reduceSub, Int.reduceMul, wf__law_carries]
  refine ⟨ms, pl, rfl, ok, fun s => ⟨rfl, ms, pl, rfl, rfl, ok, fun d p => ⟨rfl, rfl, rfl, ?_⟩⟩⟩
  simp only [AC.cells, w_law_x8, ↓za, ↓zb, ↓zc, ↓zd, ↓ze, ↓zf, ↓zg, ↓zh, ↓zi, ↓zj, ↓zk, ↓zl, ↓zm, ↓zn, ↓zo, ↓zp, ↓zq, ↓zr, ↓zt, ↓zu, ↓zv, ↓zw, ↓zx, zy, zz, ↓z3, ↓z7, ↓z8, ↓z9, ↓zA, ↓zB, ↓zC, ↓zD, ↓zE, ↓zF, ↓zG, ↓zH, ↓zI, ↓zJ, ↓zK, ↓zL, ↓zM, ↓zN, ↓zO, ↓zP, ↓zQ, ↓zR, ↓zS, ↓zT, ↓zU, ↓zV, ↓zW, ↓zX, ↓zY, ↓zZ, ↓xf, ↓xg, ↓xh, ↓xi, ↓xj, ↓xk, ↓xl, ↓xm, ↓xq, xt, ↓xu, ↓xw, ↓xy, ↓xz, ↓x5, ↓x6, ↓x7, ↓x8, ↓x9, ↓xB, ↓xD, ↓xE, ↓xF, ↓xG, ↓xH, ↓xI, ↓xJ, ↓xK, ↓xL, ↓xM, ↓xN, ↓xO, ↓xP, ↓xQ, ↓xR, ↓xS, ↓xT, ↓xU, ↓xV, ↓xW, ↓xX, ↓xY, ↓xZ, ↓qb, ↓qc, ↓qd, ↓qf, ↓qg, ↓qh, ↓qi, ↓qj, ↓qk, ↓ql, ↓qm, ↓qo, ↓qp, ↓qr, ↓qt, ↓qu, ↓qv, ↓qw, ↓qz, ↓qA, ↓qB, ↓qC, ↓qE, ↓qF, ↓qG, ↓qH, ↓qI, ↓qJ, ↓qL, ↓qM, ↓qN, ↓qO, ↓qP, ↓qQ, ↓qR, ↓qS, ↓qT, ↓qU, ↓qV, ↓qW, ↓qX, ↓qY, ↓qZ, ↓vf, ↓vg, ↓vh, ↓vi, ↓vj, ↓vk, ↓vl, ↓vm, ↓vo, ↓vp, ↓vq, ↓vt, ↓vu, ↓vw, vz, v6, ↓v7, ↓v8, ↓v9, ↓vA, ↓vB, ↓vC, ↓vD, ↓vE, ↓vF, ↓vG, ↓vH, ↓vI, ↓vJ, ↓vK, ↓vL, ↓vM, ↓vN, ↓vO, dLt, dLe, dGt, dGe, vP, vQ, vR, vS, vT, dI2, vU, vV, dEq, dNe, vW, vX, vY, vZ, ja, jb, jc, jd, je, jf, Option.some.injEq, jg, jh, ji, jk, jl, dIs, jm, jn, shs, kiC, jo, jp, obD, id_eq, List.getElem?_cons_zero, List.getElem?_cons_succ, List.set_cons_zero, List.set_cons_succ, List.length_cons, List.length_nil, D.bl.injEq, exists_eq_left', decide_eq_true_eq, decide_eq_false_iff_not, Bool.not_eq_true', Bool.not_eq_false', Nat.zero_add, Nat.reduceAdd, true_and, and_true, forall_const, reduceCtorEq, not_true_eq_false, not_false_eq_true, false_implies, true_implies, implies_true, jq, Nat.reduceLeDiff, Int.reduceLE, Int.reduceLT, Int.reduceNeg, Int.reducePow, Int.reduceAdd, Int.reduceSub, Int.reduceMul]
  refine ⟨18, rfl, fun q => ?_⟩
  simp only [w_law_x7, ↓za, ↓zb, ↓zc, ↓zd, ↓ze, ↓zf, ↓zg, ↓zh, ↓zi, ↓zj, ↓zk, ↓zl, ↓zm, ↓zn, ↓zo, ↓zp, ↓zq, ↓zr, ↓zt, ↓zu, ↓zv, ↓zw, ↓zx, zy, zz, ↓z3, ↓z7, ↓z8, ↓z9, ↓zA, ↓zB, ↓zC, ↓zD, ↓zE, ↓zF, ↓zG, ↓zH, ↓zI, ↓zJ, ↓zK, ↓zL, ↓zM, ↓zN, ↓zO, ↓zP, ↓zQ, ↓zR, ↓zS, ↓zT, ↓zU, ↓zV, ↓zW, ↓zX, ↓zY, ↓zZ, ↓xf, ↓xg, ↓xh, ↓xi, ↓xj, ↓xk, ↓xl, ↓xm, ↓xq, xt, ↓xu, ↓xw, ↓xy, ↓xz, ↓x5, ↓x6, ↓x7, ↓x8, ↓x9, ↓xB, ↓xD, ↓xE, ↓xF, ↓xG, ↓xH, ↓xI, ↓xJ, ↓xK, ↓xL, ↓xM, ↓xN, ↓xO, ↓xP, ↓xQ, ↓xR, ↓xS, ↓xT, ↓xU, ↓xV, ↓xW, ↓xX, ↓xY, ↓xZ, ↓qb, ↓qc, ↓qd, ↓qf, ↓qg, ↓qh, ↓qi, ↓qj, ↓qk, ↓ql, ↓qm, ↓qo, ↓qp, ↓qr, ↓qt, ↓qu, ↓qv, ↓qw, ↓qz, ↓qA, ↓qB, ↓qC, ↓qE, ↓qF, ↓qG, ↓qH, ↓qI, ↓qJ, ↓qL, ↓qM, ↓qN, ↓qO, ↓qP, ↓qQ, ↓qR, ↓qS, ↓qT, ↓qU, ↓qV, ↓qW, ↓qX, ↓qY, ↓qZ, ↓vf, ↓vg, ↓vh, ↓vi, ↓vj, ↓vk, ↓vl, ↓vm, ↓vo, ↓vp, ↓vq, ↓vt, ↓vu, ↓vw, vz, v6, ↓v7, ↓v8, ↓v9, ↓vA, ↓vB, ↓vC, ↓vD, ↓vE, ↓vF, ↓vG, ↓vH, ↓vI, ↓vJ, ↓vK, ↓vL, ↓vM, ↓vN, ↓vO, dLt, dLe, dGt, dGe, vP, vQ, vR, vS, vT, dI2, vU, vV, dEq, dNe, vW, vX, vY, vZ, ja, jb, jc, jd, je, jf, Option.some.injEq, jg, jh, ji, jk, jl, dIs, jm, jn, shs, kiC, jo, jp, obD, id_eq, List.getElem?_cons_zero, List.getElem?_cons_succ, List.set_cons_zero, List.set_cons_succ, List.length_cons, List.length_nil, D.bl.injEq, exists_eq_left', decide_eq_true_eq, decide_eq_false_iff_not, Bool.not_eq_true', Bool.not_eq_false', Nat.zero_add, Nat.reduceAdd, true_and, and_true, forall_const, reduceCtorEq, not_true_eq_false, not_false_eq_true, false_implies, true_implies, implies_true, jq, Nat.reduceLeDiff, Int.reduceLE, Int.reduceLT, Int.reduceNeg, Int.reducePow, Int.reduceAdd, Int.reduceSub, Int.reduceMul]
  refine ⟨19, rfl, fun e => ?_⟩
  simp only [↓za, ↓zb, ↓zc, ↓zd, ↓ze, ↓zf, ↓zg, ↓zh, ↓zi, ↓zj, ↓zk, ↓zl, ↓zm, ↓zn, ↓zo, ↓zp, ↓zq, ↓zr, ↓zt, ↓zu, ↓zv, ↓zw, ↓zx, zy, zz, ↓z3, ↓z7, ↓z8, ↓z9, ↓zA, ↓zB, ↓zC, ↓zD, ↓zE, ↓zF, ↓zG, ↓zH, ↓zI, ↓zJ, ↓zK, ↓zL, ↓zM, ↓zN, ↓zO, ↓zP, ↓zQ, ↓zR, ↓zS, ↓zT, ↓zU, ↓zV, ↓zW, ↓zX, ↓zY, ↓zZ, ↓xf, ↓xg, ↓xh, ↓xi, ↓xj, ↓xk, ↓xl, ↓xm, ↓xq, xt, ↓xu, ↓xw, ↓xy, ↓xz, ↓x5, ↓x6, ↓x7, ↓x8, ↓x9, ↓xB, ↓xD, ↓xE, ↓xF, ↓xG, ↓xH, ↓xI, ↓xJ, ↓xK, ↓xL, ↓xM, ↓xN, ↓xO, ↓xP, ↓xQ, ↓xR, ↓xS, ↓xT, ↓xU, ↓xV, ↓xW, ↓xX, ↓xY, ↓xZ, ↓qb, ↓qc, ↓qd, ↓qf, ↓qg, ↓qh, ↓qi, ↓qj, ↓qk, ↓ql, ↓qm, ↓qo, ↓qp, ↓qr, ↓qt, ↓qu, ↓qv, ↓qw, ↓qz, ↓qA, ↓qB, ↓qC, ↓qE, ↓qF, ↓qG, ↓qH, ↓qI, ↓qJ, ↓qL, ↓qM, ↓qN, ↓qO, ↓qP, ↓qQ, ↓qR, ↓qS, ↓qT, ↓qU, ↓qV, ↓qW, ↓qX, ↓qY, ↓qZ, ↓vf, ↓vg, ↓vh, ↓vi, ↓vj, ↓vk, ↓vl, ↓vm, ↓vo, ↓vp, ↓vq, ↓vt, ↓vu, ↓vw, vz, v6, ↓v7, ↓v8, ↓v9, ↓vA, ↓vB, ↓vC, ↓vD, ↓vE, ↓vF, ↓vG, ↓vH, ↓vI, ↓vJ, ↓vK, ↓vL, ↓vM, ↓vN, ↓vO, dLt, dLe, dGt, dGe, vP, vQ, vR, vS, vT, dI2, vU, vV, dEq, dNe, vW, vX, vY, vZ, ja, jb, jc, jd, je, jf, Option.some.injEq, jg, jh, ji, jk, jl, dIs, jm, jn, shs, kiC, jo, jp, obD, id_eq, List.getElem?_cons_zero, List.getElem?_cons_succ, List.set_cons_zero, List.set_cons_succ, List.length_cons, List.length_nil, D.bl.injEq, exists_eq_left', decide_eq_true_eq, decide_eq_false_iff_not, Bool.not_eq_true', Bool.not_eq_false', Nat.zero_add, Nat.reduceAdd, true_and, and_true, forall_const, reduceCtorEq, not_true_eq_false, not_false_eq_true, false_implies, true_implies, implies_true, jq, Nat.reduceLeDiff, Int.reduceLE, Int.reduceLT, Int.reduceNeg, Int.reducePow, Int.reduceAdd, Int.reduceSub, Int.reduceMul]
  intro ac
  simp only [w_law_t16, ↓za, ↓zb, ↓zc, ↓zd, ↓ze, ↓zf, ↓zg, ↓zh, ↓zi, ↓zj, ↓zk, ↓zl, ↓zm, ↓zn, ↓zo, ↓zp, ↓zq, ↓zr, ↓zt, ↓zu, ↓zv, ↓zw, ↓zx, zy, zz, ↓z3, ↓z7, ↓z8, ↓z9, ↓zA, ↓zB, ↓zC, ↓zD, ↓zE, ↓zF, ↓zG, ↓zH, ↓zI, ↓zJ, ↓zK, ↓zL, ↓zM, ↓zN, ↓zO, ↓zP, ↓zQ, ↓zR, ↓zS, ↓zT, ↓zU, ↓zV, ↓zW, ↓zX, ↓zY, ↓zZ, ↓xf, ↓xg, ↓xh, ↓xi, ↓xj, ↓xk, ↓xl, ↓xm, ↓xq, xt, ↓xu, ↓xw, ↓xy, ↓xz, ↓x5, ↓x6, ↓x7, ↓x8, ↓x9, ↓xB, ↓xD, ↓xE, ↓xF, ↓xG, ↓xH, ↓xI, ↓xJ, ↓xK, ↓xL, ↓xM, ↓xN, ↓xO, ↓xP, ↓xQ, ↓xR, ↓xS, ↓xT, ↓xU, ↓xV, ↓xW, ↓xX, ↓xY, ↓xZ, ↓qb, ↓qc, ↓qd, ↓qf, ↓qg, ↓qh, ↓qi, ↓qj, ↓qk, ↓ql, ↓qm, ↓qo, ↓qp, ↓qr, ↓qt, ↓qu, ↓qv, ↓qw, ↓qz, ↓qA, ↓qB, ↓qC, ↓qE, ↓qF, ↓qG, ↓qH, ↓qI, ↓qJ, ↓qL, ↓qM, ↓qN, ↓qO, ↓qP, ↓qQ, ↓qR, ↓qS, ↓qT, ↓qU, ↓qV, ↓qW, ↓qX, ↓qY, ↓qZ, ↓vf, ↓vg, ↓vh, ↓vi, ↓vj, ↓vk, ↓vl, ↓vm, ↓vo, ↓vp, ↓vq, ↓vt, ↓vu, ↓vw, vz, v6, ↓v7, ↓v8, ↓v9, ↓vA, ↓vB, ↓vC, ↓vD, ↓vE, ↓vF, ↓vG, ↓vH, ↓vI, ↓vJ, ↓vK, ↓vL, ↓vM, ↓vN, ↓vO, dLt, dLe, dGt, dGe, vP, vQ, vR, vS, vT, dI2, vU, vV, dEq, dNe, vW, vX, vY, vZ, ja, jb, jc, jd, je, jf, Option.some.injEq, jg, jh, ji, jk, jl, dIs, jm, jn, shs, kiC, jo, jp, obD, id_eq, List.getElem?_cons_zero, List.getElem?_cons_succ, List.set_cons_zero, List.set_cons_succ, List.length_cons, List.length_nil, D.bl.injEq, exists_eq_left', decide_eq_true_eq, decide_eq_false_iff_not, Bool.not_eq_true', Bool.not_eq_false', Nat.zero_add, Nat.reduceAdd, true_and, and_true, forall_const, reduceCtorEq, not_true_eq_false, not_false_eq_true, false_implies, true_implies, implies_true, jq, Nat.reduceLeDiff, Int.reduceLE, Int.reduceLT, Int.reduceNeg, Int.reducePow, Int.reduceAdd, Int.reduceSub, Int.reduceMul]
  refine for_nat (fun i ρ => ∃ (L : List T4) (k5 k6 k7 k8 k9 k10 k11 : Sl), 1 ≤ L.length ∧ L.length ≤ 4 ∧ (∀ t ∈ L, TI ms i t) ∧ ρ = s0 :: .bx :: .sh (.lst (ms.map Mach.dd)) :: .sh (plD pl) :: .sh (.ad ac) :: k5 :: k6 :: k7 :: k8 :: k9 :: k10 :: k11 :: .gh ac (.lst (L.map T4.dd)) :: .no :: .no :: (XL ms pl L ++ pad L.length)) ?_ ?_ _
    ⟨[⟨s, d, p, q, e, AS.new⟩], .no, .no, .no, .no, .no, .no, .no, by simp, by simp, fun t ht => by
      rw [List.mem_singleton.mp ht]
      exact ⟨AInv.new ok, by show 0 ≤ 0; decide, (fun x hx => by cases hx), rfl⟩, rfl⟩
  · rintro i hi ρ ⟨L, k5, k6, k7, k8, k9, k10, k11, l1, l4, hL, rfl⟩ C hC
    simp only [↓za, ↓zb, ↓zc, ↓zd, ↓ze, ↓zf, ↓zg, ↓zh, ↓zi, ↓zj, ↓zk, ↓zl, ↓zm, ↓zn, ↓zo, ↓zp, ↓zq, ↓zr, ↓zt, ↓zu, ↓zv, ↓zw, ↓zx, zy, zz, ↓z3, ↓z7, ↓z8, ↓z9, ↓zA, ↓zB, ↓zC, ↓zD, ↓zE, ↓zF, ↓zG, ↓zH, ↓zI, ↓zJ, ↓zK, ↓zL, ↓zM, ↓zN, ↓zO, ↓zP, ↓zQ, ↓zR, ↓zS, ↓zT, ↓zU, ↓zV, ↓zW, ↓zX, ↓zY, ↓zZ, ↓xf, ↓xg, ↓xh, ↓xi, ↓xj, ↓xk, ↓xl, ↓xm, ↓xq, xt, ↓xu, ↓xw, ↓xy, ↓xz, ↓x5, ↓x6, ↓x7, ↓x8, ↓x9, ↓xB, ↓xD, ↓xE, ↓xF, ↓xG, ↓xH, ↓xI, ↓xJ, ↓xK, ↓xL, ↓xM, ↓xN, ↓xO, ↓xP, ↓xQ, ↓xR, ↓xS, ↓xT, ↓xU, ↓xV, ↓xW, ↓xX, ↓xY, ↓xZ, ↓qb, ↓qc, ↓qd, ↓qf, ↓qg, ↓qh, ↓qi, ↓qj, ↓qk, ↓ql, ↓qm, ↓qo, ↓qp, ↓qr, ↓qt, ↓qu, ↓qv, ↓qw, ↓qz, ↓qA, ↓qB, ↓qC, ↓qE, ↓qF, ↓qG, ↓qH, ↓qI, ↓qJ, ↓qL, ↓qM, ↓qN, ↓qO, ↓qP, ↓qQ, ↓qR, ↓qS, ↓qT, ↓qU, ↓qV, ↓qW, ↓qX, ↓qY, ↓qZ, ↓vf, ↓vg, ↓vh, ↓vi, ↓vj, ↓vk, ↓vl, ↓vm, ↓vo, ↓vp, ↓vq, ↓vt, ↓vu, ↓vw, vz, v6, ↓v7, ↓v8, ↓v9, ↓vA, ↓vB, ↓vC, ↓vD, ↓vE, ↓vF, ↓vG, ↓vH, ↓vI, ↓vJ, ↓vK, ↓vL, ↓vM, ↓vN, ↓vO, dLt, dLe, dGt, dGe, vP, vQ, vR, vS, vT, dI2, vU, vV, dEq, dNe, vW, vX, vY, vZ, ja, jb, jc, jd, je, jf, Option.some.injEq, jg, jh, ji, jk, jl, dIs, jm, jn, shs, kiC, jo, jp, obD, id_eq, List.getElem?_cons_zero, List.getElem?_cons_succ, List.set_cons_zero, List.set_cons_succ, List.length_cons, List.length_nil, D.bl.injEq, exists_eq_left', decide_eq_true_eq, decide_eq_false_iff_not, Bool.not_eq_true', Bool.not_eq_false', Nat.zero_add, Nat.reduceAdd, true_and, and_true, forall_const, reduceCtorEq, not_true_eq_false, not_false_eq_true, false_implies, true_implies, implies_true, jq, Nat.reduceLeDiff, Int.reduceLE, Int.reduceLT, Int.reduceNeg, Int.reducePow, Int.reduceAdd, Int.reduceSub, Int.reduceMul, wf__law_draw, List.length_map]
    intro r r0 r1
    refine ⟨by omega, ?_⟩
    have c0 := Int.emod_nonneg r (b := (L.length : Int)) (by omega)
    have c1 := Int.emod_lt_of_pos r (b := (L.length : Int)) (by omega)
    generalize r % (L.length : Int) = k at c0 c1
    clear r0 r1 r
    have hk : k.toNat < L.length := by omega
    obtain ⟨M1, t, M2, eL, ek⟩ : ∃ M1 t M2, L = M1 ++ t :: M2 ∧ M1.length = k.toNat := ⟨L.take k.toNat, L[k.toNat], L.drop (k.toNat + 1), by rw [List.getElem_cons_drop, List.take_append_drop], by rw [List.length_take]; omega⟩
    subst eL
    have at1 : atI ((M1 ++ t :: M2).map T4.dd) k = some t.dd := by
      refine atI_nat c0 ?_
      rw [List.map_append, ← ek, ← List.length_map (f := T4.dd), List.getElem?_append_right (Nat.le_refl _), Nat.sub_self]
      rfl
    simp only [w_law_t12, ↓za, ↓zb, ↓zc, ↓zd, ↓ze, ↓zf, ↓zg, ↓zh, ↓zi, ↓zj, ↓zk, ↓zl, ↓zm, ↓zn, ↓zo, ↓zp, ↓zq, ↓zr, ↓zt, ↓zu, ↓zv, ↓zw, ↓zx, zy, zz, ↓z3, ↓z7, ↓z8, ↓z9, ↓zA, ↓zB, ↓zC, ↓zD, ↓zE, ↓zF, ↓zG, ↓zH, ↓zI, ↓zJ, ↓zK, ↓zL, ↓zM, ↓zN, ↓zO, ↓zP, ↓zQ, ↓zR, ↓zS, ↓zT, ↓zU, ↓zV, ↓zW, ↓zX, ↓zY, ↓zZ, ↓xf, ↓xg, ↓xh, ↓xi, ↓xj, ↓xk, ↓xl, ↓xm, ↓xq, xt, ↓xu, ↓xw, ↓xy, ↓xz, ↓x5, ↓x6, ↓x7, ↓x8, ↓x9, ↓xB, ↓xD, ↓xE, ↓xF, ↓xG, ↓xH, ↓xI, ↓xJ, ↓xK, ↓xL, ↓xM, ↓xN, ↓xO, ↓xP, ↓xQ, ↓xR, ↓xS, ↓xT, ↓xU, ↓xV, ↓xW, ↓xX, ↓xY, ↓xZ, ↓qb, ↓qc, ↓qd, ↓qf, ↓qg, ↓qh, ↓qi, ↓qj, ↓qk, ↓ql, ↓qm, ↓qo, ↓qp, ↓qr, ↓qt, ↓qu, ↓qv, ↓qw, ↓qz, ↓qA, ↓qB, ↓qC, ↓qE, ↓qF, ↓qG, ↓qH, ↓qI, ↓qJ, ↓qL, ↓qM, ↓qN, ↓qO, ↓qP, ↓qQ, ↓qR, ↓qS, ↓qT, ↓qU, ↓qV, ↓qW, ↓qX, ↓qY, ↓qZ, ↓vf, ↓vg, ↓vh, ↓vi, ↓vj, ↓vk, ↓vl, ↓vm, ↓vo, ↓vp, ↓vq, ↓vt, ↓vu, ↓vw, vz, v6, ↓v7, ↓v8, ↓v9, ↓vA, ↓vB, ↓vC, ↓vD, ↓vE, ↓vF, ↓vG, ↓vH, ↓vI, ↓vJ, ↓vK, ↓vL, ↓vM, ↓vN, ↓vO, dLt, dLe, dGt, dGe, vP, vQ, vR, vS, vT, dI2, vU, vV, dEq, dNe, vW, vX, vY, vZ, ja, jb, jc, jd, je, jf, Option.some.injEq, jg, jh, ji, jk, jl, dIs, jm, jn, shs, kiC, jo, jp, obD, id_eq, List.getElem?_cons_zero, List.getElem?_cons_succ, List.set_cons_zero, List.set_cons_succ, List.length_cons, List.length_nil, D.bl.injEq, exists_eq_left', decide_eq_true_eq, decide_eq_false_iff_not, Bool.not_eq_true', Bool.not_eq_false', Nat.zero_add, Nat.reduceAdd, true_and, and_true, forall_const, reduceCtorEq, not_true_eq_false, not_false_eq_true, false_implies, true_implies, implies_true, jq, Nat.reduceLeDiff, Int.reduceLE, Int.reduceLT, Int.reduceNeg, Int.reducePow, Int.reduceAdd, Int.reduceSub, Int.reduceMul]
    refine ⟨_, at1, ?_⟩
    simp only [T4.dd, ↓za, ↓zb, ↓zc, ↓zd, ↓ze, ↓zf, ↓zg, ↓zh, ↓zi, ↓zj, ↓zk, ↓zl, ↓zm, ↓zn, ↓zo, ↓zp, ↓zq, ↓zr, ↓zt, ↓zu, ↓zv, ↓zw, ↓zx, zy, zz, ↓z3, ↓z7, ↓z8, ↓z9, ↓zA, ↓zB, ↓zC, ↓zD, ↓zE, ↓zF, ↓zG, ↓zH, ↓zI, ↓zJ, ↓zK, ↓zL, ↓zM, ↓zN, ↓zO, ↓zP, ↓zQ, ↓zR, ↓zS, ↓zT, ↓zU, ↓zV, ↓zW, ↓zX, ↓zY, ↓zZ, ↓xf, ↓xg, ↓xh, ↓xi, ↓xj, ↓xk, ↓xl, ↓xm, ↓xq, xt, ↓xu, ↓xw, ↓xy, ↓xz, ↓x5, ↓x6, ↓x7, ↓x8, ↓x9, ↓xB, ↓xD, ↓xE, ↓xF, ↓xG, ↓xH, ↓xI, ↓xJ, ↓xK, ↓xL, ↓xM, ↓xN, ↓xO, ↓xP, ↓xQ, ↓xR, ↓xS, ↓xT, ↓xU, ↓xV, ↓xW, ↓xX, ↓xY, ↓xZ, ↓qb, ↓qc, ↓qd, ↓qf, ↓qg, ↓qh, ↓qi, ↓qj, ↓qk, ↓ql, ↓qm, ↓qo, ↓qp, ↓qr, ↓qt, ↓qu, ↓qv, ↓qw, ↓qz, ↓qA, ↓qB, ↓qC, ↓qE, ↓qF, ↓qG, ↓qH, ↓qI, ↓qJ, ↓qL, ↓qM, ↓qN, ↓qO, ↓qP, ↓qQ, ↓qR, ↓qS, ↓qT, ↓qU, ↓qV, ↓qW, ↓qX, ↓qY, ↓qZ, ↓vf, ↓vg, ↓vh, ↓vi, ↓vj, ↓vk, ↓vl, ↓vm, ↓vo, ↓vp, ↓vq, ↓vt, ↓vu, ↓vw, vz, v6, ↓v7, ↓v8, ↓v9, ↓vA, ↓vB, ↓vC, ↓vD, ↓vE, ↓vF, ↓vG, ↓vH, ↓vI, ↓vJ, ↓vK, ↓vL, ↓vM, ↓vN, ↓vO, dLt, dLe, dGt, dGe, vP, vQ, vR, vS, vT, dI2, vU, vV, dEq, dNe, vW, vX, vY, vZ, ja, jb, jc, jd, je, jf, Option.some.injEq, jg, jh, ji, jk, jl, dIs, jm, jn, shs, kiC, jo, jp, obD, id_eq, List.getElem?_cons_zero, List.getElem?_cons_succ, List.set_cons_zero, List.set_cons_succ, List.length_cons, List.length_nil, D.bl.injEq, exists_eq_left', decide_eq_true_eq, decide_eq_false_iff_not, Bool.not_eq_true', Bool.not_eq_false', Nat.zero_add, Nat.reduceAdd, true_and, and_true, forall_const, reduceCtorEq, not_true_eq_false, not_false_eq_true, false_implies, true_implies, implies_true, jq, Nat.reduceLeDiff, Int.reduceLE, Int.reduceLT, Int.reduceNeg, Int.reducePow, Int.reduceAdd, Int.reduceSub, Int.reduceMul]
    have loop : ∀ (E : EnD) (L2 : List T4) (k5 k6 k7 k8 k9 k10 k11 : Sl), (∀ t ∈ L2, TI ms 31 t) → (∀ k10, E.nx (s0 :: .bx :: .sh (.lst (ms.map Mach.dd)) :: .sh (plD pl) :: .sh (.ad ac) :: k5 :: k6 :: k7 :: k8 :: k9 :: k10 :: k11 :: .gh ac (.lst (L2.map T4.dd)) :: .no :: .no :: (XL ms pl L2 ++ pad L2.length))) → w_law_t6 (s0 :: .bx :: .sh (.lst (ms.map Mach.dd)) :: .sh (plD pl) :: .sh (.ad ac) :: k5 :: k6 :: k7 :: k8 :: k9 :: k10 :: k11 :: .gh ac (.lst (L2.map T4.dd)) :: .no :: .no :: (XL ms pl L2 ++ pad L2.length)) E := fun E L2 k5 k6 k7 k8 k9 k10 k11 hT hE => by
      simp only [w_law_t6, ↓za, ↓zb, ↓zc, ↓zd, ↓ze, ↓zf, ↓zg, ↓zh, ↓zi, ↓zj, ↓zk, ↓zl, ↓zm, ↓zn, ↓zo, ↓zp, ↓zq, ↓zr, ↓zt, ↓zu, ↓zv, ↓zw, ↓zx, zy, zz, ↓z3, ↓z7, ↓z8, ↓z9, ↓zA, ↓zB, ↓zC, ↓zD, ↓zE, ↓zF, ↓zG, ↓zH, ↓zI, ↓zJ, ↓zK, ↓zL, ↓zM, ↓zN, ↓zO, ↓zP, ↓zQ, ↓zR, ↓zS, ↓zT, ↓zU, ↓zV, ↓zW, ↓zX, ↓zY, ↓zZ, ↓xf, ↓xg, ↓xh, ↓xi, ↓xj, ↓xk, ↓xl, ↓xm, ↓xq, xt, ↓xu, ↓xw, ↓xy, ↓xz, ↓x5, ↓x6, ↓x7, ↓x8, ↓x9, ↓xB, ↓xD, ↓xE, ↓xF, ↓xG, ↓xH, ↓xI, ↓xJ, ↓xK, ↓xL, ↓xM, ↓xN, ↓xO, ↓xP, ↓xQ, ↓xR, ↓xS, ↓xT, ↓xU, ↓xV, ↓xW, ↓xX, ↓xY, ↓xZ, ↓qb, ↓qc, ↓qd, ↓qf, ↓qg, ↓qh, ↓qi, ↓qj, ↓qk, ↓ql, ↓qm, ↓qo, ↓qp, ↓qr, ↓qt, ↓qu, ↓qv, ↓qw, ↓qz, ↓qA, ↓qB, ↓qC, ↓qE, ↓qF, ↓qG, ↓qH, ↓qI, ↓qJ, ↓qL, ↓qM, ↓qN, ↓qO, ↓qP, ↓qQ, ↓qR, ↓qS, ↓qT, ↓qU, ↓qV, ↓qW, ↓qX, ↓qY, ↓qZ, ↓vf, ↓vg, ↓vh, ↓vi, ↓vj, ↓vk, ↓vl, ↓vm, ↓vo, ↓vp, ↓vq, ↓vt, ↓vu, ↓vw, vz, v6, ↓v7, ↓v8, ↓v9, ↓vA, ↓vB, ↓vC, ↓vD, ↓vE, ↓vF, ↓vG, ↓vH, ↓vI, ↓vJ, ↓vK, ↓vL, ↓vM, ↓vN, ↓vO, dLt, dLe, dGt, dGe, vP, vQ, vR, vS, vT, dI2, vU, vV, dEq, dNe, vW, vX, vY, vZ, ja, jb, jc, jd, je, jf, Option.some.injEq, jg, jh, ji, jk, jl, dIs, jm, jn, shs, kiC, jo, jp, obD, id_eq, List.getElem?_cons_zero, List.getElem?_cons_succ, List.set_cons_zero, List.set_cons_succ, List.length_cons, List.length_nil, D.bl.injEq, exists_eq_left', decide_eq_true_eq, decide_eq_false_iff_not, Bool.not_eq_true', Bool.not_eq_false', Nat.zero_add, Nat.reduceAdd, true_and, and_true, forall_const, reduceCtorEq, not_true_eq_false, not_false_eq_true, false_implies, true_implies, implies_true, jq, Nat.reduceLeDiff, Int.reduceLE, Int.reduceLT, Int.reduceNeg, Int.reducePow, Int.reduceAdd, Int.reduceSub, Int.reduceMul]
      refine forC_pre (f := T4.dd) (l := L2) (fun dn ρ => ∃ k10, ρ = s0 :: .bx :: .sh (.lst (ms.map Mach.dd)) :: .sh (plD pl) :: .sh (.ad ac) :: k5 :: k6 :: k7 :: k8 :: k9 :: k10 :: k11 :: .gh ac (.lst (L2.map T4.dd)) :: .no :: .no :: (XL ms pl L2 ++ pad L2.length)) (fun _ _ ⟨_, h⟩ => by rw [h]; rfl) ?_ ?_ L2 [] rfl _ ⟨_, rfl⟩
      · rintro dn x rest en ρ ⟨k10, rfl⟩ K hK
        have hx := hT x (by rw [en]; simp)
        have hxl := hx.ln
        have eX : XL ms pl L2 ++ pad L2.length = XL ms pl dn ++ (((x.ac ms pl).cells ++ x.pc.cells).map ghS ++ (XL ms pl rest ++ pad L2.length)) := by rw [en, XL_at, List.map_append (f := ghS), List.append_assoc]
        simp only [↓za, ↓zb, ↓zc, ↓zd, ↓ze, ↓zf, ↓zg, ↓zh, ↓zi, ↓zj, ↓zk, ↓zl, ↓zm, ↓zn, ↓zo, ↓zp, ↓zq, ↓zr, ↓zt, ↓zu, ↓zv, ↓zw, ↓zx, zy, zz, ↓z3, ↓z7, ↓z8, ↓z9, ↓zA, ↓zB, ↓zC, ↓zD, ↓zE, ↓zF, ↓zG, ↓zH, ↓zI, ↓zJ, ↓zK, ↓zL, ↓zM, ↓zN, ↓zO, ↓zP, ↓zQ, ↓zR, ↓zS, ↓zT, ↓zU, ↓zV, ↓zW, ↓zX, ↓zY, ↓zZ, ↓xf, ↓xg, ↓xh, ↓xi, ↓xj, ↓xk, ↓xl, ↓xm, ↓xq, xt, ↓xu, ↓xw, ↓xy, ↓xz, ↓x5, ↓x6, ↓x7, ↓x8, ↓x9, ↓xB, ↓xD, ↓xE, ↓xF, ↓xG, ↓xH, ↓xI, ↓xJ, ↓xK, ↓xL, ↓xM, ↓xN, ↓xO, ↓xP, ↓xQ, ↓xR, ↓xS, ↓xT, ↓xU, ↓xV, ↓xW, ↓xX, ↓xY, ↓xZ, ↓qb, ↓qc, ↓qd, ↓qf, ↓qg, ↓qh, ↓qi, ↓qj, ↓qk, ↓ql, ↓qm, ↓qo, ↓qp, ↓qr, ↓qt, ↓qu, ↓qv, ↓qw, ↓qz, ↓qA, ↓qB, ↓qC, ↓qE, ↓qF, ↓qG, ↓qH, ↓qI, ↓qJ, ↓qL, ↓qM, ↓qN, ↓qO, ↓qP, ↓qQ, ↓qR, ↓qS, ↓qT, ↓qU, ↓qV, ↓qW, ↓qX, ↓qY, ↓qZ, ↓vf, ↓vg, ↓vh, ↓vi, ↓vj, ↓vk, ↓vl, ↓vm, ↓vo, ↓vp, ↓vq, ↓vt, ↓vu, ↓vw, vz, v6, ↓v7, ↓v8, ↓v9, ↓vA, ↓vB, ↓vC, ↓vD, ↓vE, ↓vF, ↓vG, ↓vH, ↓vI, ↓vJ, ↓vK, ↓vL, ↓vM, ↓vN, ↓vO, dLt, dLe, dGt, dGe, vP, vQ, vR, vS, vT, dI2, vU, vV, dEq, dNe, vW, vX, vY, vZ, ja, jb, jc, jd, je, jf, Option.some.injEq, jg, jh, ji, jk, jl, dIs, jm, jn, shs, kiC, jo, jp, obD, id_eq, List.getElem?_cons_zero, List.getElem?_cons_succ, List.set_cons_zero, List.set_cons_succ, List.length_cons, List.length_nil, D.bl.injEq, exists_eq_left', decide_eq_true_eq, decide_eq_false_iff_not, Bool.not_eq_true', Bool.not_eq_false', Nat.zero_add, Nat.reduceAdd, true_and, and_true, forall_const, reduceCtorEq, not_true_eq_false, not_false_eq_true, false_implies, true_implies, implies_true, jq, Nat.reduceLeDiff, Int.reduceLE, Int.reduceLT, Int.reduceNeg, Int.reducePow, Int.reduceAdd, Int.reduceSub, Int.reduceMul, T4.dd]
        refine ⟨_, rfl, List.range' (15 + (XL ms pl dn).length) 5, List.range' (15 + (XL ms pl dn).length) 5, pick_at (H := [_, _, _, _, _, _, _, _, _, _, _, _, _, _, _]) (L1 := XL ms pl dn) (gs := (x.ac ms pl).cells ++ x.pc.cells) (B := XL ms pl rest ++ pad L2.length) eX rfl ?_⟩
        simp only [wf__law_alike]
        refine ⟨x.ac ms pl, x.pc, fs, rfl, rfl, rfl, rfl, rfl, w, hx.iv, rfl, by show x.a.deeds.length ≤ 1000; omega, hx.ok, put_at (H := [_, _, _, _, _, _, _, _, _, _, _, _, _, _, _]) rfl rfl ?_⟩
        refine ⟨true, rfl, (fun z => by cases z), fun _ => ?_⟩
        exact hK _ ⟨.sh x.dd, by rw [eX]; rfl⟩
      · rintro ρ ⟨k10, rfl⟩
        exact hE k10
    have ht := hL t (by simp)
    have after : ∀ (M3 : List T4) (k9 : Sl), (M1 ++ t :: M3).length ≤ 4 → (∀ x ∈ M3, TI ms i x) → w_law_t10 (s0 :: .bx :: .sh (.lst (ms.map Mach.dd)) :: .sh (plD pl) :: .sh (.ad ac) :: .sh (.int k) :: .sh (.ad t.s) :: .sh (.ad t.q) :: .sh (.ad t.e) :: k9 :: k10 :: .sh (.int (i : Int)) :: .gh ac (.lst ((M1 ++ t :: M3).map T4.dd)) :: .no :: .no :: (XL ms pl (M1 ++ t :: M3) ++ pad (M1 ++ t :: M3).length)) { nx := C, rt := fun d x => d = D.bl true, bk := fun ρ' => w_law_t13 ρ' { nx := fun x => False, rt := fun d x => d = D.bl true }, ct := C } := fun M3 k9 hl hM => by
      simp only [w_law_t10, ↓za, ↓zb, ↓zc, ↓zd, ↓ze, ↓zf, ↓zg, ↓zh, ↓zi, ↓zj, ↓zk, ↓zl, ↓zm, ↓zn, ↓zo, ↓zp, ↓zq, ↓zr, ↓zt, ↓zu, ↓zv, ↓zw, ↓zx, zy, zz, ↓z3, ↓z7, ↓z8, ↓z9, ↓zA, ↓zB, ↓zC, ↓zD, ↓zE, ↓zF, ↓zG, ↓zH, ↓zI, ↓zJ, ↓zK, ↓zL, ↓zM, ↓zN, ↓zO, ↓zP, ↓zQ, ↓zR, ↓zS, ↓zT, ↓zU, ↓zV, ↓zW, ↓zX, ↓zY, ↓zZ, ↓xf, ↓xg, ↓xh, ↓xi, ↓xj, ↓xk, ↓xl, ↓xm, ↓xq, xt, ↓xu, ↓xw, ↓xy, ↓xz, ↓x5, ↓x6, ↓x7, ↓x8, ↓x9, ↓xB, ↓xD, ↓xE, ↓xF, ↓xG, ↓xH, ↓xI, ↓xJ, ↓xK, ↓xL, ↓xM, ↓xN, ↓xO, ↓xP, ↓xQ, ↓xR, ↓xS, ↓xT, ↓xU, ↓xV, ↓xW, ↓xX, ↓xY, ↓xZ, ↓qb, ↓qc, ↓qd, ↓qf, ↓qg, ↓qh, ↓qi, ↓qj, ↓qk, ↓ql, ↓qm, ↓qo, ↓qp, ↓qr, ↓qt, ↓qu, ↓qv, ↓qw, ↓qz, ↓qA, ↓qB, ↓qC, ↓qE, ↓qF, ↓qG, ↓qH, ↓qI, ↓qJ, ↓qL, ↓qM, ↓qN, ↓qO, ↓qP, ↓qQ, ↓qR, ↓qS, ↓qT, ↓qU, ↓qV, ↓qW, ↓qX, ↓qY, ↓qZ, ↓vf, ↓vg, ↓vh, ↓vi, ↓vj, ↓vk, ↓vl, ↓vm, ↓vo, ↓vp, ↓vq, ↓vt, ↓vu, ↓vw, vz, v6, ↓v7, ↓v8, ↓v9, ↓vA, ↓vB, ↓vC, ↓vD, ↓vE, ↓vF, ↓vG, ↓vH, ↓vI, ↓vJ, ↓vK, ↓vL, ↓vM, ↓vN, ↓vO, dLt, dLe, dGt, dGe, vP, vQ, vR, vS, vT, dI2, vU, vV, dEq, dNe, vW, vX, vY, vZ, ja, jb, jc, jd, je, jf, Option.some.injEq, jg, jh, ji, jk, jl, dIs, jm, jn, shs, kiC, jo, jp, obD, id_eq, List.getElem?_cons_zero, List.getElem?_cons_succ, List.set_cons_zero, List.set_cons_succ, List.length_cons, List.length_nil, D.bl.injEq, exists_eq_left', decide_eq_true_eq, decide_eq_false_iff_not, Bool.not_eq_true', Bool.not_eq_false', Nat.zero_add, Nat.reduceAdd, true_and, and_true, forall_const, reduceCtorEq, not_true_eq_false, not_false_eq_true, false_implies, true_implies, implies_true, jq, Nat.reduceLeDiff, Int.reduceLE, Int.reduceLT, Int.reduceNeg, Int.reducePow, Int.reduceAdd, Int.reduceSub, Int.reduceMul, wf__law_deed]
      refine ⟨ms, pl, fs, rfl, w, fun e he => ?_⟩
      simp only [w_law_t7, ↓za, ↓zb, ↓zc, ↓zd, ↓ze, ↓zf, ↓zg, ↓zh, ↓zi, ↓zj, ↓zk, ↓zl, ↓zm, ↓zn, ↓zo, ↓zp, ↓zq, ↓zr, ↓zt, ↓zu, ↓zv, ↓zw, ↓zx, zy, zz, ↓z3, ↓z7, ↓z8, ↓z9, ↓zA, ↓zB, ↓zC, ↓zD, ↓zE, ↓zF, ↓zG, ↓zH, ↓zI, ↓zJ, ↓zK, ↓zL, ↓zM, ↓zN, ↓zO, ↓zP, ↓zQ, ↓zR, ↓zS, ↓zT, ↓zU, ↓zV, ↓zW, ↓zX, ↓zY, ↓zZ, ↓xf, ↓xg, ↓xh, ↓xi, ↓xj, ↓xk, ↓xl, ↓xm, ↓xq, xt, ↓xu, ↓xw, ↓xy, ↓xz, ↓x5, ↓x6, ↓x7, ↓x8, ↓x9, ↓xB, ↓xD, ↓xE, ↓xF, ↓xG, ↓xH, ↓xI, ↓xJ, ↓xK, ↓xL, ↓xM, ↓xN, ↓xO, ↓xP, ↓xQ, ↓xR, ↓xS, ↓xT, ↓xU, ↓xV, ↓xW, ↓xX, ↓xY, ↓xZ, ↓qb, ↓qc, ↓qd, ↓qf, ↓qg, ↓qh, ↓qi, ↓qj, ↓qk, ↓ql, ↓qm, ↓qo, ↓qp, ↓qr, ↓qt, ↓qu, ↓qv, ↓qw, ↓qz, ↓qA, ↓qB, ↓qC, ↓qE, ↓qF, ↓qG, ↓qH, ↓qI, ↓qJ, ↓qL, ↓qM, ↓qN, ↓qO, ↓qP, ↓qQ, ↓qR, ↓qS, ↓qT, ↓qU, ↓qV, ↓qW, ↓qX, ↓qY, ↓qZ, ↓vf, ↓vg, ↓vh, ↓vi, ↓vj, ↓vk, ↓vl, ↓vm, ↓vo, ↓vp, ↓vq, ↓vt, ↓vu, ↓vw, vz, v6, ↓v7, ↓v8, ↓v9, ↓vA, ↓vB, ↓vC, ↓vD, ↓vE, ↓vF, ↓vG, ↓vH, ↓vI, ↓vJ, ↓vK, ↓vL, ↓vM, ↓vN, ↓vO, dLt, dLe, dGt, dGe, vP, vQ, vR, vS, vT, dI2, vU, vV, dEq, dNe, vW, vX, vY, vZ, ja, jb, jc, jd, je, jf, Option.some.injEq, jg, jh, ji, jk, jl, dIs, jm, jn, shs, kiC, jo, jp, obD, id_eq, List.getElem?_cons_zero, List.getElem?_cons_succ, List.set_cons_zero, List.set_cons_succ, List.length_cons, List.length_nil, D.bl.injEq, exists_eq_left', decide_eq_true_eq, decide_eq_false_iff_not, Bool.not_eq_true', Bool.not_eq_false', Nat.zero_add, Nat.reduceAdd, true_and, and_true, forall_const, reduceCtorEq, not_true_eq_false, not_false_eq_true, false_implies, true_implies, implies_true, jq, Nat.reduceLeDiff, Int.reduceLE, Int.reduceLT, Int.reduceNeg, Int.reducePow, Int.reduceAdd, Int.reduceSub, Int.reduceMul]
      refine ⟨List.range' (15 + (XL ms pl M1).length) 3, List.range' (15 + (XL ms pl M1).length) 3, pick_at (H := [_, _, _, _, _, _, _, _, _, _, _, _, _, _, _]) (gs := (t.ac ms pl).cells) XL_at rfl ?_⟩
      simp only [wf__law_told]
      have hl3 := ht.ln
      refine ⟨t.ac ms pl, fs, e, rfl, rfl, w, ht.iv, by show t.a.deeds.length ≤ 1000; omega, rfl, he, put_at (H := [_, _, _, _, _, _, _, _, _, _, _, _, _, _, _]) rfl rfl ?_⟩
      simp only [List.cons_append, List.nil_append, w_law_x4, ↓za, ↓zb, ↓zc, ↓zd, ↓ze, ↓zf, ↓zg, ↓zh, ↓zi, ↓zj, ↓zk, ↓zl, ↓zm, ↓zn, ↓zo, ↓zp, ↓zq, ↓zr, ↓zt, ↓zu, ↓zv, ↓zw, ↓zx, zy, zz, ↓z3, ↓z7, ↓z8, ↓z9, ↓zA, ↓zB, ↓zC, ↓zD, ↓zE, ↓zF, ↓zG, ↓zH, ↓zI, ↓zJ, ↓zK, ↓zL, ↓zM, ↓zN, ↓zO, ↓zP, ↓zQ, ↓zR, ↓zS, ↓zT, ↓zU, ↓zV, ↓zW, ↓zX, ↓zY, ↓zZ, ↓xf, ↓xg, ↓xh, ↓xi, ↓xj, ↓xk, ↓xl, ↓xm, ↓xq, xt, ↓xu, ↓xw, ↓xy, ↓xz, ↓x5, ↓x6, ↓x7, ↓x8, ↓x9, ↓xB, ↓xD, ↓xE, ↓xF, ↓xG, ↓xH, ↓xI, ↓xJ, ↓xK, ↓xL, ↓xM, ↓xN, ↓xO, ↓xP, ↓xQ, ↓xR, ↓xS, ↓xT, ↓xU, ↓xV, ↓xW, ↓xX, ↓xY, ↓xZ, ↓qb, ↓qc, ↓qd, ↓qf, ↓qg, ↓qh, ↓qi, ↓qj, ↓qk, ↓ql, ↓qm, ↓qo, ↓qp, ↓qr, ↓qt, ↓qu, ↓qv, ↓qw, ↓qz, ↓qA, ↓qB, ↓qC, ↓qE, ↓qF, ↓qG, ↓qH, ↓qI, ↓qJ, ↓qL, ↓qM, ↓qN, ↓qO, ↓qP, ↓qQ, ↓qR, ↓qS, ↓qT, ↓qU, ↓qV, ↓qW, ↓qX, ↓qY, ↓qZ, ↓vf, ↓vg, ↓vh, ↓vi, ↓vj, ↓vk, ↓vl, ↓vm, ↓vo, ↓vp, ↓vq, ↓vt, ↓vu, ↓vw, vz, v6, ↓v7, ↓v8, ↓v9, ↓vA, ↓vB, ↓vC, ↓vD, ↓vE, ↓vF, ↓vG, ↓vH, ↓vI, ↓vJ, ↓vK, ↓vL, ↓vM, ↓vN, ↓vO, dLt, dLe, dGt, dGe, vP, vQ, vR, vS, vT, dI2, vU, vV, dEq, dNe, vW, vX, vY, vZ, ja, jb, jc, jd, je, jf, Option.some.injEq, jg, jh, ji, jk, jl, dIs, jm, jn, shs, kiC, jo, jp, obD, id_eq, List.getElem?_cons_zero, List.getElem?_cons_succ, List.set_cons_zero, List.set_cons_succ, List.length_cons, List.length_nil, D.bl.injEq, exists_eq_left', decide_eq_true_eq, decide_eq_false_iff_not, Bool.not_eq_true', Bool.not_eq_false', Nat.zero_add, Nat.reduceAdd, true_and, and_true, forall_const, reduceCtorEq, not_true_eq_false, not_false_eq_true, false_implies, true_implies, implies_true, jq, Nat.reduceLeDiff, Int.reduceLE, Int.reduceLT, Int.reduceNeg, Int.reducePow, Int.reduceAdd, Int.reduceSub, Int.reduceMul]
      refine ⟨List.range' (15 + (XL ms pl M1 ++ (T4.ac ms pl { t with a := (doA ms pl fs t.a e).st t.a }).cells.map ghS).length) 2, List.range' (15 + (XL ms pl M1 ++ (T4.ac ms pl { t with a := (doA ms pl fs t.a e).st t.a }).cells.map ghS).length) 2, pick_at (H := [_, _, _, _, _, _, _, _, _, _, _, _, _, _, _]) (gs := t.pc.cells) (L1 := XL ms pl M1 ++ (T4.ac ms pl { t with a := (doA ms pl fs t.a e).st t.a }).cells.map ghS) (B := XL ms pl M3 ++ pad (M1 ++ t :: M3).length) (by rw [List.append_assoc]; rfl) rfl ?_⟩
      simp only [wf__law_done]
      refine ⟨t.pc, ms, pl, fs, e, rfl, rfl, rfl, rfl, rfl, w, ht.iv, by show t.a.deeds.length ≤ 1000; omega, rfl, put_at (H := [_, _, _, _, _, _, _, _, _, _, _, _, _, _, _]) rfl rfl ?_⟩
      simp only [List.cons_append, List.nil_append, ↓za, ↓zb, ↓zc, ↓zd, ↓ze, ↓zf, ↓zg, ↓zh, ↓zi, ↓zj, ↓zk, ↓zl, ↓zm, ↓zn, ↓zo, ↓zp, ↓zq, ↓zr, ↓zt, ↓zu, ↓zv, ↓zw, ↓zx, zy, zz, ↓z3, ↓z7, ↓z8, ↓z9, ↓zA, ↓zB, ↓zC, ↓zD, ↓zE, ↓zF, ↓zG, ↓zH, ↓zI, ↓zJ, ↓zK, ↓zL, ↓zM, ↓zN, ↓zO, ↓zP, ↓zQ, ↓zR, ↓zS, ↓zT, ↓zU, ↓zV, ↓zW, ↓zX, ↓zY, ↓zZ, ↓xf, ↓xg, ↓xh, ↓xi, ↓xj, ↓xk, ↓xl, ↓xm, ↓xq, xt, ↓xu, ↓xw, ↓xy, ↓xz, ↓x5, ↓x6, ↓x7, ↓x8, ↓x9, ↓xB, ↓xD, ↓xE, ↓xF, ↓xG, ↓xH, ↓xI, ↓xJ, ↓xK, ↓xL, ↓xM, ↓xN, ↓xO, ↓xP, ↓xQ, ↓xR, ↓xS, ↓xT, ↓xU, ↓xV, ↓xW, ↓xX, ↓xY, ↓xZ, ↓qb, ↓qc, ↓qd, ↓qf, ↓qg, ↓qh, ↓qi, ↓qj, ↓qk, ↓ql, ↓qm, ↓qo, ↓qp, ↓qr, ↓qt, ↓qu, ↓qv, ↓qw, ↓qz, ↓qA, ↓qB, ↓qC, ↓qE, ↓qF, ↓qG, ↓qH, ↓qI, ↓qJ, ↓qL, ↓qM, ↓qN, ↓qO, ↓qP, ↓qQ, ↓qR, ↓qS, ↓qT, ↓qU, ↓qV, ↓qW, ↓qX, ↓qY, ↓qZ, ↓vf, ↓vg, ↓vh, ↓vi, ↓vj, ↓vk, ↓vl, ↓vm, ↓vo, ↓vp, ↓vq, ↓vt, ↓vu, ↓vw, vz, v6, ↓v7, ↓v8, ↓v9, ↓vA, ↓vB, ↓vC, ↓vD, ↓vE, ↓vF, ↓vG, ↓vH, ↓vI, ↓vJ, ↓vK, ↓vL, ↓vM, ↓vN, ↓vO, dLt, dLe, dGt, dGe, vP, vQ, vR, vS, vT, dI2, vU, vV, dEq, dNe, vW, vX, vY, vZ, ja, jb, jc, jd, je, jf, Option.some.injEq, jg, jh, ji, jk, jl, dIs, jm, jn, shs, kiC, jo, jp, obD, id_eq, List.getElem?_cons_zero, List.getElem?_cons_succ, List.set_cons_zero, List.set_cons_succ, List.length_cons, List.length_nil, D.bl.injEq, exists_eq_left', decide_eq_true_eq, decide_eq_false_iff_not, Bool.not_eq_true', Bool.not_eq_false', Nat.zero_add, Nat.reduceAdd, true_and, and_true, forall_const, reduceCtorEq, not_true_eq_false, not_false_eq_true, false_implies, true_implies, implies_true, jq, Nat.reduceLeDiff, Int.reduceLE, Int.reduceLT, Int.reduceNeg, Int.reducePow, Int.reduceAdd, Int.reduceSub, Int.reduceMul, wf__law_same]
      refine ⟨rfl, shw_ev w ht.iv he, ?_⟩
      have st := TI.step w ht he
      have eX : ∀ P : List Sl, (XL ms pl M1 ++ (T4.ac ms pl { t with a := (doA ms pl fs t.a e).st t.a }).cells.map ghS) ++ ((T4.pc { t with a := (doA ms pl fs t.a e).st t.a }).cells.map ghS ++ (XL ms pl M3 ++ P)) = XL ms pl (M1 ++ { t with a := (doA ms pl fs t.a e).st t.a } :: M3) ++ P := fun P => by
        rw [XL_at, List.append_assoc]
      have eD : (M1 ++ t :: M3).map T4.dd = (M1 ++ { t with a := (doA ms pl fs t.a e).st t.a } :: M3).map T4.dd := by
        rw [List.map_append, List.map_append]; rfl
      have eN : (M1 ++ t :: M3).length = (M1 ++ { t with a := (doA ms pl fs t.a e).st t.a } :: M3).length := by
        rw [List.length_append, List.length_append]; rfl
      have hall : ∀ x ∈ M1 ++ { t with a := (doA ms pl fs t.a e).st t.a } :: M3, TI ms (i + 1) x := fun x hx => by
        rcases List.mem_append.mp hx with hx | hx
        · exact (hL x (List.mem_append_left _ hx)).mono (Nat.le_succ i)
        · rcases List.mem_cons.mp hx with rfl | hx
          · exact st
          · exact (hM x hx).mono (Nat.le_succ i)
      have fin := loop { nx := C, rt := fun d x => d = D.bl true, bk := fun ρ' => w_law_t13 ρ' { nx := fun x => False, rt := fun d x => d = D.bl true }, ct := C } (M1 ++ { t with a := (doA ms pl fs t.a e).st t.a } :: M3) (.sh (.int k)) (.sh (.ad t.s)) (.sh (.ad t.q)) (.sh (.ad t.e)) (.sh e.dd) k10 (.sh (.int (i : Int))) (fun x hx => (hall x hx).mono (by omega)) fun k10 => hC _ ⟨M1 ++ { t with a := (doA ms pl fs t.a e).st t.a } :: M3, _, _, _, _, _, k10, _, by rw [List.length_append, List.length_cons]; omega, by rw [← eN]; exact hl, hall, rfl⟩
      rw [← eD, ← eN, ← eX] at fin
      exact fin
    have keep := after M2 k9 l4 fun x hx => hL x (List.mem_append_right _ (List.mem_cons_of_mem _ hx))
    simp only [w_law_t11, ↓za, ↓zb, ↓zc, ↓zd, ↓ze, ↓zf, ↓zg, ↓zh, ↓zi, ↓zj, ↓zk, ↓zl, ↓zm, ↓zn, ↓zo, ↓zp, ↓zq, ↓zr, ↓zt, ↓zu, ↓zv, ↓zw, ↓zx, zy, zz, ↓z3, ↓z7, ↓z8, ↓z9, ↓zA, ↓zB, ↓zC, ↓zD, ↓zE, ↓zF, ↓zG, ↓zH, ↓zI, ↓zJ, ↓zK, ↓zL, ↓zM, ↓zN, ↓zO, ↓zP, ↓zQ, ↓zR, ↓zS, ↓zT, ↓zU, ↓zV, ↓zW, ↓zX, ↓zY, ↓zZ, ↓xf, ↓xg, ↓xh, ↓xi, ↓xj, ↓xk, ↓xl, ↓xm, ↓xq, xt, ↓xu, ↓xw, ↓xy, ↓xz, ↓x5, ↓x6, ↓x7, ↓x8, ↓x9, ↓xB, ↓xD, ↓xE, ↓xF, ↓xG, ↓xH, ↓xI, ↓xJ, ↓xK, ↓xL, ↓xM, ↓xN, ↓xO, ↓xP, ↓xQ, ↓xR, ↓xS, ↓xT, ↓xU, ↓xV, ↓xW, ↓xX, ↓xY, ↓xZ, ↓qb, ↓qc, ↓qd, ↓qf, ↓qg, ↓qh, ↓qi, ↓qj, ↓qk, ↓ql, ↓qm, ↓qo, ↓qp, ↓qr, ↓qt, ↓qu, ↓qv, ↓qw, ↓qz, ↓qA, ↓qB, ↓qC, ↓qE, ↓qF, ↓qG, ↓qH, ↓qI, ↓qJ, ↓qL, ↓qM, ↓qN, ↓qO, ↓qP, ↓qQ, ↓qR, ↓qS, ↓qT, ↓qU, ↓qV, ↓qW, ↓qX, ↓qY, ↓qZ, ↓vf, ↓vg, ↓vh, ↓vi, ↓vj, ↓vk, ↓vl, ↓vm, ↓vo, ↓vp, ↓vq, ↓vt, ↓vu, ↓vw, vz, v6, ↓v7, ↓v8, ↓v9, ↓vA, ↓vB, ↓vC, ↓vD, ↓vE, ↓vF, ↓vG, ↓vH, ↓vI, ↓vJ, ↓vK, ↓vL, ↓vM, ↓vN, ↓vO, dLt, dLe, dGt, dGe, vP, vQ, vR, vS, vT, dI2, vU, vV, dEq, dNe, vW, vX, vY, vZ, ja, jb, jc, jd, je, jf, Option.some.injEq, jg, jh, ji, jk, jl, dIs, jm, jn, shs, kiC, jo, jp, obD, id_eq, List.getElem?_cons_zero, List.getElem?_cons_succ, List.set_cons_zero, List.set_cons_succ, List.length_cons, List.length_nil, D.bl.injEq, exists_eq_left', decide_eq_true_eq, decide_eq_false_iff_not, Bool.not_eq_true', Bool.not_eq_false', Nat.zero_add, Nat.reduceAdd, true_and, and_true, forall_const, reduceCtorEq, not_true_eq_false, not_false_eq_true, false_implies, true_implies, implies_true, jq, Nat.reduceLeDiff, Int.reduceLE, Int.reduceLT, Int.reduceNeg, Int.reducePow, Int.reduceAdd, Int.reduceSub, Int.reduceMul, wf__law_draw, List.length_map, dEqB]
    intro r r0 r1
    refine ⟨fun _ => ⟨fun h4 => ?_, fun _ => keep⟩, fun _ => keep⟩
    have hn : (M1 ++ t :: M2).length + 1 ≤ 4 := by omega
    have hl3 := ht.ln
    have hpl := ht.iv.ln
    rw [wMethCE_e]
    refine ⟨15 + (XL ms pl M1).length + 0, List.range' (15 + (XL ms pl M1).length) 3, List.range' (15 + (XL ms pl M1).length) 3 ++ List.range' (15 + (XL ms pl M1 ++ (List.replicate 3 Sl.no ++ (t.pc.cells.map ghS ++ XL ms pl M2))).length) 3, ?_⟩
    rw [wMethC_e]
    simp only [↓xY, List.getElem?_cons_succ, List.getElem?_cons_zero]
    refine ⟨_, rfl, ⟨_, _, get_at (H := [_, _, _, _, _, _, _, _, _, _, _, _, _, _, _]) (L1 := XL ms pl M1) (gs := (t.ac ms pl).cells) (i := 0) XL_at rfl, acF_nd.2.2.2.2.2.2.2⟩, ?_⟩
    simp only [↓ql]
    refine pick_at (H := [_, _, _, _, _, _, _, _, _, _, _, _, _, _, _]) (gs := (t.ac ms pl).cells) XL_at rfl ?_
    simp only [wf_Account_branch]
    refine ⟨t.ac ms pl, rfl, rfl, ok, by show t.a.deeds.length ≤ 1000; omega, by show t.a.past.length ≤ 1001; omega, fun s2 d2 p2 => ?_⟩
    refine putK_app rfl ?_
    refine put_at (H := [_, _, _, _, _, _, _, _, _, _, _, _, _, _, _]) (X := XL ms pl M1 ++ (List.replicate 3 Sl.no ++ (t.pc.cells.map ghS ++ (XL ms pl M2 ++ pad (M1 ++ t :: M2).length)))) (gs := AC.cells ⟨s2, d2, p2, ms, pl, t.a⟩) (L1 := XL ms pl M1 ++ (List.replicate 3 Sl.no ++ (t.pc.cells.map ghS ++ XL ms pl M2))) (B := .no :: .no :: pad ((M1 ++ t :: M2).length + 1)) (by rw [pad_one hn]; simp only [List.append_assoc]; rfl) rfl ?_
    refine put_at (H := [_, _, _, _, _, _, _, _, _, _, _, _, _, _, _]) (X := (XL ms pl M1 ++ (List.replicate 3 Sl.no ++ (t.pc.cells.map ghS ++ XL ms pl M2))) ++ ((AC.cells ⟨s2, d2, p2, ms, pl, t.a⟩).map ghS ++ (.no :: .no :: pad ((M1 ++ t :: M2).length + 1)))) (gs := (t.ac ms pl).cells) (L1 := XL ms pl M1) (B := t.pc.cells.map ghS ++ (XL ms pl M2 ++ ((AC.cells ⟨s2, d2, p2, ms, pl, t.a⟩).map ghS ++ (.no :: .no :: pad ((M1 ++ t :: M2).length + 1))))) (by simp only [List.append_assoc]) rfl ?_
    simp only [List.cons_append, List.nil_append, w_law_x6, ↓za, ↓zb, ↓zc, ↓zd, ↓ze, ↓zf, ↓zg, ↓zh, ↓zi, ↓zj, ↓zk, ↓zl, ↓zm, ↓zn, ↓zo, ↓zp, ↓zq, ↓zr, ↓zt, ↓zu, ↓zv, ↓zw, ↓zx, zy, zz, ↓z3, ↓z7, ↓z8, ↓z9, ↓zA, ↓zB, ↓zC, ↓zD, ↓zE, ↓zF, ↓zG, ↓zH, ↓zI, ↓zJ, ↓zK, ↓zL, ↓zM, ↓zN, ↓zO, ↓zP, ↓zQ, ↓zR, ↓zS, ↓zT, ↓zU, ↓zV, ↓zW, ↓zX, ↓zY, ↓zZ, ↓xf, ↓xg, ↓xh, ↓xi, ↓xj, ↓xk, ↓xl, ↓xm, ↓xq, xt, ↓xu, ↓xw, ↓xy, ↓xz, ↓x5, ↓x6, ↓x7, ↓x8, ↓x9, ↓xB, ↓xD, ↓xE, ↓xF, ↓xG, ↓xH, ↓xI, ↓xJ, ↓xK, ↓xL, ↓xM, ↓xN, ↓xO, ↓xP, ↓xQ, ↓xR, ↓xS, ↓xT, ↓xU, ↓xV, ↓xW, ↓xX, ↓xY, ↓xZ, ↓qb, ↓qc, ↓qd, ↓qf, ↓qg, ↓qh, ↓qi, ↓qj, ↓qk, ↓ql, ↓qm, ↓qo, ↓qp, ↓qr, ↓qt, ↓qu, ↓qv, ↓qw, ↓qz, ↓qA, ↓qB, ↓qC, ↓qE, ↓qF, ↓qG, ↓qH, ↓qI, ↓qJ, ↓qL, ↓qM, ↓qN, ↓qO, ↓qP, ↓qQ, ↓qR, ↓qS, ↓qT, ↓qU, ↓qV, ↓qW, ↓qX, ↓qY, ↓qZ, ↓vf, ↓vg, ↓vh, ↓vi, ↓vj, ↓vk, ↓vl, ↓vm, ↓vo, ↓vp, ↓vq, ↓vt, ↓vu, ↓vw, vz, v6, ↓v7, ↓v8, ↓v9, ↓vA, ↓vB, ↓vC, ↓vD, ↓vE, ↓vF, ↓vG, ↓vH, ↓vI, ↓vJ, ↓vK, ↓vL, ↓vM, ↓vN, ↓vO, dLt, dLe, dGt, dGe, vP, vQ, vR, vS, vT, dI2, vU, vV, dEq, dNe, vW, vX, vY, vZ, ja, jb, jc, jd, je, jf, Option.some.injEq, jg, jh, ji, jk, jl, dIs, jm, jn, shs, kiC, jo, jp, obD, id_eq, List.getElem?_cons_zero, List.getElem?_cons_succ, List.set_cons_zero, List.set_cons_succ, List.length_cons, List.length_nil, D.bl.injEq, exists_eq_left', decide_eq_true_eq, decide_eq_false_iff_not, Bool.not_eq_true', Bool.not_eq_false', Nat.zero_add, Nat.reduceAdd, true_and, and_true, forall_const, reduceCtorEq, not_true_eq_false, not_false_eq_true, false_implies, true_implies, implies_true, jq, Nat.reduceLeDiff, Int.reduceLE, Int.reduceLT, Int.reduceNeg, Int.reducePow, Int.reduceAdd, Int.reduceSub, Int.reduceMul]
    refine ⟨15 + (XL ms pl M1 ++ (t.ac ms pl).cells.map ghS).length + 0, t.q, _, rfl, get_at (H := [_, _, _, _, _, _, _, _, _, _, _, _, _, _, _]) (X := (XL ms pl M1 ++ ((t.ac ms pl).cells.map ghS ++ (t.pc.cells.map ghS ++ (XL ms pl M2 ++ ((AC.cells ⟨s2, d2, p2, ms, pl, t.a⟩).map ghS ++ Sl.no :: Sl.no :: pad ((M1 ++ t :: M2).length + 1))))))) (L1 := XL ms pl M1 ++ (t.ac ms pl).cells.map ghS) (gs := t.pc.cells) (i := 0) (B := XL ms pl M2 ++ ((AC.cells ⟨s2, d2, p2, ms, pl, t.a⟩).map ghS ++ Sl.no :: Sl.no :: pad ((M1 ++ t :: M2).length + 1))) (by rw [List.append_assoc]) rfl, trivial, ?_⟩
    refine ⟨15 + (XL ms pl M1 ++ ((t.ac ms pl).cells.map ghS ++ (t.pc.cells.map ghS ++ (XL ms pl M2 ++ (AC.cells ⟨s2, d2, p2, ms, pl, t.a⟩).map ghS)))).length, (free_at (H := [_, _, _, _, _, _, _, _, _, _, _, _, _, _, _]) (X := (XL ms pl M1 ++ ((t.ac ms pl).cells.map ghS ++ (t.pc.cells.map ghS ++ (XL ms pl M2 ++ ((AC.cells ⟨s2, d2, p2, ms, pl, t.a⟩).map ghS ++ Sl.no :: Sl.no :: pad ((M1 ++ t :: M2).length + 1))))))) (L1 := (XL ms pl M1 ++ ((t.ac ms pl).cells.map ghS ++ (t.pc.cells.map ghS ++ (XL ms pl M2 ++ (AC.cells ⟨s2, d2, p2, ms, pl, t.a⟩).map ghS))))) (B := Sl.no :: pad ((M1 ++ t :: M2).length + 1)) (by simp only [List.append_assoc])).1, fun q2 => ?_⟩
    show w_law_x5 ((s0 :: .bx :: .sh (.lst (ms.map Mach.dd)) :: .sh (plD pl) :: .sh (.ad ac) :: .sh (.int k) :: .sh (.ad t.s) :: .sh (.ad t.q) :: .sh (.ad t.e) :: k9 :: k10 :: .sh (.int (i : Int)) :: .gh ac (.lst ((M1 ++ t :: M2).map T4.dd)) :: .no :: .no :: (XL ms pl M1 ++ ((t.ac ms pl).cells.map ghS ++ (t.pc.cells.map ghS ++ (XL ms pl M2 ++ ((AC.cells ⟨s2, d2, p2, ms, pl, t.a⟩).map ghS ++ Sl.no :: Sl.no :: pad ((M1 ++ t :: M2).length + 1))))))).set (15 + (XL ms pl M1 ++ ((t.ac ms pl).cells.map ghS ++ (t.pc.cells.map ghS ++ (XL ms pl M2 ++ (AC.cells ⟨s2, d2, p2, ms, pl, t.a⟩).map ghS)))).length) (Sl.gh q2 (.lst (t.a.past.map Pt.dd)))) _
    rw [show (s0 :: .bx :: .sh (.lst (ms.map Mach.dd)) :: .sh (plD pl) :: .sh (.ad ac) :: .sh (.int k) :: .sh (.ad t.s) :: .sh (.ad t.q) :: .sh (.ad t.e) :: k9 :: k10 :: .sh (.int (i : Int)) :: .gh ac (.lst ((M1 ++ t :: M2).map T4.dd)) :: .no :: .no :: (XL ms pl M1 ++ ((t.ac ms pl).cells.map ghS ++ (t.pc.cells.map ghS ++ (XL ms pl M2 ++ ((AC.cells ⟨s2, d2, p2, ms, pl, t.a⟩).map ghS ++ Sl.no :: Sl.no :: pad ((M1 ++ t :: M2).length + 1))))))).set (15 + (XL ms pl M1 ++ ((t.ac ms pl).cells.map ghS ++ (t.pc.cells.map ghS ++ (XL ms pl M2 ++ (AC.cells ⟨s2, d2, p2, ms, pl, t.a⟩).map ghS)))).length) (Sl.gh q2 (.lst (t.a.past.map Pt.dd))) = s0 :: .bx :: .sh (.lst (ms.map Mach.dd)) :: .sh (plD pl) :: .sh (.ad ac) :: .sh (.int k) :: .sh (.ad t.s) :: .sh (.ad t.q) :: .sh (.ad t.e) :: k9 :: k10 :: .sh (.int (i : Int)) :: .gh ac (.lst ((M1 ++ t :: M2).map T4.dd)) :: .no :: .no :: (XL ms pl M1 ++ ((t.ac ms pl).cells.map ghS ++ (t.pc.cells.map ghS ++ (XL ms pl M2 ++ ((AC.cells ⟨s2, d2, p2, ms, pl, t.a⟩).map ghS ++ Sl.gh q2 (.lst (t.a.past.map Pt.dd)) :: Sl.no :: pad ((M1 ++ t :: M2).length + 1)))))) from by
      rw [show (XL ms pl M1 ++ ((t.ac ms pl).cells.map ghS ++ (t.pc.cells.map ghS ++ (XL ms pl M2 ++ ((AC.cells ⟨s2, d2, p2, ms, pl, t.a⟩).map ghS ++ Sl.gh q2 (.lst (t.a.past.map Pt.dd)) :: Sl.no :: pad ((M1 ++ t :: M2).length + 1)))))) = (XL ms pl M1 ++ ((t.ac ms pl).cells.map ghS ++ (t.pc.cells.map ghS ++ (XL ms pl M2 ++ (AC.cells ⟨s2, d2, p2, ms, pl, t.a⟩).map ghS)))) ++ (Sl.gh q2 (.lst (t.a.past.map Pt.dd)) :: Sl.no :: pad ((M1 ++ t :: M2).length + 1)) by simp only [List.append_assoc]]
      exact (free_at (H := [_, _, _, _, _, _, _, _, _, _, _, _, _, _, _]) (X := (XL ms pl M1 ++ ((t.ac ms pl).cells.map ghS ++ (t.pc.cells.map ghS ++ (XL ms pl M2 ++ ((AC.cells ⟨s2, d2, p2, ms, pl, t.a⟩).map ghS ++ Sl.no :: Sl.no :: pad ((M1 ++ t :: M2).length + 1))))))) (L1 := (XL ms pl M1 ++ ((t.ac ms pl).cells.map ghS ++ (t.pc.cells.map ghS ++ (XL ms pl M2 ++ (AC.cells ⟨s2, d2, p2, ms, pl, t.a⟩).map ghS))))) (B := Sl.no :: pad ((M1 ++ t :: M2).length + 1)) (by simp only [List.append_assoc])).2 _]
    simp only [w_law_x5, ↓za, ↓zb, ↓zc, ↓zd, ↓ze, ↓zf, ↓zg, ↓zh, ↓zi, ↓zj, ↓zk, ↓zl, ↓zm, ↓zn, ↓zo, ↓zp, ↓zq, ↓zr, ↓zt, ↓zu, ↓zv, ↓zw, ↓zx, zy, zz, ↓z3, ↓z7, ↓z8, ↓z9, ↓zA, ↓zB, ↓zC, ↓zD, ↓zE, ↓zF, ↓zG, ↓zH, ↓zI, ↓zJ, ↓zK, ↓zL, ↓zM, ↓zN, ↓zO, ↓zP, ↓zQ, ↓zR, ↓zS, ↓zT, ↓zU, ↓zV, ↓zW, ↓zX, ↓zY, ↓zZ, ↓xf, ↓xg, ↓xh, ↓xi, ↓xj, ↓xk, ↓xl, ↓xm, ↓xq, xt, ↓xu, ↓xw, ↓xy, ↓xz, ↓x5, ↓x6, ↓x7, ↓x8, ↓x9, ↓xB, ↓xD, ↓xE, ↓xF, ↓xG, ↓xH, ↓xI, ↓xJ, ↓xK, ↓xL, ↓xM, ↓xN, ↓xO, ↓xP, ↓xQ, ↓xR, ↓xS, ↓xT, ↓xU, ↓xV, ↓xW, ↓xX, ↓xY, ↓xZ, ↓qb, ↓qc, ↓qd, ↓qf, ↓qg, ↓qh, ↓qi, ↓qj, ↓qk, ↓ql, ↓qm, ↓qo, ↓qp, ↓qr, ↓qt, ↓qu, ↓qv, ↓qw, ↓qz, ↓qA, ↓qB, ↓qC, ↓qE, ↓qF, ↓qG, ↓qH, ↓qI, ↓qJ, ↓qL, ↓qM, ↓qN, ↓qO, ↓qP, ↓qQ, ↓qR, ↓qS, ↓qT, ↓qU, ↓qV, ↓qW, ↓qX, ↓qY, ↓qZ, ↓vf, ↓vg, ↓vh, ↓vi, ↓vj, ↓vk, ↓vl, ↓vm, ↓vo, ↓vp, ↓vq, ↓vt, ↓vu, ↓vw, vz, v6, ↓v7, ↓v8, ↓v9, ↓vA, ↓vB, ↓vC, ↓vD, ↓vE, ↓vF, ↓vG, ↓vH, ↓vI, ↓vJ, ↓vK, ↓vL, ↓vM, ↓vN, ↓vO, dLt, dLe, dGt, dGe, vP, vQ, vR, vS, vT, dI2, vU, vV, dEq, dNe, vW, vX, vY, vZ, ja, jb, jc, jd, je, jf, Option.some.injEq, jg, jh, ji, jk, jl, dIs, jm, jn, shs, kiC, jo, jp, obD, id_eq, List.getElem?_cons_zero, List.getElem?_cons_succ, List.set_cons_zero, List.set_cons_succ, List.length_cons, List.length_nil, D.bl.injEq, exists_eq_left', decide_eq_true_eq, decide_eq_false_iff_not, Bool.not_eq_true', Bool.not_eq_false', Nat.zero_add, Nat.reduceAdd, true_and, and_true, forall_const, reduceCtorEq, not_true_eq_false, not_false_eq_true, false_implies, true_implies, implies_true, jq, Nat.reduceLeDiff, Int.reduceLE, Int.reduceLT, Int.reduceNeg, Int.reducePow, Int.reduceAdd, Int.reduceSub, Int.reduceMul]
    refine ⟨15 + (XL ms pl M1 ++ (t.ac ms pl).cells.map ghS).length + 1, t.e, _, rfl, get_at (H := [_, _, _, _, _, _, _, _, _, _, _, _, _, _, _]) (X := (XL ms pl M1 ++ ((t.ac ms pl).cells.map ghS ++ (t.pc.cells.map ghS ++ (XL ms pl M2 ++ ((AC.cells ⟨s2, d2, p2, ms, pl, t.a⟩).map ghS ++ Sl.gh q2 (.lst (t.a.past.map Pt.dd)) :: Sl.no :: pad ((M1 ++ t :: M2).length + 1))))))) (L1 := XL ms pl M1 ++ (t.ac ms pl).cells.map ghS) (gs := t.pc.cells) (i := 1) (B := XL ms pl M2 ++ ((AC.cells ⟨s2, d2, p2, ms, pl, t.a⟩).map ghS ++ Sl.gh q2 (.lst (t.a.past.map Pt.dd)) :: Sl.no :: pad ((M1 ++ t :: M2).length + 1))) (by rw [List.append_assoc]) rfl, trivial, ?_⟩
    refine ⟨15 + (XL ms pl M1 ++ ((t.ac ms pl).cells.map ghS ++ (t.pc.cells.map ghS ++ (XL ms pl M2 ++ ((AC.cells ⟨s2, d2, p2, ms, pl, t.a⟩).map ghS ++ [Sl.gh q2 (.lst (t.a.past.map Pt.dd))]))))).length, (free_at (H := [_, _, _, _, _, _, _, _, _, _, _, _, _, _, _]) (X := (XL ms pl M1 ++ ((t.ac ms pl).cells.map ghS ++ (t.pc.cells.map ghS ++ (XL ms pl M2 ++ ((AC.cells ⟨s2, d2, p2, ms, pl, t.a⟩).map ghS ++ Sl.gh q2 (.lst (t.a.past.map Pt.dd)) :: Sl.no :: pad ((M1 ++ t :: M2).length + 1))))))) (L1 := (XL ms pl M1 ++ ((t.ac ms pl).cells.map ghS ++ (t.pc.cells.map ghS ++ (XL ms pl M2 ++ ((AC.cells ⟨s2, d2, p2, ms, pl, t.a⟩).map ghS ++ [Sl.gh q2 (.lst (t.a.past.map Pt.dd))])))))) (B := pad ((M1 ++ t :: M2).length + 1)) (by simp only [List.append_assoc, List.cons_append, List.nil_append])).1, fun e2 => ?_⟩
    have hset : (s0 :: .bx :: .sh (.lst (ms.map Mach.dd)) :: .sh (plD pl) :: .sh (.ad ac) :: .sh (.int k) :: .sh (.ad t.s) :: .sh (.ad t.q) :: .sh (.ad t.e) :: k9 :: k10 :: .sh (.int (i : Int)) :: .gh ac (.lst ((M1 ++ t :: M2).map T4.dd)) :: .no :: .no :: (XL ms pl M1 ++ ((t.ac ms pl).cells.map ghS ++ (t.pc.cells.map ghS ++ (XL ms pl M2 ++ ((AC.cells ⟨s2, d2, p2, ms, pl, t.a⟩).map ghS ++ Sl.gh q2 (.lst (t.a.past.map Pt.dd)) :: Sl.no :: pad ((M1 ++ t :: M2).length + 1))))))).set (15 + (XL ms pl M1 ++ ((t.ac ms pl).cells.map ghS ++ (t.pc.cells.map ghS ++ (XL ms pl M2 ++ ((AC.cells ⟨s2, d2, p2, ms, pl, t.a⟩).map ghS ++ [Sl.gh q2 (.lst (t.a.past.map Pt.dd))]))))).length) (Sl.gh e2 (.lst (t.pc.a.deeds.map Deed.dd))) = s0 :: .bx :: .sh (.lst (ms.map Mach.dd)) :: .sh (plD pl) :: .sh (.ad ac) :: .sh (.int k) :: .sh (.ad t.s) :: .sh (.ad t.q) :: .sh (.ad t.e) :: k9 :: k10 :: .sh (.int (i : Int)) :: .gh ac (.lst ((M1 ++ t :: M2).map T4.dd)) :: .no :: .no :: (XL ms pl M1 ++ ((t.ac ms pl).cells.map ghS ++ (t.pc.cells.map ghS ++ (XL ms pl M2 ++ ((AC.cells ⟨s2, d2, p2, ms, pl, t.a⟩).map ghS ++ Sl.gh q2 (.lst (t.a.past.map Pt.dd)) :: Sl.gh e2 (.lst (t.a.deeds.map Deed.dd)) :: pad ((M1 ++ t :: M2).length + 1)))))) := by
      rw [show (XL ms pl M1 ++ ((t.ac ms pl).cells.map ghS ++ (t.pc.cells.map ghS ++ (XL ms pl M2 ++ ((AC.cells ⟨s2, d2, p2, ms, pl, t.a⟩).map ghS ++ Sl.gh q2 (.lst (t.a.past.map Pt.dd)) :: Sl.gh e2 (.lst (t.a.deeds.map Deed.dd)) :: pad ((M1 ++ t :: M2).length + 1)))))) = (XL ms pl M1 ++ ((t.ac ms pl).cells.map ghS ++ (t.pc.cells.map ghS ++ (XL ms pl M2 ++ ((AC.cells ⟨s2, d2, p2, ms, pl, t.a⟩).map ghS ++ [Sl.gh q2 (.lst (t.a.past.map Pt.dd))]))))) ++ (Sl.gh e2 (.lst (t.a.deeds.map Deed.dd)) :: pad ((M1 ++ t :: M2).length + 1)) by simp only [List.append_assoc, List.cons_append, List.nil_append]]
      exact (free_at (H := [_, _, _, _, _, _, _, _, _, _, _, _, _, _, _]) (X := (XL ms pl M1 ++ ((t.ac ms pl).cells.map ghS ++ (t.pc.cells.map ghS ++ (XL ms pl M2 ++ ((AC.cells ⟨s2, d2, p2, ms, pl, t.a⟩).map ghS ++ Sl.gh q2 (.lst (t.a.past.map Pt.dd)) :: Sl.no :: pad ((M1 ++ t :: M2).length + 1))))))) (L1 := (XL ms pl M1 ++ ((t.ac ms pl).cells.map ghS ++ (t.pc.cells.map ghS ++ (XL ms pl M2 ++ ((AC.cells ⟨s2, d2, p2, ms, pl, t.a⟩).map ghS ++ [Sl.gh q2 (.lst (t.a.past.map Pt.dd))])))))) (B := pad ((M1 ++ t :: M2).length + 1)) (by simp only [List.append_assoc, List.cons_append, List.nil_append])).2 _
    rw [hset]
    simp only [↓za, ↓zb, ↓zc, ↓zd, ↓ze, ↓zf, ↓zg, ↓zh, ↓zi, ↓zj, ↓zk, ↓zl, ↓zm, ↓zn, ↓zo, ↓zp, ↓zq, ↓zr, ↓zt, ↓zu, ↓zv, ↓zw, ↓zx, zy, zz, ↓z3, ↓z7, ↓z8, ↓z9, ↓zA, ↓zB, ↓zC, ↓zD, ↓zE, ↓zF, ↓zG, ↓zH, ↓zI, ↓zJ, ↓zK, ↓zL, ↓zM, ↓zN, ↓zO, ↓zP, ↓zQ, ↓zR, ↓zS, ↓zT, ↓zU, ↓zV, ↓zW, ↓zX, ↓zY, ↓zZ, ↓xf, ↓xg, ↓xh, ↓xi, ↓xj, ↓xk, ↓xl, ↓xm, ↓xq, xt, ↓xu, ↓xw, ↓xy, ↓xz, ↓x5, ↓x6, ↓x7, ↓x8, ↓x9, ↓xB, ↓xD, ↓xE, ↓xF, ↓xG, ↓xH, ↓xI, ↓xJ, ↓xK, ↓xL, ↓xM, ↓xN, ↓xO, ↓xP, ↓xQ, ↓xR, ↓xS, ↓xT, ↓xU, ↓xV, ↓xW, ↓xX, ↓xY, ↓xZ, ↓qb, ↓qc, ↓qd, ↓qf, ↓qg, ↓qh, ↓qi, ↓qj, ↓qk, ↓ql, ↓qm, ↓qo, ↓qp, ↓qr, ↓qt, ↓qu, ↓qv, ↓qw, ↓qz, ↓qA, ↓qB, ↓qC, ↓qE, ↓qF, ↓qG, ↓qH, ↓qI, ↓qJ, ↓qL, ↓qM, ↓qN, ↓qO, ↓qP, ↓qQ, ↓qR, ↓qS, ↓qT, ↓qU, ↓qV, ↓qW, ↓qX, ↓qY, ↓qZ, ↓vf, ↓vg, ↓vh, ↓vi, ↓vj, ↓vk, ↓vl, ↓vm, ↓vo, ↓vp, ↓vq, ↓vt, ↓vu, ↓vw, vz, v6, ↓v7, ↓v8, ↓v9, ↓vA, ↓vB, ↓vC, ↓vD, ↓vE, ↓vF, ↓vG, ↓vH, ↓vI, ↓vJ, ↓vK, ↓vL, ↓vM, ↓vN, ↓vO, dLt, dLe, dGt, dGe, vP, vQ, vR, vS, vT, dI2, vU, vV, dEq, dNe, vW, vX, vY, vZ, ja, jb, jc, jd, je, jf, Option.some.injEq, jg, jh, ji, jk, jl, dIs, jm, jn, shs, kiC, jo, jp, obD, id_eq, List.getElem?_cons_zero, List.getElem?_cons_succ, List.set_cons_zero, List.set_cons_succ, List.length_cons, List.length_nil, D.bl.injEq, exists_eq_left', decide_eq_true_eq, decide_eq_false_iff_not, Bool.not_eq_true', Bool.not_eq_false', Nat.zero_add, Nat.reduceAdd, true_and, and_true, forall_const, reduceCtorEq, not_true_eq_false, not_false_eq_true, false_implies, true_implies, implies_true, jq, Nat.reduceLeDiff, Int.reduceLE, Int.reduceLT, Int.reduceNeg, Int.reducePow, Int.reduceAdd, Int.reduceSub, Int.reduceMul, List.length_map]
    refine ⟨by omega, ?_⟩
    have fin := after (M2 ++ [⟨s2, d2, p2, q2, e2, t.a⟩]) k9 (by rw [List.length_append, List.length_cons] at hn ⊢; rw [List.length_append, List.length_singleton]; omega) fun x hx => by
      rcases List.mem_append.mp hx with hx | hx
      · exact hL x (List.mem_append_right _ (List.mem_cons_of_mem _ hx))
      · rw [List.mem_singleton.mp hx]; exact ⟨ht.iv, ht.ln, ht.ok, ht.hd⟩
    have e1 : M1 ++ t :: (M2 ++ [(⟨s2, d2, p2, q2, e2, t.a⟩ : T4)]) = (M1 ++ t :: M2) ++ [⟨s2, d2, p2, q2, e2, t.a⟩] := by simp
    have e3 : (M1 ++ t :: (M2 ++ [(⟨s2, d2, p2, q2, e2, t.a⟩ : T4)])).map T4.dd = (M1 ++ t :: M2).map T4.dd ++ [.lst [.ad s2, .ad q2, .ad e2]] := by rw [e1, List.map_append]; rfl
    have e4 : (M1 ++ t :: (M2 ++ [(⟨s2, d2, p2, q2, e2, t.a⟩ : T4)])).length = (M1 ++ t :: M2).length + 1 := by rw [e1, List.length_append]; rfl
    have e5 : XL ms pl (M1 ++ t :: (M2 ++ [(⟨s2, d2, p2, q2, e2, t.a⟩ : T4)])) ++ pad ((M1 ++ t :: M2).length + 1) = (XL ms pl M1 ++ ((t.ac ms pl).cells.map ghS ++ (t.pc.cells.map ghS ++ (XL ms pl M2 ++ ((AC.cells ⟨s2, d2, p2, ms, pl, t.a⟩).map ghS ++ Sl.gh q2 (.lst (t.a.past.map Pt.dd)) :: Sl.gh e2 (.lst (t.a.deeds.map Deed.dd)) :: pad ((M1 ++ t :: M2).length + 1)))))) := by
      rw [XL_at, XL_app, List.append_assoc]; rfl
    rw [e3, e4, e5] at fin
    exact fin
  · rintro ρ ⟨L, k5, k6, k7, k8, k9, k10, k11, l1, l4, hL, rfl⟩
    obtain ⟨t, M2, rfl⟩ : ∃ t M2, L = t :: M2 := by
      cases L with
      | nil => simp at l1
      | cons t M => exact ⟨t, M, rfl⟩
    have ht := hL t (by simp)
    have hl3 : t.a.deeds.length ≤ 30 := ht.ln
    generalize eY : XL ms pl M2 ++ pad (t :: M2).length = Y
    rw [show XL ms pl (t :: M2) ++ pad (t :: M2).length = .gh t.s (.ins "Account" acF [.lst (ms.map Mach.dd), caD pl, .ad t.d, .ad t.p]) :: .gh t.d (.lst (t.a.deeds.map Deed.dd)) :: .gh t.p (.lst (t.a.past.map Pt.dd)) :: .gh t.q (.lst (t.a.past.map Pt.dd)) :: .gh t.e (.lst (t.a.deeds.map Deed.dd)) :: Y by rw [← eY]; rfl]
    show w_law_t13 (s0 :: .bx :: .sh (.lst (ms.map Mach.dd)) :: .sh (plD pl) :: .sh (.ad ac) :: k5 :: k6 :: k7 :: k8 :: k9 :: k10 :: k11 :: .gh ac (.lst (.lst [.ad t.s, .ad t.q, .ad t.e] :: M2.map T4.dd)) :: .no :: .no :: .gh t.s (.ins "Account" acF [.lst (ms.map Mach.dd), caD pl, .ad t.d, .ad t.p]) :: .gh t.d (.lst (t.a.deeds.map Deed.dd)) :: .gh t.p (.lst (t.a.past.map Pt.dd)) :: .gh t.q (.lst (t.a.past.map Pt.dd)) :: .gh t.e (.lst (t.a.deeds.map Deed.dd)) :: Y) _
    simp only [w_law_t13, ↓za, ↓zb, ↓zc, ↓zd, ↓ze, ↓zf, ↓zg, ↓zh, ↓zi, ↓zj, ↓zk, ↓zl, ↓zm, ↓zn, ↓zo, ↓zp, ↓zq, ↓zr, ↓zt, ↓zu, ↓zv, ↓zw, ↓zx, zy, zz, ↓z3, ↓z7, ↓z8, ↓z9, ↓zA, ↓zB, ↓zC, ↓zD, ↓zE, ↓zF, ↓zG, ↓zH, ↓zI, ↓zJ, ↓zK, ↓zL, ↓zM, ↓zN, ↓zO, ↓zP, ↓zQ, ↓zR, ↓zS, ↓zT, ↓zU, ↓zV, ↓zW, ↓zX, ↓zY, ↓zZ, ↓xf, ↓xg, ↓xh, ↓xi, ↓xj, ↓xk, ↓xl, ↓xm, ↓xq, xt, ↓xu, ↓xw, ↓xy, ↓xz, ↓x5, ↓x6, ↓x7, ↓x8, ↓x9, ↓xB, ↓xD, ↓xE, ↓xF, ↓xG, ↓xH, ↓xI, ↓xJ, ↓xK, ↓xL, ↓xM, ↓xN, ↓xO, ↓xP, ↓xQ, ↓xR, ↓xS, ↓xT, ↓xU, ↓xV, ↓xW, ↓xX, ↓xY, ↓xZ, ↓qb, ↓qc, ↓qd, ↓qf, ↓qg, ↓qh, ↓qi, ↓qj, ↓qk, ↓ql, ↓qm, ↓qo, ↓qp, ↓qr, ↓qt, ↓qu, ↓qv, ↓qw, ↓qz, ↓qA, ↓qB, ↓qC, ↓qE, ↓qF, ↓qG, ↓qH, ↓qI, ↓qJ, ↓qL, ↓qM, ↓qN, ↓qO, ↓qP, ↓qQ, ↓qR, ↓qS, ↓qT, ↓qU, ↓qV, ↓qW, ↓qX, ↓qY, ↓qZ, ↓vf, ↓vg, ↓vh, ↓vi, ↓vj, ↓vk, ↓vl, ↓vm, ↓vo, ↓vp, ↓vq, ↓vt, ↓vu, ↓vw, vz, v6, ↓v7, ↓v8, ↓v9, ↓vA, ↓vB, ↓vC, ↓vD, ↓vE, ↓vF, ↓vG, ↓vH, ↓vI, ↓vJ, ↓vK, ↓vL, ↓vM, ↓vN, ↓vO, dLt, dLe, dGt, dGe, vP, vQ, vR, vS, vT, dI2, vU, vV, dEq, dNe, vW, vX, vY, vZ, ja, jb, jc, jd, je, jf, Option.some.injEq, jg, jh, ji, jk, jl, dIs, jm, jn, shs, kiC, jo, jp, obD, id_eq, List.getElem?_cons_zero, List.getElem?_cons_succ, List.set_cons_zero, List.set_cons_succ, List.length_cons, List.length_nil, D.bl.injEq, exists_eq_left', decide_eq_true_eq, decide_eq_false_iff_not, Bool.not_eq_true', Bool.not_eq_false', Nat.zero_add, Nat.reduceAdd, true_and, and_true, forall_const, reduceCtorEq, not_true_eq_false, not_false_eq_true, false_implies, true_implies, implies_true, jq, Nat.reduceLeDiff, Int.reduceLE, Int.reduceLT, Int.reduceNeg, Int.reducePow, Int.reduceAdd, Int.reduceSub, Int.reduceMul]
    refine ⟨_, rfl, 19, t.e, _, rfl, rfl, trivial, ?_⟩
    simp only [↓za, ↓zb, ↓zc, ↓zd, ↓ze, ↓zf, ↓zg, ↓zh, ↓zi, ↓zj, ↓zk, ↓zl, ↓zm, ↓zn, ↓zo, ↓zp, ↓zq, ↓zr, ↓zt, ↓zu, ↓zv, ↓zw, ↓zx, zy, zz, ↓z3, ↓z7, ↓z8, ↓z9, ↓zA, ↓zB, ↓zC, ↓zD, ↓zE, ↓zF, ↓zG, ↓zH, ↓zI, ↓zJ, ↓zK, ↓zL, ↓zM, ↓zN, ↓zO, ↓zP, ↓zQ, ↓zR, ↓zS, ↓zT, ↓zU, ↓zV, ↓zW, ↓zX, ↓zY, ↓zZ, ↓xf, ↓xg, ↓xh, ↓xi, ↓xj, ↓xk, ↓xl, ↓xm, ↓xq, xt, ↓xu, ↓xw, ↓xy, ↓xz, ↓x5, ↓x6, ↓x7, ↓x8, ↓x9, ↓xB, ↓xD, ↓xE, ↓xF, ↓xG, ↓xH, ↓xI, ↓xJ, ↓xK, ↓xL, ↓xM, ↓xN, ↓xO, ↓xP, ↓xQ, ↓xR, ↓xS, ↓xT, ↓xU, ↓xV, ↓xW, ↓xX, ↓xY, ↓xZ, ↓qb, ↓qc, ↓qd, ↓qf, ↓qg, ↓qh, ↓qi, ↓qj, ↓qk, ↓ql, ↓qm, ↓qo, ↓qp, ↓qr, ↓qt, ↓qu, ↓qv, ↓qw, ↓qz, ↓qA, ↓qB, ↓qC, ↓qE, ↓qF, ↓qG, ↓qH, ↓qI, ↓qJ, ↓qL, ↓qM, ↓qN, ↓qO, ↓qP, ↓qQ, ↓qR, ↓qS, ↓qT, ↓qU, ↓qV, ↓qW, ↓qX, ↓qY, ↓qZ, ↓vf, ↓vg, ↓vh, ↓vi, ↓vj, ↓vk, ↓vl, ↓vm, ↓vo, ↓vp, ↓vq, ↓vt, ↓vu, ↓vw, vz, v6, ↓v7, ↓v8, ↓v9, ↓vA, ↓vB, ↓vC, ↓vD, ↓vE, ↓vF, ↓vG, ↓vH, ↓vI, ↓vJ, ↓vK, ↓vL, ↓vM, ↓vN, ↓vO, dLt, dLe, dGt, dGe, vP, vQ, vR, vS, vT, dI2, vU, vV, dEq, dNe, vW, vX, vY, vZ, ja, jb, jc, jd, je, jf, Option.some.injEq, jg, jh, ji, jk, jl, dIs, jm, jn, shs, kiC, jo, jp, obD, id_eq, List.getElem?_cons_zero, List.getElem?_cons_succ, List.set_cons_zero, List.set_cons_succ, List.length_cons, List.length_nil, D.bl.injEq, exists_eq_left', decide_eq_true_eq, decide_eq_false_iff_not, Bool.not_eq_true', Bool.not_eq_false', Nat.zero_add, Nat.reduceAdd, true_and, and_true, forall_const, reduceCtorEq, not_true_eq_false, not_false_eq_true, false_implies, true_implies, implies_true, jq, Nat.reduceLeDiff, Int.reduceLE, Int.reduceLT, Int.reduceNeg, Int.reducePow, Int.reduceAdd, Int.reduceSub, Int.reduceMul, List.length_map]
    refine ⟨⟨by omega, by omega⟩, ?_⟩
    refine for_nat (fun j ρ => ∃ (a : AS) (k11 : Sl), a.deeds.length + j = t.a.deeds.length ∧ TI ms 31 { t with a := a } ∧ ρ = s0 :: .bx :: .sh (.lst (ms.map Mach.dd)) :: .sh (plD pl) :: .sh (.ad ac) :: k5 :: k6 :: k7 :: k8 :: k9 :: k10 :: k11 :: .gh ac (.lst (.lst [.ad t.s, .ad t.q, .ad t.e] :: M2.map T4.dd)) :: .no :: .no :: .gh t.s (.ins "Account" acF [.lst (ms.map Mach.dd), caD pl, .ad t.d, .ad t.p]) :: .gh t.d (.lst (a.deeds.map Deed.dd)) :: .gh t.p (.lst (a.past.map Pt.dd)) :: .gh t.q (.lst (a.past.map Pt.dd)) :: .gh t.e (.lst (a.deeds.map Deed.dd)) :: Y) ?_ ?_ _ ⟨t.a, k11, rfl, ht.mono (by decide), rfl⟩
    · rintro j hj ρ ⟨a, k11, el, ti, rfl⟩ K hK
      simp only [↓za, ↓zb, ↓zc, ↓zd, ↓ze, ↓zf, ↓zg, ↓zh, ↓zi, ↓zj, ↓zk, ↓zl, ↓zm, ↓zn, ↓zo, ↓zp, ↓zq, ↓zr, ↓zt, ↓zu, ↓zv, ↓zw, ↓zx, zy, zz, ↓z3, ↓z7, ↓z8, ↓z9, ↓zA, ↓zB, ↓zC, ↓zD, ↓zE, ↓zF, ↓zG, ↓zH, ↓zI, ↓zJ, ↓zK, ↓zL, ↓zM, ↓zN, ↓zO, ↓zP, ↓zQ, ↓zR, ↓zS, ↓zT, ↓zU, ↓zV, ↓zW, ↓zX, ↓zY, ↓zZ, ↓xf, ↓xg, ↓xh, ↓xi, ↓xj, ↓xk, ↓xl, ↓xm, ↓xq, xt, ↓xu, ↓xw, ↓xy, ↓xz, ↓x5, ↓x6, ↓x7, ↓x8, ↓x9, ↓xB, ↓xD, ↓xE, ↓xF, ↓xG, ↓xH, ↓xI, ↓xJ, ↓xK, ↓xL, ↓xM, ↓xN, ↓xO, ↓xP, ↓xQ, ↓xR, ↓xS, ↓xT, ↓xU, ↓xV, ↓xW, ↓xX, ↓xY, ↓xZ, ↓qb, ↓qc, ↓qd, ↓qf, ↓qg, ↓qh, ↓qi, ↓qj, ↓qk, ↓ql, ↓qm, ↓qo, ↓qp, ↓qr, ↓qt, ↓qu, ↓qv, ↓qw, ↓qz, ↓qA, ↓qB, ↓qC, ↓qE, ↓qF, ↓qG, ↓qH, ↓qI, ↓qJ, ↓qL, ↓qM, ↓qN, ↓qO, ↓qP, ↓qQ, ↓qR, ↓qS, ↓qT, ↓qU, ↓qV, ↓qW, ↓qX, ↓qY, ↓qZ, ↓vf, ↓vg, ↓vh, ↓vi, ↓vj, ↓vk, ↓vl, ↓vm, ↓vo, ↓vp, ↓vq, ↓vt, ↓vu, ↓vw, vz, v6, ↓v7, ↓v8, ↓v9, ↓vA, ↓vB, ↓vC, ↓vD, ↓vE, ↓vF, ↓vG, ↓vH, ↓vI, ↓vJ, ↓vK, ↓vL, ↓vM, ↓vN, ↓vO, dLt, dLe, dGt, dGe, vP, vQ, vR, vS, vT, dI2, vU, vV, dEq, dNe, vW, vX, vY, vZ, ja, jb, jc, jd, je, jf, Option.some.injEq, jg, jh, ji, jk, jl, dIs, jm, jn, shs, kiC, jo, jp, obD, id_eq, List.getElem?_cons_zero, List.getElem?_cons_succ, List.set_cons_zero, List.set_cons_succ, List.length_cons, List.length_nil, D.bl.injEq, exists_eq_left', decide_eq_true_eq, decide_eq_false_iff_not, Bool.not_eq_true', Bool.not_eq_false', Nat.zero_add, Nat.reduceAdd, true_and, and_true, forall_const, reduceCtorEq, not_true_eq_false, not_false_eq_true, false_implies, true_implies, implies_true, jq, Nat.reduceLeDiff, Int.reduceLE, Int.reduceLT, Int.reduceNeg, Int.reducePow, Int.reduceAdd, Int.reduceSub, Int.reduceMul]
      rw [wMethCE_e]
      refine ⟨15, [15, 16, 17], [15, 16, 17], ?_⟩
      simp only [↓za, ↓zb, ↓zc, ↓zd, ↓ze, ↓zf, ↓zg, ↓zh, ↓zi, ↓zj, ↓zk, ↓zl, ↓zm, ↓zn, ↓zo, ↓zp, ↓zq, ↓zr, ↓zt, ↓zu, ↓zv, ↓zw, ↓zx, zy, zz, ↓z3, ↓z7, ↓z8, ↓z9, ↓zA, ↓zB, ↓zC, ↓zD, ↓zE, ↓zF, ↓zG, ↓zH, ↓zI, ↓zJ, ↓zK, ↓zL, ↓zM, ↓zN, ↓zO, ↓zP, ↓zQ, ↓zR, ↓zS, ↓zT, ↓zU, ↓zV, ↓zW, ↓zX, ↓zY, ↓zZ, ↓xf, ↓xg, ↓xh, ↓xi, ↓xj, ↓xk, ↓xl, ↓xm, ↓xq, xt, ↓xu, ↓xw, ↓xy, ↓xz, ↓x5, ↓x6, ↓x7, ↓x8, ↓x9, ↓xB, ↓xD, ↓xE, ↓xF, ↓xG, ↓xH, ↓xI, ↓xJ, ↓xK, ↓xL, ↓xM, ↓xN, ↓xO, ↓xP, ↓xQ, ↓xR, ↓xS, ↓xT, ↓xU, ↓xV, ↓xW, ↓xX, ↓xY, ↓xZ, ↓qb, ↓qc, ↓qd, ↓qf, ↓qg, ↓qh, ↓qi, ↓qj, ↓qk, ↓ql, ↓qm, ↓qo, ↓qp, ↓qr, ↓qt, ↓qu, ↓qv, ↓qw, ↓qz, ↓qA, ↓qB, ↓qC, ↓qE, ↓qF, ↓qG, ↓qH, ↓qI, ↓qJ, ↓qL, ↓qM, ↓qN, ↓qO, ↓qP, ↓qQ, ↓qR, ↓qS, ↓qT, ↓qU, ↓qV, ↓qW, ↓qX, ↓qY, ↓qZ, ↓vf, ↓vg, ↓vh, ↓vi, ↓vj, ↓vk, ↓vl, ↓vm, ↓vo, ↓vp, ↓vq, ↓vt, ↓vu, ↓vw, vz, v6, ↓v7, ↓v8, ↓v9, ↓vA, ↓vB, ↓vC, ↓vD, ↓vE, ↓vF, ↓vG, ↓vH, ↓vI, ↓vJ, ↓vK, ↓vL, ↓vM, ↓vN, ↓vO, dLt, dLe, dGt, dGe, vP, vQ, vR, vS, vT, dI2, vU, vV, dEq, dNe, vW, vX, vY, vZ, ja, jb, jc, jd, je, jf, Option.some.injEq, jg, jh, ji, jk, jl, dIs, jm, jn, shs, kiC, jo, jp, obD, id_eq, List.getElem?_cons_zero, List.getElem?_cons_succ, List.set_cons_zero, List.set_cons_succ, List.length_cons, List.length_nil, D.bl.injEq, exists_eq_left', decide_eq_true_eq, decide_eq_false_iff_not, Bool.not_eq_true', Bool.not_eq_false', Nat.zero_add, Nat.reduceAdd, true_and, and_true, forall_const, reduceCtorEq, not_true_eq_false, not_false_eq_true, false_implies, true_implies, implies_true, jq, Nat.reduceLeDiff, Int.reduceLE, Int.reduceLT, Int.reduceNeg, Int.reducePow, Int.reduceAdd, Int.reduceSub, Int.reduceMul, wf_Account_undo]
      have hd1 : 0 < a.deeds.length := by omega
      have e2 : ((doA ms pl fs a .undo).st a).deeds.length + (j + 1) = t.a.deeds.length := by
        cases ed : a.deeds with
        | nil => rw [ed] at hd1; exact absurd hd1 (by decide)
        | cons x xs =>
          rw [ed] at el
          simp only [doA, ed, Ev.st]
          rw [List.length_dropLast, List.length_cons]
          rw [List.length_cons] at el
          omega
      have st := TI.step (e := .undo) w ti trivial
      refine ⟨acF_nd.2.2.1, ⟨t.s, t.d, t.p, ms, pl, a⟩, rfl, rfl, ti.iv, rfl, rfl, rfl, ?_⟩
      simp only [AC.cells, w_law_x3, ↓za, ↓zb, ↓zc, ↓zd, ↓ze, ↓zf, ↓zg, ↓zh, ↓zi, ↓zj, ↓zk, ↓zl, ↓zm, ↓zn, ↓zo, ↓zp, ↓zq, ↓zr, ↓zt, ↓zu, ↓zv, ↓zw, ↓zx, zy, zz, ↓z3, ↓z7, ↓z8, ↓z9, ↓zA, ↓zB, ↓zC, ↓zD, ↓zE, ↓zF, ↓zG, ↓zH, ↓zI, ↓zJ, ↓zK, ↓zL, ↓zM, ↓zN, ↓zO, ↓zP, ↓zQ, ↓zR, ↓zS, ↓zT, ↓zU, ↓zV, ↓zW, ↓zX, ↓zY, ↓zZ, ↓xf, ↓xg, ↓xh, ↓xi, ↓xj, ↓xk, ↓xl, ↓xm, ↓xq, xt, ↓xu, ↓xw, ↓xy, ↓xz, ↓x5, ↓x6, ↓x7, ↓x8, ↓x9, ↓xB, ↓xD, ↓xE, ↓xF, ↓xG, ↓xH, ↓xI, ↓xJ, ↓xK, ↓xL, ↓xM, ↓xN, ↓xO, ↓xP, ↓xQ, ↓xR, ↓xS, ↓xT, ↓xU, ↓xV, ↓xW, ↓xX, ↓xY, ↓xZ, ↓qb, ↓qc, ↓qd, ↓qf, ↓qg, ↓qh, ↓qi, ↓qj, ↓qk, ↓ql, ↓qm, ↓qo, ↓qp, ↓qr, ↓qt, ↓qu, ↓qv, ↓qw, ↓qz, ↓qA, ↓qB, ↓qC, ↓qE, ↓qF, ↓qG, ↓qH, ↓qI, ↓qJ, ↓qL, ↓qM, ↓qN, ↓qO, ↓qP, ↓qQ, ↓qR, ↓qS, ↓qT, ↓qU, ↓qV, ↓qW, ↓qX, ↓qY, ↓qZ, ↓vf, ↓vg, ↓vh, ↓vi, ↓vj, ↓vk, ↓vl, ↓vm, ↓vo, ↓vp, ↓vq, ↓vt, ↓vu, ↓vw, vz, v6, ↓v7, ↓v8, ↓v9, ↓vA, ↓vB, ↓vC, ↓vD, ↓vE, ↓vF, ↓vG, ↓vH, ↓vI, ↓vJ, ↓vK, ↓vL, ↓vM, ↓vN, ↓vO, dLt, dLe, dGt, dGe, vP, vQ, vR, vS, vT, dI2, vU, vV, dEq, dNe, vW, vX, vY, vZ, ja, jb, jc, jd, je, jf, Option.some.injEq, jg, jh, ji, jk, jl, dIs, jm, jn, shs, kiC, jo, jp, obD, id_eq, List.getElem?_cons_zero, List.getElem?_cons_succ, List.set_cons_zero, List.set_cons_succ, List.length_cons, List.length_nil, D.bl.injEq, exists_eq_left', decide_eq_true_eq, decide_eq_false_iff_not, Bool.not_eq_true', Bool.not_eq_false', Nat.zero_add, Nat.reduceAdd, true_and, and_true, forall_const, reduceCtorEq, not_true_eq_false, not_false_eq_true, false_implies, true_implies, implies_true, jq, Nat.reduceLeDiff, Int.reduceLE, Int.reduceLT, Int.reduceNeg, Int.reducePow, Int.reduceAdd, Int.reduceSub, Int.reduceMul]
      refine ⟨_, rfl, [18, 19], [18, 19], ?_⟩
      simp only [↓za, ↓zb, ↓zc, ↓zd, ↓ze, ↓zf, ↓zg, ↓zh, ↓zi, ↓zj, ↓zk, ↓zl, ↓zm, ↓zn, ↓zo, ↓zp, ↓zq, ↓zr, ↓zt, ↓zu, ↓zv, ↓zw, ↓zx, zy, zz, ↓z3, ↓z7, ↓z8, ↓z9, ↓zA, ↓zB, ↓zC, ↓zD, ↓zE, ↓zF, ↓zG, ↓zH, ↓zI, ↓zJ, ↓zK, ↓zL, ↓zM, ↓zN, ↓zO, ↓zP, ↓zQ, ↓zR, ↓zS, ↓zT, ↓zU, ↓zV, ↓zW, ↓zX, ↓zY, ↓zZ, ↓xf, ↓xg, ↓xh, ↓xi, ↓xj, ↓xk, ↓xl, ↓xm, ↓xq, xt, ↓xu, ↓xw, ↓xy, ↓xz, ↓x5, ↓x6, ↓x7, ↓x8, ↓x9, ↓xB, ↓xD, ↓xE, ↓xF, ↓xG, ↓xH, ↓xI, ↓xJ, ↓xK, ↓xL, ↓xM, ↓xN, ↓xO, ↓xP, ↓xQ, ↓xR, ↓xS, ↓xT, ↓xU, ↓xV, ↓xW, ↓xX, ↓xY, ↓xZ, ↓qb, ↓qc, ↓qd, ↓qf, ↓qg, ↓qh, ↓qi, ↓qj, ↓qk, ↓ql, ↓qm, ↓qo, ↓qp, ↓qr, ↓qt, ↓qu, ↓qv, ↓qw, ↓qz, ↓qA, ↓qB, ↓qC, ↓qE, ↓qF, ↓qG, ↓qH, ↓qI, ↓qJ, ↓qL, ↓qM, ↓qN, ↓qO, ↓qP, ↓qQ, ↓qR, ↓qS, ↓qT, ↓qU, ↓qV, ↓qW, ↓qX, ↓qY, ↓qZ, ↓vf, ↓vg, ↓vh, ↓vi, ↓vj, ↓vk, ↓vl, ↓vm, ↓vo, ↓vp, ↓vq, ↓vt, ↓vu, ↓vw, vz, v6, ↓v7, ↓v8, ↓v9, ↓vA, ↓vB, ↓vC, ↓vD, ↓vE, ↓vF, ↓vG, ↓vH, ↓vI, ↓vJ, ↓vK, ↓vL, ↓vM, ↓vN, ↓vO, dLt, dLe, dGt, dGe, vP, vQ, vR, vS, vT, dI2, vU, vV, dEq, dNe, vW, vX, vY, vZ, ja, jb, jc, jd, je, jf, Option.some.injEq, jg, jh, ji, jk, jl, dIs, jm, jn, shs, kiC, jo, jp, obD, id_eq, List.getElem?_cons_zero, List.getElem?_cons_succ, List.set_cons_zero, List.set_cons_succ, List.length_cons, List.length_nil, D.bl.injEq, exists_eq_left', decide_eq_true_eq, decide_eq_false_iff_not, Bool.not_eq_true', Bool.not_eq_false', Nat.zero_add, Nat.reduceAdd, true_and, and_true, forall_const, reduceCtorEq, not_true_eq_false, not_false_eq_true, false_implies, true_implies, implies_true, jq, Nat.reduceLeDiff, Int.reduceLE, Int.reduceLT, Int.reduceNeg, Int.reducePow, Int.reduceAdd, Int.reduceSub, Int.reduceMul, wf__law_done]
      refine ⟨⟨t.q, t.e, a⟩, ms, pl, fs, .undo, rfl, rfl, rfl, rfl, rfl, w, ti.iv, by show a.deeds.length ≤ 1000; omega, rfl, rfl, rfl, ?_⟩
      simp only [PC.cells, ↓za, ↓zb, ↓zc, ↓zd, ↓ze, ↓zf, ↓zg, ↓zh, ↓zi, ↓zj, ↓zk, ↓zl, ↓zm, ↓zn, ↓zo, ↓zp, ↓zq, ↓zr, ↓zt, ↓zu, ↓zv, ↓zw, ↓zx, zy, zz, ↓z3, ↓z7, ↓z8, ↓z9, ↓zA, ↓zB, ↓zC, ↓zD, ↓zE, ↓zF, ↓zG, ↓zH, ↓zI, ↓zJ, ↓zK, ↓zL, ↓zM, ↓zN, ↓zO, ↓zP, ↓zQ, ↓zR, ↓zS, ↓zT, ↓zU, ↓zV, ↓zW, ↓zX, ↓zY, ↓zZ, ↓xf, ↓xg, ↓xh, ↓xi, ↓xj, ↓xk, ↓xl, ↓xm, ↓xq, xt, ↓xu, ↓xw, ↓xy, ↓xz, ↓x5, ↓x6, ↓x7, ↓x8, ↓x9, ↓xB, ↓xD, ↓xE, ↓xF, ↓xG, ↓xH, ↓xI, ↓xJ, ↓xK, ↓xL, ↓xM, ↓xN, ↓xO, ↓xP, ↓xQ, ↓xR, ↓xS, ↓xT, ↓xU, ↓xV, ↓xW, ↓xX, ↓xY, ↓xZ, ↓qb, ↓qc, ↓qd, ↓qf, ↓qg, ↓qh, ↓qi, ↓qj, ↓qk, ↓ql, ↓qm, ↓qo, ↓qp, ↓qr, ↓qt, ↓qu, ↓qv, ↓qw, ↓qz, ↓qA, ↓qB, ↓qC, ↓qE, ↓qF, ↓qG, ↓qH, ↓qI, ↓qJ, ↓qL, ↓qM, ↓qN, ↓qO, ↓qP, ↓qQ, ↓qR, ↓qS, ↓qT, ↓qU, ↓qV, ↓qW, ↓qX, ↓qY, ↓qZ, ↓vf, ↓vg, ↓vh, ↓vi, ↓vj, ↓vk, ↓vl, ↓vm, ↓vo, ↓vp, ↓vq, ↓vt, ↓vu, ↓vw, vz, v6, ↓v7, ↓v8, ↓v9, ↓vA, ↓vB, ↓vC, ↓vD, ↓vE, ↓vF, ↓vG, ↓vH, ↓vI, ↓vJ, ↓vK, ↓vL, ↓vM, ↓vN, ↓vO, dLt, dLe, dGt, dGe, vP, vQ, vR, vS, vT, dI2, vU, vV, dEq, dNe, vW, vX, vY, vZ, ja, jb, jc, jd, je, jf, Option.some.injEq, jg, jh, ji, jk, jl, dIs, jm, jn, shs, kiC, jo, jp, obD, id_eq, List.getElem?_cons_zero, List.getElem?_cons_succ, List.set_cons_zero, List.set_cons_succ, List.length_cons, List.length_nil, D.bl.injEq, exists_eq_left', decide_eq_true_eq, decide_eq_false_iff_not, Bool.not_eq_true', Bool.not_eq_false', Nat.zero_add, Nat.reduceAdd, true_and, and_true, forall_const, reduceCtorEq, not_true_eq_false, not_false_eq_true, false_implies, true_implies, implies_true, jq, Nat.reduceLeDiff, Int.reduceLE, Int.reduceLT, Int.reduceNeg, Int.reducePow, Int.reduceAdd, Int.reduceSub, Int.reduceMul, wf__law_same]
      refine ⟨rfl, shw_ev w ti.iv (e := .undo) trivial, ?_⟩
      exact hK _ ⟨(doA ms pl fs a .undo).st a, _, e2, ⟨st.iv, by show ((doA ms pl fs a .undo).st a).deeds.length ≤ 31; omega, st.ok, st.hd⟩, rfl⟩
    · rintro ρ ⟨a, k11, el, ti, rfl⟩
      have ed : a.deeds = [] := by
        have : a.deeds.length = 0 := by omega
        exact List.length_eq_zero_iff.mp this
      have ea : a = AS.new := by
        have hln : a.past.length = a.deeds.length + 1 := ti.iv.ln
        have hhd : a.past[0]? = some ⟨0, 0, 0⟩ := ti.hd
        obtain ⟨ps, ds⟩ := a
        simp only at ed hln hhd
        subst ed
        match ps, hln, hhd with
        | [x], _, h => simp only [List.getElem?_cons_zero, Option.some.injEq] at h; rw [h]; rfl
      subst ea
      simp only [w_law_t4, ↓za, ↓zb, ↓zc, ↓zd, ↓ze, ↓zf, ↓zg, ↓zh, ↓zi, ↓zj, ↓zk, ↓zl, ↓zm, ↓zn, ↓zo, ↓zp, ↓zq, ↓zr, ↓zt, ↓zu, ↓zv, ↓zw, ↓zx, zy, zz, ↓z3, ↓z7, ↓z8, ↓z9, ↓zA, ↓zB, ↓zC, ↓zD, ↓zE, ↓zF, ↓zG, ↓zH, ↓zI, ↓zJ, ↓zK, ↓zL, ↓zM, ↓zN, ↓zO, ↓zP, ↓zQ, ↓zR, ↓zS, ↓zT, ↓zU, ↓zV, ↓zW, ↓zX, ↓zY, ↓zZ, ↓xf, ↓xg, ↓xh, ↓xi, ↓xj, ↓xk, ↓xl, ↓xm, ↓xq, xt, ↓xu, ↓xw, ↓xy, ↓xz, ↓x5, ↓x6, ↓x7, ↓x8, ↓x9, ↓xB, ↓xD, ↓xE, ↓xF, ↓xG, ↓xH, ↓xI, ↓xJ, ↓xK, ↓xL, ↓xM, ↓xN, ↓xO, ↓xP, ↓xQ, ↓xR, ↓xS, ↓xT, ↓xU, ↓xV, ↓xW, ↓xX, ↓xY, ↓xZ, ↓qb, ↓qc, ↓qd, ↓qf, ↓qg, ↓qh, ↓qi, ↓qj, ↓qk, ↓ql, ↓qm, ↓qo, ↓qp, ↓qr, ↓qt, ↓qu, ↓qv, ↓qw, ↓qz, ↓qA, ↓qB, ↓qC, ↓qE, ↓qF, ↓qG, ↓qH, ↓qI, ↓qJ, ↓qL, ↓qM, ↓qN, ↓qO, ↓qP, ↓qQ, ↓qR, ↓qS, ↓qT, ↓qU, ↓qV, ↓qW, ↓qX, ↓qY, ↓qZ, ↓vf, ↓vg, ↓vh, ↓vi, ↓vj, ↓vk, ↓vl, ↓vm, ↓vo, ↓vp, ↓vq, ↓vt, ↓vu, ↓vw, vz, v6, ↓v7, ↓v8, ↓v9, ↓vA, ↓vB, ↓vC, ↓vD, ↓vE, ↓vF, ↓vG, ↓vH, ↓vI, ↓vJ, ↓vK, ↓vL, ↓vM, ↓vN, ↓vO, dLt, dLe, dGt, dGe, vP, vQ, vR, vS, vT, dI2, vU, vV, dEq, dNe, vW, vX, vY, vZ, ja, jb, jc, jd, je, jf, Option.some.injEq, jg, jh, ji, jk, jl, dIs, jm, jn, shs, kiC, jo, jp, obD, id_eq, List.getElem?_cons_zero, List.getElem?_cons_succ, List.set_cons_zero, List.set_cons_succ, List.length_cons, List.length_nil, D.bl.injEq, exists_eq_left', decide_eq_true_eq, decide_eq_false_iff_not, Bool.not_eq_true', Bool.not_eq_false', Nat.zero_add, Nat.reduceAdd, true_and, and_true, forall_const, reduceCtorEq, not_true_eq_false, not_false_eq_true, false_implies, true_implies, implies_true, jq, Nat.reduceLeDiff, Int.reduceLE, Int.reduceLT, Int.reduceNeg, Int.reducePow, Int.reduceAdd, Int.reduceSub, Int.reduceMul]
      refine ⟨13, rfl, fun q2 => ?_⟩
      simp only [w_law_x1, ↓za, ↓zb, ↓zc, ↓zd, ↓ze, ↓zf, ↓zg, ↓zh, ↓zi, ↓zj, ↓zk, ↓zl, ↓zm, ↓zn, ↓zo, ↓zp, ↓zq, ↓zr, ↓zt, ↓zu, ↓zv, ↓zw, ↓zx, zy, zz, ↓z3, ↓z7, ↓z8, ↓z9, ↓zA, ↓zB, ↓zC, ↓zD, ↓zE, ↓zF, ↓zG, ↓zH, ↓zI, ↓zJ, ↓zK, ↓zL, ↓zM, ↓zN, ↓zO, ↓zP, ↓zQ, ↓zR, ↓zS, ↓zT, ↓zU, ↓zV, ↓zW, ↓zX, ↓zY, ↓zZ, ↓xf, ↓xg, ↓xh, ↓xi, ↓xj, ↓xk, ↓xl, ↓xm, ↓xq, xt, ↓xu, ↓xw, ↓xy, ↓xz, ↓x5, ↓x6, ↓x7, ↓x8, ↓x9, ↓xB, ↓xD, ↓xE, ↓xF, ↓xG, ↓xH, ↓xI, ↓xJ, ↓xK, ↓xL, ↓xM, ↓xN, ↓xO, ↓xP, ↓xQ, ↓xR, ↓xS, ↓xT, ↓xU, ↓xV, ↓xW, ↓xX, ↓xY, ↓xZ, ↓qb, ↓qc, ↓qd, ↓qf, ↓qg, ↓qh, ↓qi, ↓qj, ↓qk, ↓ql, ↓qm, ↓qo, ↓qp, ↓qr, ↓qt, ↓qu, ↓qv, ↓qw, ↓qz, ↓qA, ↓qB, ↓qC, ↓qE, ↓qF, ↓qG, ↓qH, ↓qI, ↓qJ, ↓qL, ↓qM, ↓qN, ↓qO, ↓qP, ↓qQ, ↓qR, ↓qS, ↓qT, ↓qU, ↓qV, ↓qW, ↓qX, ↓qY, ↓qZ, ↓vf, ↓vg, ↓vh, ↓vi, ↓vj, ↓vk, ↓vl, ↓vm, ↓vo, ↓vp, ↓vq, ↓vt, ↓vu, ↓vw, vz, v6, ↓v7, ↓v8, ↓v9, ↓vA, ↓vB, ↓vC, ↓vD, ↓vE, ↓vF, ↓vG, ↓vH, ↓vI, ↓vJ, ↓vK, ↓vL, ↓vM, ↓vN, ↓vO, dLt, dLe, dGt, dGe, vP, vQ, vR, vS, vT, dI2, vU, vV, dEq, dNe, vW, vX, vY, vZ, ja, jb, jc, jd, je, jf, Option.some.injEq, jg, jh, ji, jk, jl, dIs, jm, jn, shs, kiC, jo, jp, obD, id_eq, List.getElem?_cons_zero, List.getElem?_cons_succ, List.set_cons_zero, List.set_cons_succ, List.length_cons, List.length_nil, D.bl.injEq, exists_eq_left', decide_eq_true_eq, decide_eq_false_iff_not, Bool.not_eq_true', Bool.not_eq_false', Nat.zero_add, Nat.reduceAdd, true_and, and_true, forall_const, reduceCtorEq, not_true_eq_false, not_false_eq_true, false_implies, true_implies, implies_true, jq, Nat.reduceLeDiff, Int.reduceLE, Int.reduceLT, Int.reduceNeg, Int.reducePow, Int.reduceAdd, Int.reduceSub, Int.reduceMul]
      refine ⟨14, rfl, fun e2 => ?_⟩
      simp only [↓za, ↓zb, ↓zc, ↓zd, ↓ze, ↓zf, ↓zg, ↓zh, ↓zi, ↓zj, ↓zk, ↓zl, ↓zm, ↓zn, ↓zo, ↓zp, ↓zq, ↓zr, ↓zt, ↓zu, ↓zv, ↓zw, ↓zx, zy, zz, ↓z3, ↓z7, ↓z8, ↓z9, ↓zA, ↓zB, ↓zC, ↓zD, ↓zE, ↓zF, ↓zG, ↓zH, ↓zI, ↓zJ, ↓zK, ↓zL, ↓zM, ↓zN, ↓zO, ↓zP, ↓zQ, ↓zR, ↓zS, ↓zT, ↓zU, ↓zV, ↓zW, ↓zX, ↓zY, ↓zZ, ↓xf, ↓xg, ↓xh, ↓xi, ↓xj, ↓xk, ↓xl, ↓xm, ↓xq, xt, ↓xu, ↓xw, ↓xy, ↓xz, ↓x5, ↓x6, ↓x7, ↓x8, ↓x9, ↓xB, ↓xD, ↓xE, ↓xF, ↓xG, ↓xH, ↓xI, ↓xJ, ↓xK, ↓xL, ↓xM, ↓xN, ↓xO, ↓xP, ↓xQ, ↓xR, ↓xS, ↓xT, ↓xU, ↓xV, ↓xW, ↓xX, ↓xY, ↓xZ, ↓qb, ↓qc, ↓qd, ↓qf, ↓qg, ↓qh, ↓qi, ↓qj, ↓qk, ↓ql, ↓qm, ↓qo, ↓qp, ↓qr, ↓qt, ↓qu, ↓qv, ↓qw, ↓qz, ↓qA, ↓qB, ↓qC, ↓qE, ↓qF, ↓qG, ↓qH, ↓qI, ↓qJ, ↓qL, ↓qM, ↓qN, ↓qO, ↓qP, ↓qQ, ↓qR, ↓qS, ↓qT, ↓qU, ↓qV, ↓qW, ↓qX, ↓qY, ↓qZ, ↓vf, ↓vg, ↓vh, ↓vi, ↓vj, ↓vk, ↓vl, ↓vm, ↓vo, ↓vp, ↓vq, ↓vt, ↓vu, ↓vw, vz, v6, ↓v7, ↓v8, ↓v9, ↓vA, ↓vB, ↓vC, ↓vD, ↓vE, ↓vF, ↓vG, ↓vH, ↓vI, ↓vJ, ↓vK, ↓vL, ↓vM, ↓vN, ↓vO, dLt, dLe, dGt, dGe, vP, vQ, vR, vS, vT, dI2, vU, vV, dEq, dNe, vW, vX, vY, vZ, ja, jb, jc, jd, je, jf, Option.some.injEq, jg, jh, ji, jk, jl, dIs, jm, jn, shs, kiC, jo, jp, obD, id_eq, List.getElem?_cons_zero, List.getElem?_cons_succ, List.set_cons_zero, List.set_cons_succ, List.length_cons, List.length_nil, D.bl.injEq, exists_eq_left', decide_eq_true_eq, decide_eq_false_iff_not, Bool.not_eq_true', Bool.not_eq_false', Nat.zero_add, Nat.reduceAdd, true_and, and_true, forall_const, reduceCtorEq, not_true_eq_false, not_false_eq_true, false_implies, true_implies, implies_true, jq, Nat.reduceLeDiff, Int.reduceLE, Int.reduceLT, Int.reduceNeg, Int.reducePow, Int.reduceAdd, Int.reduceSub, Int.reduceMul]
      refine ⟨[15, 16, 17, 13, 14], [15, 16, 17, 13, 14], ?_⟩
      simp only [↓za, ↓zb, ↓zc, ↓zd, ↓ze, ↓zf, ↓zg, ↓zh, ↓zi, ↓zj, ↓zk, ↓zl, ↓zm, ↓zn, ↓zo, ↓zp, ↓zq, ↓zr, ↓zt, ↓zu, ↓zv, ↓zw, ↓zx, zy, zz, ↓z3, ↓z7, ↓z8, ↓z9, ↓zA, ↓zB, ↓zC, ↓zD, ↓zE, ↓zF, ↓zG, ↓zH, ↓zI, ↓zJ, ↓zK, ↓zL, ↓zM, ↓zN, ↓zO, ↓zP, ↓zQ, ↓zR, ↓zS, ↓zT, ↓zU, ↓zV, ↓zW, ↓zX, ↓zY, ↓zZ, ↓xf, ↓xg, ↓xh, ↓xi, ↓xj, ↓xk, ↓xl, ↓xm, ↓xq, xt, ↓xu, ↓xw, ↓xy, ↓xz, ↓x5, ↓x6, ↓x7, ↓x8, ↓x9, ↓xB, ↓xD, ↓xE, ↓xF, ↓xG, ↓xH, ↓xI, ↓xJ, ↓xK, ↓xL, ↓xM, ↓xN, ↓xO, ↓xP, ↓xQ, ↓xR, ↓xS, ↓xT, ↓xU, ↓xV, ↓xW, ↓xX, ↓xY, ↓xZ, ↓qb, ↓qc, ↓qd, ↓qf, ↓qg, ↓qh, ↓qi, ↓qj, ↓qk, ↓ql, ↓qm, ↓qo, ↓qp, ↓qr, ↓qt, ↓qu, ↓qv, ↓qw, ↓qz, ↓qA, ↓qB, ↓qC, ↓qE, ↓qF, ↓qG, ↓qH, ↓qI, ↓qJ, ↓qL, ↓qM, ↓qN, ↓qO, ↓qP, ↓qQ, ↓qR, ↓qS, ↓qT, ↓qU, ↓qV, ↓qW, ↓qX, ↓qY, ↓qZ, ↓vf, ↓vg, ↓vh, ↓vi, ↓vj, ↓vk, ↓vl, ↓vm, ↓vo, ↓vp, ↓vq, ↓vt, ↓vu, ↓vw, vz, v6, ↓v7, ↓v8, ↓v9, ↓vA, ↓vB, ↓vC, ↓vD, ↓vE, ↓vF, ↓vG, ↓vH, ↓vI, ↓vJ, ↓vK, ↓vL, ↓vM, ↓vN, ↓vO, dLt, dLe, dGt, dGe, vP, vQ, vR, vS, vT, dI2, vU, vV, dEq, dNe, vW, vX, vY, vZ, ja, jb, jc, jd, je, jf, Option.some.injEq, jg, jh, ji, jk, jl, dIs, jm, jn, shs, kiC, jo, jp, obD, id_eq, List.getElem?_cons_zero, List.getElem?_cons_succ, List.set_cons_zero, List.set_cons_succ, List.length_cons, List.length_nil, D.bl.injEq, exists_eq_left', decide_eq_true_eq, decide_eq_false_iff_not, Bool.not_eq_true', Bool.not_eq_false', Nat.zero_add, Nat.reduceAdd, true_and, and_true, forall_const, reduceCtorEq, not_true_eq_false, not_false_eq_true, false_implies, true_implies, implies_true, jq, Nat.reduceLeDiff, Int.reduceLE, Int.reduceLT, Int.reduceNeg, Int.reducePow, Int.reduceAdd, Int.reduceSub, Int.reduceMul, wf__law_alike]
      refine ⟨⟨t.s, t.d, t.p, ms, pl, AS.new⟩, ⟨q2, e2, AS.new⟩, fs, rfl, rfl, rfl, rfl, rfl, w, ti.iv, rfl, by show 0 ≤ 1000; decide, (fun x hx => by cases hx), ?_⟩
      refine ⟨rfl, rfl, rfl, rfl, rfl, ?_⟩
      simp only [w_law_x2, ↓za, ↓zb, ↓zc, ↓zd, ↓ze, ↓zf, ↓zg, ↓zh, ↓zi, ↓zj, ↓zk, ↓zl, ↓zm, ↓zn, ↓zo, ↓zp, ↓zq, ↓zr, ↓zt, ↓zu, ↓zv, ↓zw, ↓zx, zy, zz, ↓z3, ↓z7, ↓z8, ↓z9, ↓zA, ↓zB, ↓zC, ↓zD, ↓zE, ↓zF, ↓zG, ↓zH, ↓zI, ↓zJ, ↓zK, ↓zL, ↓zM, ↓zN, ↓zO, ↓zP, ↓zQ, ↓zR, ↓zS, ↓zT, ↓zU, ↓zV, ↓zW, ↓zX, ↓zY, ↓zZ, ↓xf, ↓xg, ↓xh, ↓xi, ↓xj, ↓xk, ↓xl, ↓xm, ↓xq, xt, ↓xu, ↓xw, ↓xy, ↓xz, ↓x5, ↓x6, ↓x7, ↓x8, ↓x9, ↓xB, ↓xD, ↓xE, ↓xF, ↓xG, ↓xH, ↓xI, ↓xJ, ↓xK, ↓xL, ↓xM, ↓xN, ↓xO, ↓xP, ↓xQ, ↓xR, ↓xS, ↓xT, ↓xU, ↓xV, ↓xW, ↓xX, ↓xY, ↓xZ, ↓qb, ↓qc, ↓qd, ↓qf, ↓qg, ↓qh, ↓qi, ↓qj, ↓qk, ↓ql, ↓qm, ↓qo, ↓qp, ↓qr, ↓qt, ↓qu, ↓qv, ↓qw, ↓qz, ↓qA, ↓qB, ↓qC, ↓qE, ↓qF, ↓qG, ↓qH, ↓qI, ↓qJ, ↓qL, ↓qM, ↓qN, ↓qO, ↓qP, ↓qQ, ↓qR, ↓qS, ↓qT, ↓qU, ↓qV, ↓qW, ↓qX, ↓qY, ↓qZ, ↓vf, ↓vg, ↓vh, ↓vi, ↓vj, ↓vk, ↓vl, ↓vm, ↓vo, ↓vp, ↓vq, ↓vt, ↓vu, ↓vw, vz, v6, ↓v7, ↓v8, ↓v9, ↓vA, ↓vB, ↓vC, ↓vD, ↓vE, ↓vF, ↓vG, ↓vH, ↓vI, ↓vJ, ↓vK, ↓vL, ↓vM, ↓vN, ↓vO, dLt, dLe, dGt, dGe, vP, vQ, vR, vS, vT, dI2, vU, vV, dEq, dNe, vW, vX, vY, vZ, ja, jb, jc, jd, je, jf, Option.some.injEq, jg, jh, ji, jk, jl, dIs, jm, jn, shs, kiC, jo, jp, obD, id_eq, List.getElem?_cons_zero, List.getElem?_cons_succ, List.set_cons_zero, List.set_cons_succ, List.length_cons, List.length_nil, D.bl.injEq, exists_eq_left', decide_eq_true_eq, decide_eq_false_iff_not, Bool.not_eq_true', Bool.not_eq_false', Nat.zero_add, Nat.reduceAdd, true_and, and_true, forall_const, reduceCtorEq, not_true_eq_false, not_false_eq_true, false_implies, true_implies, implies_true, jq, Nat.reduceLeDiff, Int.reduceLE, Int.reduceLT, Int.reduceNeg, Int.reducePow, Int.reduceAdd, Int.reduceSub, Int.reduceMul]
      rw [wMethCE_e]
      refine ⟨15, [15, 16, 17], [15, 16, 17], ?_⟩
      simp only [AC.cells, PC.cells, ↓za, ↓zb, ↓zc, ↓zd, ↓ze, ↓zf, ↓zg, ↓zh, ↓zi, ↓zj, ↓zk, ↓zl, ↓zm, ↓zn, ↓zo, ↓zp, ↓zq, ↓zr, ↓zt, ↓zu, ↓zv, ↓zw, ↓zx, zy, zz, ↓z3, ↓z7, ↓z8, ↓z9, ↓zA, ↓zB, ↓zC, ↓zD, ↓zE, ↓zF, ↓zG, ↓zH, ↓zI, ↓zJ, ↓zK, ↓zL, ↓zM, ↓zN, ↓zO, ↓zP, ↓zQ, ↓zR, ↓zS, ↓zT, ↓zU, ↓zV, ↓zW, ↓zX, ↓zY, ↓zZ, ↓xf, ↓xg, ↓xh, ↓xi, ↓xj, ↓xk, ↓xl, ↓xm, ↓xq, xt, ↓xu, ↓xw, ↓xy, ↓xz, ↓x5, ↓x6, ↓x7, ↓x8, ↓x9, ↓xB, ↓xD, ↓xE, ↓xF, ↓xG, ↓xH, ↓xI, ↓xJ, ↓xK, ↓xL, ↓xM, ↓xN, ↓xO, ↓xP, ↓xQ, ↓xR, ↓xS, ↓xT, ↓xU, ↓xV, ↓xW, ↓xX, ↓xY, ↓xZ, ↓qb, ↓qc, ↓qd, ↓qf, ↓qg, ↓qh, ↓qi, ↓qj, ↓qk, ↓ql, ↓qm, ↓qo, ↓qp, ↓qr, ↓qt, ↓qu, ↓qv, ↓qw, ↓qz, ↓qA, ↓qB, ↓qC, ↓qE, ↓qF, ↓qG, ↓qH, ↓qI, ↓qJ, ↓qL, ↓qM, ↓qN, ↓qO, ↓qP, ↓qQ, ↓qR, ↓qS, ↓qT, ↓qU, ↓qV, ↓qW, ↓qX, ↓qY, ↓qZ, ↓vf, ↓vg, ↓vh, ↓vi, ↓vj, ↓vk, ↓vl, ↓vm, ↓vo, ↓vp, ↓vq, ↓vt, ↓vu, ↓vw, vz, v6, ↓v7, ↓v8, ↓v9, ↓vA, ↓vB, ↓vC, ↓vD, ↓vE, ↓vF, ↓vG, ↓vH, ↓vI, ↓vJ, ↓vK, ↓vL, ↓vM, ↓vN, ↓vO, dLt, dLe, dGt, dGe, vP, vQ, vR, vS, vT, dI2, vU, vV, dEq, dNe, vW, vX, vY, vZ, ja, jb, jc, jd, je, jf, Option.some.injEq, jg, jh, ji, jk, jl, dIs, jm, jn, shs, kiC, jo, jp, obD, id_eq, List.getElem?_cons_zero, List.getElem?_cons_succ, List.set_cons_zero, List.set_cons_succ, List.length_cons, List.length_nil, D.bl.injEq, exists_eq_left', decide_eq_true_eq, decide_eq_false_iff_not, Bool.not_eq_true', Bool.not_eq_false', Nat.zero_add, Nat.reduceAdd, true_and, and_true, forall_const, reduceCtorEq, not_true_eq_false, not_false_eq_true, false_implies, true_implies, implies_true, jq, Nat.reduceLeDiff, Int.reduceLE, Int.reduceLT, Int.reduceNeg, Int.reducePow, Int.reduceAdd, Int.reduceSub, Int.reduceMul, wf_Account_undo]
      refine ⟨acF_nd.2.2.1, ⟨t.s, t.d, t.p, ms, pl, AS.new⟩, rfl, rfl, ti.iv, ?_⟩
      first | exact rfl | exact ⟨rfl, rfl, rfl, rfl⟩
end DL
namespace DL
open PySem PySem.Spec PyProof.Rows L2
def top (i : Nat) : Stmt := PySem.Challenge.pw_movedyears_k54_accounts.main.body.getD i (.Pass ⟨0, 0, 0, 0⟩)
abbrev s_UnknownFact_init : Stmt := inClass (top 3) 0
abbrev N_UnknownFact_init : List Str := ["self", "fact"]
theorem sc_UnknownFact_init : FnScopeS N_UnknownFact_init ["self", "fact"] (defScope s_UnknownFact_init) := ⟨rfl, rfl, rfl, by decide +kernel, rfl, by decide +kernel, by decide +kernel, by decide +kernel, rfl, rfl⟩
abbrev s_NoCarry_init : Stmt := inClass (top 4) 0
abbrev N_NoCarry_init : List Str := ["self", "scheme", "other"]
theorem sc_NoCarry_init : FnScopeS N_NoCarry_init ["self", "scheme", "other"] (defScope s_NoCarry_init) := ⟨rfl, rfl, rfl, by decide +kernel, rfl, by decide +kernel, by decide +kernel, by decide +kernel, rfl, rfl⟩
abbrev s_Account_init : Stmt := inClass (top 6) 0
abbrev N_Account_init : List Str := ["self", "schemes", "carries", "g 0", "g 1", "g 2"]
theorem sc_Account_init : FnScope N_Account_init ["self", "schemes", "carries"] (defScope s_Account_init) := ⟨rfl, rfl, rfl, by decide +kernel, rfl, by decide +kernel, by decide +kernel⟩
abbrev s_Account_scheme : Stmt := inClass (top 6) 1
abbrev N_Account_scheme : List Str := ["self", "g 0", "g 1", "g 2"]
theorem sc_Account_scheme : FnScope N_Account_scheme ["self"] (defScope s_Account_scheme) := ⟨rfl, rfl, rfl, by decide +kernel, rfl, by decide +kernel, by decide +kernel⟩
abbrev s_Account_state : Stmt := inClass (top 6) 2
abbrev N_Account_state : List Str := ["self", "g 0", "g 1", "g 2"]
theorem sc_Account_state : FnScope N_Account_state ["self"] (defScope s_Account_state) := ⟨rfl, rfl, rfl, by decide +kernel, rfl, by decide +kernel, by decide +kernel⟩
abbrev s_Account_paid : Stmt := inClass (top 6) 3
abbrev N_Account_paid : List Str := ["self", "g 0", "g 1", "g 2"]
theorem sc_Account_paid : FnScope N_Account_paid ["self"] (defScope s_Account_paid) := ⟨rfl, rfl, rfl, by decide +kernel, rfl, by decide +kernel, by decide +kernel⟩
abbrev s_Account_worth : Stmt := inClass (top 6) 4
abbrev N_Account_worth : List Str := ["self", "scheme", "state", "paid", "g 0", "g 1", "g 2"]
theorem sc_Account_worth : FnScope N_Account_worth ["self"] (defScope s_Account_worth) := ⟨rfl, rfl, rfl, by decide +kernel, rfl, by decide +kernel, by decide +kernel⟩
abbrev s_Account_year : Stmt := inClass (top 6) 5
abbrev N_Account_year : List Str := ["self", "fact", "scheme", "state", "paid", "machine", "gain", "g 0", "g 1", "g 2"]
theorem sc_Account_year : FnScope N_Account_year ["self", "fact"] (defScope s_Account_year) := ⟨rfl, rfl, rfl, by decide +kernel, rfl, by decide +kernel, by decide +kernel⟩
abbrev s_Account_move : Stmt := inClass (top 6) 6
abbrev N_Account_move : List Str := ["self", "other", "scheme", "state", "paid", "carry", "g 0", "g 1", "g 2"]
theorem sc_Account_move : FnScope N_Account_move ["self", "other"] (defScope s_Account_move) := ⟨rfl, rfl, rfl, by decide +kernel, rfl, by decide +kernel, by decide +kernel⟩
abbrev s_Account_undo : Stmt := inClass (top 6) 7
abbrev N_Account_undo : List Str := ["self", "g 0", "g 1", "g 2"]
theorem sc_Account_undo : FnScope N_Account_undo ["self"] (defScope s_Account_undo) := ⟨rfl, rfl, rfl, by decide +kernel, rfl, by decide +kernel, by decide +kernel⟩
abbrev s_Account_branch : Stmt := inClass (top 6) 8
abbrev N_Account_branch : List Str := ["self", "other", "g 0", "g 1", "g 2", "g 3", "g 4", "g 5", "g 6", "g 7"]
theorem sc_Account_branch : FnScope N_Account_branch ["self"] (defScope s_Account_branch) := ⟨rfl, rfl, rfl, by decide +kernel, rfl, by decide +kernel, by decide +kernel⟩
abbrev s_Machine_init : Stmt := inClass (top 8) 0
abbrev N_Machine_init : List Str := ["self", "facts", "step", "gain", "leave", "row"]
theorem sc_Machine_init : FnScope N_Machine_init ["self", "facts", "step", "gain", "leave"] (defScope s_Machine_init) := ⟨rfl, rfl, rfl, by decide +kernel, rfl, by decide +kernel, by decide +kernel⟩
abbrev s_Carry_init : Stmt := inClass (top 10) 0
abbrev N_Carry_init : List Str := ["self", "to", "cost"]
theorem sc_Carry_init : FnScope N_Carry_init ["self", "to", "cost"] (defScope s_Carry_init) := ⟨rfl, rfl, rfl, by decide +kernel, rfl, by decide +kernel, by decide +kernel⟩
abbrev s__law_cell : Stmt := top 12
abbrev N__law_cell : List Str := ["_law_script", "_law_k"]
theorem sc__law_cell : FnScope N__law_cell ["_law_script", "_law_k"] (defScope s__law_cell) := ⟨rfl, rfl, rfl, by decide +kernel, rfl, by decide +kernel, by decide +kernel⟩
abbrev s__law_row : Stmt := top 13
abbrev N__law_row : List Str := ["_law_cell_here", "_law_k", "_law_many", "_law_row_here", "_law_turn", "_law_seed"]
theorem sc__law_row : FnScope N__law_row ["_law_cell_here", "_law_k", "_law_many"] (defScope s__law_row) := ⟨rfl, rfl, rfl, by decide +kernel, rfl, by decide +kernel, by decide +kernel⟩
abbrev s__law_box : Stmt := top 14
abbrev N__law_box : List Str := ["_law_script", "_law_first", "_law_last", "_law_row_here", "_law_k"]
theorem sc__law_box : FnScope N__law_box ["_law_script", "_law_first", "_law_last"] (defScope s__law_box) := ⟨rfl, rfl, rfl, by decide +kernel, rfl, by decide +kernel, by decide +kernel⟩
abbrev s__law_draw : Stmt := top 15
abbrev N__law_draw : List Str := ["_law_box_here", "_law_many", "_law_at"]
theorem sc__law_draw : FnScope N__law_draw ["_law_box_here", "_law_many"] (defScope s__law_draw) := ⟨rfl, rfl, rfl, by decide +kernel, rfl, by decide +kernel, by decide +kernel⟩
abbrev s__law_same : Stmt := top 16
abbrev N__law_same : List Str := ["_law_one", "_law_other"]
theorem sc__law_same : FnScope N__law_same ["_law_one", "_law_other"] (defScope s__law_same) := ⟨rfl, rfl, rfl, by decide +kernel, rfl, by decide +kernel, by decide +kernel⟩
abbrev s__law_facts : Stmt := top 17
abbrev N__law_facts : List Str := ["_law_box_here"]
theorem sc__law_facts : FnScope N__law_facts ["_law_box_here"] (defScope s__law_facts) := ⟨rfl, rfl, rfl, by decide +kernel, rfl, by decide +kernel, by decide +kernel⟩
abbrev s__law_machine : Stmt := top 18
abbrev N__law_machine : List Str := ["_law_box_here", "_law_facts_here", "_law_most", "_law_many", "_law_step", "_law_gain", "_law_state", "_law_fact"]
theorem sc__law_machine : FnScope N__law_machine ["_law_box_here", "_law_facts_here", "_law_most"] (defScope s__law_machine) := ⟨rfl, rfl, rfl, by decide +kernel, rfl, by decide +kernel, by decide +kernel⟩
abbrev s__law_schemes : Stmt := top 19
abbrev N__law_schemes : List Str := ["_law_box_here", "_law_most", "_law_facts_here", "_law_schemes_here", "_law_plain", "_law_to", "_law_other", "_law_one", "_law_k", "_law_state"]
theorem sc__law_schemes : FnScope N__law_schemes ["_law_box_here", "_law_most"] (defScope s__law_schemes) := ⟨rfl, rfl, rfl, by decide +kernel, rfl, by decide +kernel, by decide +kernel⟩
abbrev s__law_carries : Stmt := top 20
abbrev N__law_carries : List Str := ["_law_plain", "_law_found", "_law_pair"]
theorem sc__law_carries : FnScope N__law_carries ["_law_plain"] (defScope s__law_carries) := ⟨rfl, rfl, rfl, by decide +kernel, rfl, by decide +kernel, by decide +kernel⟩
abbrev s__law_year : Stmt := top 21
abbrev N__law_year : List Str := ["_law_account", "_law_fact", "e", "g 0", "g 1", "g 2"]
theorem sc__law_year : FnScope N__law_year ["_law_account", "_law_fact"] (defScope s__law_year) := ⟨rfl, rfl, rfl, by decide +kernel, rfl, by decide +kernel, by decide +kernel⟩
abbrev s__law_move : Stmt := top 22
abbrev N__law_move : List Str := ["_law_account", "_law_other", "e", "g 0", "g 1", "g 2"]
theorem sc__law_move : FnScope N__law_move ["_law_account", "_law_other"] (defScope s__law_move) := ⟨rfl, rfl, rfl, by decide +kernel, rfl, by decide +kernel, by decide +kernel⟩
abbrev s__law_done : Stmt := top 23
abbrev N__law_done : List Str := ["_law_schemes_here", "_law_plain", "_law_past", "_law_deeds", "_law_deed_here", "_law_scheme", "_law_state", "_law_paid", "_law_gain", "_law_to", "_law_cost", "g 0", "g 1"]
theorem sc__law_done : FnScope N__law_done ["_law_schemes_here", "_law_plain", "_law_past", "_law_deeds", "_law_deed_here"] (defScope s__law_done) := ⟨rfl, rfl, rfl, by decide +kernel, rfl, by decide +kernel, by decide +kernel⟩
abbrev s__law_deed : Stmt := top 24
abbrev N__law_deed : List Str := ["_law_box_here", "_law_schemes_here", "_law_kind", "_law_facts_here"]
theorem sc__law_deed : FnScope N__law_deed ["_law_box_here", "_law_schemes_here"] (defScope s__law_deed) := ⟨rfl, rfl, rfl, by decide +kernel, rfl, by decide +kernel, by decide +kernel⟩
abbrev s__law_told : Stmt := top 25
abbrev N__law_told : List Str := ["_law_account", "_law_deed_here", "g 0", "g 1", "g 2"]
theorem sc__law_told : FnScope N__law_told ["_law_account", "_law_deed_here"] (defScope s__law_told) := ⟨rfl, rfl, rfl, by decide +kernel, rfl, by decide +kernel, by decide +kernel⟩
abbrev s__law_alike : Stmt := top 26
abbrev N__law_alike : List Str := ["_law_account", "_law_schemes_here", "_law_past", "_law_deeds", "_law_scheme", "_law_state", "_law_paid", "_law_told_here", "g 0", "g 1", "g 2", "g 3", "g 4"]
theorem sc__law_alike : FnScope N__law_alike ["_law_account", "_law_schemes_here", "_law_past", "_law_deeds"] (defScope s__law_alike) := ⟨rfl, rfl, rfl, by decide +kernel, rfl, by decide +kernel, by decide +kernel⟩
abbrev s_law : Stmt := top 27
abbrev N_law : List Str := ("_law_script" : Str) :: ("_law_box_here" : Str) :: ("_law_schemes_here" : Str) :: ("_law_plain" : Str) :: ("_law_accounts" : Str) :: ("_law_k" : Str) :: ("_law_account" : Str) :: ("_law_past" : Str) :: ("_law_deeds" : Str) :: ("_law_deed_here" : Str) :: ("_law_one" : Str) :: ("_law_turn" : Str) :: ("g 0" : Str) :: ("g 1" : Str) :: ("g 2" : Str) :: ("g 3" : Str) :: ("g 4" : Str) :: ("g 5" : Str) :: ("g 6" : Str) :: ("g 7" : Str) :: ("g 8" : Str) :: ("g 9" : Str) :: ("g 10" : Str) :: ("g 11" : Str) :: ("g 12" : Str) :: ("g 13" : Str) :: ("g 14" : Str) :: ("g 15" : Str) :: ("g 16" : Str) :: ("g 17" : Str) :: ("g 18" : Str) :: ("g 19" : Str) :: ("g 20" : Str) :: ("g 21" : Str) :: ("g 22" : Str) :: []
theorem sc_law : FnScope N_law ["_law_script"] (defScope s_law) := ⟨rfl, rfl, rfl, by decide +kernel, rfl, by decide +kernel, by decide +kernel⟩
structure Txt (P : Program) (K : PySem.W.Frag) (mg : Str → Option Value) where
  f_UnknownFact_init : Addr
  d_UnknownFact_init : FuncData
  cc_UnknownFact_init : Addr
  C_UnknownFact : Addr
  M_UnknownFact : mg "UnknownFact" = some (.ref C_UnknownFact)
  F_UnknownFact_init : FunS P K mg C_UnknownFact cc_UnknownFact_init "__init__" "UnknownFact.__init__" s_UnknownFact_init f_UnknownFact_init d_UnknownFact_init
  b_UnknownFact_init : L2.Binds K d_UnknownFact_init ["self", "fact"] []
  sup_UnknownFact : SupC K C_UnknownFact C_UnknownFact
  iC_UnknownFact : PySem.W.findIn K (.ref C_UnknownFact) "__init__" = some (some (.ref f_UnknownFact_init))
  tI_UnknownFact : PySem.W.typeIn K (.ref f_UnknownFact_init) = some (.type "function")
  nf_UnknownFact : ∀ f ∈ (["fact"] : List Str), PySem.W.findIn K (.ref C_UnknownFact) f = some none
  em_UnknownFact : PySem.W.exmOne K (.ref C_UnknownFact) (.ref C_UnknownFact) = some true
  xf_UnknownFact : XfC K C_UnknownFact
  f_NoCarry_init : Addr
  d_NoCarry_init : FuncData
  cc_NoCarry_init : Addr
  C_NoCarry : Addr
  M_NoCarry : mg "NoCarry" = some (.ref C_NoCarry)
  F_NoCarry_init : FunS P K mg C_NoCarry cc_NoCarry_init "__init__" "NoCarry.__init__" s_NoCarry_init f_NoCarry_init d_NoCarry_init
  b_NoCarry_init : L2.Binds K d_NoCarry_init ["self", "scheme", "other"] []
  sup_NoCarry : SupC K C_NoCarry C_NoCarry
  iC_NoCarry : PySem.W.findIn K (.ref C_NoCarry) "__init__" = some (some (.ref f_NoCarry_init))
  tI_NoCarry : PySem.W.typeIn K (.ref f_NoCarry_init) = some (.type "function")
  nf_NoCarry : ∀ f ∈ (["scheme", "other"] : List Str), PySem.W.findIn K (.ref C_NoCarry) f = some none
  em_NoCarry : PySem.W.exmOne K (.ref C_NoCarry) (.ref C_NoCarry) = some true
  xf_NoCarry : XfC K C_NoCarry
  f_Account_init : Addr
  d_Account_init : FuncData
  F_Account_init : Fun K "__init__" "Account.__init__" s_Account_init f_Account_init d_Account_init
  b_Account_init : L2.Binds K d_Account_init ["self", "schemes", "carries"] []
  f_Account_scheme : Addr
  d_Account_scheme : FuncData
  F_Account_scheme : Fun K "scheme" "Account.scheme" s_Account_scheme f_Account_scheme d_Account_scheme
  b_Account_scheme : L2.Binds K d_Account_scheme ["self"] []
  f_Account_state : Addr
  d_Account_state : FuncData
  F_Account_state : Fun K "state" "Account.state" s_Account_state f_Account_state d_Account_state
  b_Account_state : L2.Binds K d_Account_state ["self"] []
  f_Account_paid : Addr
  d_Account_paid : FuncData
  F_Account_paid : Fun K "paid" "Account.paid" s_Account_paid f_Account_paid d_Account_paid
  b_Account_paid : L2.Binds K d_Account_paid ["self"] []
  f_Account_worth : Addr
  d_Account_worth : FuncData
  F_Account_worth : Fun K "worth" "Account.worth" s_Account_worth f_Account_worth d_Account_worth
  b_Account_worth : L2.Binds K d_Account_worth ["self"] []
  f_Account_year : Addr
  d_Account_year : FuncData
  F_Account_year : Fun K "year" "Account.year" s_Account_year f_Account_year d_Account_year
  b_Account_year : L2.Binds K d_Account_year ["self", "fact"] []
  f_Account_move : Addr
  d_Account_move : FuncData
  F_Account_move : Fun K "move" "Account.move" s_Account_move f_Account_move d_Account_move
  b_Account_move : L2.Binds K d_Account_move ["self", "other"] []
  f_Account_undo : Addr
  d_Account_undo : FuncData
  F_Account_undo : Fun K "undo" "Account.undo" s_Account_undo f_Account_undo d_Account_undo
  b_Account_undo : L2.Binds K d_Account_undo ["self"] []
  f_Account_branch : Addr
  d_Account_branch : FuncData
  F_Account_branch : Fun K "branch" "Account.branch" s_Account_branch f_Account_branch d_Account_branch
  b_Account_branch : L2.Binds K d_Account_branch ["self"] []
  f_Machine_init : Addr
  d_Machine_init : FuncData
  F_Machine_init : Fun K "__init__" "Machine.__init__" s_Machine_init f_Machine_init d_Machine_init
  b_Machine_init : L2.Binds K d_Machine_init ["self", "facts", "step", "gain", "leave"] []
  f_Carry_init : Addr
  d_Carry_init : FuncData
  F_Carry_init : Fun K "__init__" "Carry.__init__" s_Carry_init f_Carry_init d_Carry_init
  b_Carry_init : L2.Binds K d_Carry_init ["self", "to", "cost"] []
  f__law_cell : Addr
  d__law_cell : FuncData
  F__law_cell : Fun K "_law_cell" "_law_cell" s__law_cell f__law_cell d__law_cell
  b__law_cell : L2.Binds K d__law_cell ["_law_script", "_law_k"] []
  m__law_cell : mg "_law_cell" = some (.ref f__law_cell)
  k__law_cell : PySem.W.keepIn K (.ref f__law_cell) = true
  f__law_row : Addr
  d__law_row : FuncData
  F__law_row : Fun K "_law_row" "_law_row" s__law_row f__law_row d__law_row
  b__law_row : L2.Binds K d__law_row ["_law_cell_here", "_law_k", "_law_many"] []
  m__law_row : mg "_law_row" = some (.ref f__law_row)
  k__law_row : PySem.W.keepIn K (.ref f__law_row) = true
  f__law_box : Addr
  d__law_box : FuncData
  F__law_box : Fun K "_law_box" "_law_box" s__law_box f__law_box d__law_box
  b__law_box : L2.Binds K d__law_box ["_law_script", "_law_first", "_law_last"] []
  m__law_box : mg "_law_box" = some (.ref f__law_box)
  k__law_box : PySem.W.keepIn K (.ref f__law_box) = true
  f__law_draw : Addr
  d__law_draw : FuncData
  F__law_draw : Fun K "_law_draw" "_law_draw" s__law_draw f__law_draw d__law_draw
  b__law_draw : L2.Binds K d__law_draw ["_law_box_here", "_law_many"] []
  m__law_draw : mg "_law_draw" = some (.ref f__law_draw)
  k__law_draw : PySem.W.keepIn K (.ref f__law_draw) = true
  f__law_same : Addr
  d__law_same : FuncData
  F__law_same : Fun K "_law_same" "_law_same" s__law_same f__law_same d__law_same
  b__law_same : L2.Binds K d__law_same ["_law_one", "_law_other"] []
  m__law_same : mg "_law_same" = some (.ref f__law_same)
  k__law_same : PySem.W.keepIn K (.ref f__law_same) = true
  f__law_facts : Addr
  d__law_facts : FuncData
  F__law_facts : Fun K "_law_facts" "_law_facts" s__law_facts f__law_facts d__law_facts
  b__law_facts : L2.Binds K d__law_facts ["_law_box_here"] []
  m__law_facts : mg "_law_facts" = some (.ref f__law_facts)
  k__law_facts : PySem.W.keepIn K (.ref f__law_facts) = true
  f__law_machine : Addr
  d__law_machine : FuncData
  F__law_machine : Fun K "_law_machine" "_law_machine" s__law_machine f__law_machine d__law_machine
  b__law_machine : L2.Binds K d__law_machine ["_law_box_here", "_law_facts_here", "_law_most"] []
  m__law_machine : mg "_law_machine" = some (.ref f__law_machine)
  k__law_machine : PySem.W.keepIn K (.ref f__law_machine) = true
  f__law_schemes : Addr
  d__law_schemes : FuncData
  F__law_schemes : Fun K "_law_schemes" "_law_schemes" s__law_schemes f__law_schemes d__law_schemes
  b__law_schemes : L2.Binds K d__law_schemes ["_law_box_here", "_law_most"] []
  m__law_schemes : mg "_law_schemes" = some (.ref f__law_schemes)
  k__law_schemes : PySem.W.keepIn K (.ref f__law_schemes) = true
  f__law_carries : Addr
  d__law_carries : FuncData
  F__law_carries : Fun K "_law_carries" "_law_carries" s__law_carries f__law_carries d__law_carries
  b__law_carries : L2.Binds K d__law_carries ["_law_plain"] []
  m__law_carries : mg "_law_carries" = some (.ref f__law_carries)
  k__law_carries : PySem.W.keepIn K (.ref f__law_carries) = true
  f__law_year : Addr
  d__law_year : FuncData
  F__law_year : Fun K "_law_year" "_law_year" s__law_year f__law_year d__law_year
  b__law_year : L2.Binds K d__law_year ["_law_account", "_law_fact"] []
  m__law_year : mg "_law_year" = some (.ref f__law_year)
  k__law_year : PySem.W.keepIn K (.ref f__law_year) = true
  f__law_move : Addr
  d__law_move : FuncData
  F__law_move : Fun K "_law_move" "_law_move" s__law_move f__law_move d__law_move
  b__law_move : L2.Binds K d__law_move ["_law_account", "_law_other"] []
  m__law_move : mg "_law_move" = some (.ref f__law_move)
  k__law_move : PySem.W.keepIn K (.ref f__law_move) = true
  f__law_done : Addr
  d__law_done : FuncData
  F__law_done : Fun K "_law_done" "_law_done" s__law_done f__law_done d__law_done
  b__law_done : L2.Binds K d__law_done ["_law_schemes_here", "_law_plain", "_law_past", "_law_deeds", "_law_deed_here"] []
  m__law_done : mg "_law_done" = some (.ref f__law_done)
  k__law_done : PySem.W.keepIn K (.ref f__law_done) = true
  f__law_deed : Addr
  d__law_deed : FuncData
  F__law_deed : Fun K "_law_deed" "_law_deed" s__law_deed f__law_deed d__law_deed
  b__law_deed : L2.Binds K d__law_deed ["_law_box_here", "_law_schemes_here"] []
  m__law_deed : mg "_law_deed" = some (.ref f__law_deed)
  k__law_deed : PySem.W.keepIn K (.ref f__law_deed) = true
  f__law_told : Addr
  d__law_told : FuncData
  F__law_told : Fun K "_law_told" "_law_told" s__law_told f__law_told d__law_told
  b__law_told : L2.Binds K d__law_told ["_law_account", "_law_deed_here"] []
  m__law_told : mg "_law_told" = some (.ref f__law_told)
  k__law_told : PySem.W.keepIn K (.ref f__law_told) = true
  f__law_alike : Addr
  d__law_alike : FuncData
  F__law_alike : Fun K "_law_alike" "_law_alike" s__law_alike f__law_alike d__law_alike
  b__law_alike : L2.Binds K d__law_alike ["_law_account", "_law_schemes_here", "_law_past", "_law_deeds"] []
  m__law_alike : mg "_law_alike" = some (.ref f__law_alike)
  k__law_alike : PySem.W.keepIn K (.ref f__law_alike) = true
  f_law : Addr
  d_law : FuncData
  F_law : Fun K "law" "law" s_law f_law d_law
  b_law : L2.Binds K d_law ["_law_script"] []
  m_law : mg "law" = some (.ref f_law)
  k_law : PySem.W.keepIn K (.ref f_law) = true
  C_Account : Addr
  M_Account : mg "Account" = some (.ref C_Account)
  L_Account : Cls K C_Account
  mk_Account : Mk K C_Account f_Account_init
  C_Carry : Addr
  M_Carry : mg "Carry" = some (.ref C_Carry)
  L_Carry : Cls K C_Carry
  mk_Carry : Mk K C_Carry f_Carry_init
  C_Machine : Addr
  M_Machine : mg "Machine" = some (.ref C_Machine)
  L_Machine : Cls K C_Machine
  mk_Machine : Mk K C_Machine f_Machine_init
  C_MovedyearsError : Addr
  M_MovedyearsError : mg "MovedyearsError" = some (.ref C_MovedyearsError)
  ex_MovedyearsError : PySem.W.excIn K C_MovedyearsError [.type "ValueError", .type "Exception", .type "BaseException", .type "object"] "ValueError.__new__" = true
  kp_MovedyearsError : PySem.W.keepIn K (.ref C_MovedyearsError) = true
  sb_MovedyearsError : PySem.W.subIn K (.ref C_MovedyearsError) (.type "BaseException") = some true
  ty_MovedyearsError : PySem.W.typeIn K (.ref C_MovedyearsError) = some (.type "type")
  em_MovedyearsError : PySem.W.exmOne K (.ref C_MovedyearsError) (.ref C_MovedyearsError) = some true
  es_UnknownFact_MovedyearsError : PySem.W.exmOne K (.ref C_UnknownFact) (.ref C_MovedyearsError) = some true
  es_NoCarry_MovedyearsError : PySem.W.exmOne K (.ref C_NoCarry) (.ref C_MovedyearsError) = some true
  na_Account_carries : NoAttr K C_Account "carries"
  na_Account_deeds : NoAttr K C_Account "deeds"
  na_Account_past : NoAttr K C_Account "past"
  na_Account_schemes : NoAttr K C_Account "schemes"
  na_Carry_cost : NoAttr K C_Carry "cost"
  na_Carry_to : NoAttr K C_Carry "to"
  na_Machine_facts : NoAttr K C_Machine "facts"
  na_Machine_gain : NoAttr K C_Machine "gain"
  na_Machine_leave : NoAttr K C_Machine "leave"
  na_Machine_step : NoAttr K C_Machine "step"
  me_Account_branch : Meth K C_Account "branch" f_Account_branch
  me_Account_move : Meth K C_Account "move" f_Account_move
  me_Account_paid : Meth K C_Account "paid" f_Account_paid
  me_Account_scheme : Meth K C_Account "scheme" f_Account_scheme
  me_Account_state : Meth K C_Account "state" f_Account_state
  me_Account_undo : Meth K C_Account "undo" f_Account_undo
  me_Account_worth : Meth K C_Account "worth" f_Account_worth
  me_Account_year : Meth K C_Account "year" f_Account_year
  z_dict : mg "dict" = none
  z_int : mg "int" = none
  z_len : mg "len" = none
  z_list : mg "list" = none
  z_range : mg "range" = none
  z_repr : mg "repr" = none
section
variable {P : Program} {w : World} {K : PySem.W.Frag} {mg : Str → Option Value} {base : Heap}
theorem okq_UnknownFact_init (T : Txt P K mg) : FnQ P w K mg base 1 T.f_UnknownFact_init T.d_UnknownFact_init ["self", "fact"] (spXI K T.C_UnknownFact ["fact"]) :=
  FunS.okQ (k := 0) (parts := [.inl "there is no fact ", .inr 1]) T.F_UnknownFact_init sc_UnknownFact_init rfl (fun _ => rfl) (fun _ => ⟨_, rfl⟩) (fun _ => rfl) (by decide) (by decide) (by decide +kernel) (by decide) fun cdv A outer s H => ⟨pe_joined (.cons (pe_str) (.cons (pe_fmt (pv 1)) .nil)), (pss_cons (ps_ost (pv 0) (pv 1)) pss_nil)⟩
theorem ok_UnknownFact_init (T : Txt P K mg) : FnOk P w K mg base CX0 1 T.f_UnknownFact_init T.d_UnknownFact_init ["self", "fact"] (spXI K T.C_UnknownFact ["fact"]) := (okq_UnknownFact_init T).ok
theorem okq_NoCarry_init (T : Txt P K mg) : FnQ P w K mg base 1 T.f_NoCarry_init T.d_NoCarry_init ["self", "scheme", "other"] (spXI K T.C_NoCarry ["scheme", "other"]) :=
  FunS.okQ (k := 0) (parts := [.inl "nobody moves from ", .inr 1, .inl " to ", .inr 2]) T.F_NoCarry_init sc_NoCarry_init rfl (fun _ => rfl) (fun _ => ⟨_, rfl⟩) (fun _ => rfl) (by decide) (by decide) (by decide +kernel) (by decide) fun cdv A outer s H => ⟨pe_joined (.cons (pe_str) (.cons (pe_fmt (pv 1)) (.cons (pe_str) (.cons (pe_fmt (pv 2)) .nil)))), (pss_cons (ps_ost (pv 0) (pv 1)) (pss_cons (ps_ost (pv 0) (pv 2)) pss_nil))⟩
theorem ok_NoCarry_init (T : Txt P K mg) : FnOk P w K mg base CX0 1 T.f_NoCarry_init T.d_NoCarry_init ["self", "scheme", "other"] (spXI K T.C_NoCarry ["scheme", "other"]) := (okq_NoCarry_init T).ok
theorem ok_Account_init (T : Txt P K mg) : FnOk P w K mg base CX0 1 T.f_Account_init T.d_Account_init ["self", "schemes", "carries"] (spG ⟨K, mg⟩ wf_Account_init) :=
  fun_okC T.F_Account_init sc_Account_init 0 3 [3, 4, 5] rfl len_Account_init fun cdv A outer s H E hr => ⟨_, w_Account_init, (dss_cons (ds_setC 3 T.M_Account T.L_Account T.na_Account_schemes (de_var 0) (DE.dx (de_t1 call_list_of ro1_list (by rfl) T.z_list (by decide +kernel) (dp_var 1))))
 (dss_cons (ds_setC 3 T.M_Account T.L_Account T.na_Account_carries (de_var 0) (DE.dx (de_t1 (call_dictC (hu65 hr)) ro1_dictC (by rfl) T.z_dict (by decide +kernel) (dp_var 2))))
 (dss_cons (ds_setC 3 T.M_Account T.L_Account T.na_Account_deeds (de_var 0) (DE.dx (de_new 4 (df_lst da_nil))))
 (dss_one (ds_setC 3 T.M_Account T.L_Account T.na_Account_past (de_var 0) (DE.dx (de_new 5 (df_lst (da_cons (de_tup (da_cons de_int (da_cons de_int (da_cons de_int da_nil)))) da_nil))))))))), p_Account_init⟩
theorem ok_Account_scheme (T : Txt P K mg) : FnOk P w K mg base CX0 1 T.f_Account_scheme T.d_Account_scheme ["self"] (spG ⟨K, mg⟩ wf_Account_scheme) :=
  fun_okC T.F_Account_scheme sc_Account_scheme 0 3 [1, 2, 3] rfl len_Account_scheme fun cdv A outer s H E hr => ⟨_, w_Account_scheme, (dss_one (ds_ret (de_ix (hu_of hr) (DE.dp (de_ix (hu_of hr) (dp_der 3 (de_fld T.M_Account T.L_Account T.na_Account_past (dp_der 1 (de_var 0)))) (DE.dp (de_un un_neg ro1_dNeg (DE.dp de_int))) (fun _ _ => rfl))) (DE.dp de_int) (fun _ _ => rfl)))), p_Account_scheme⟩
theorem ok_Account_state (T : Txt P K mg) : FnOk P w K mg base CX0 1 T.f_Account_state T.d_Account_state ["self"] (spG ⟨K, mg⟩ wf_Account_state) :=
  fun_okC T.F_Account_state sc_Account_state 0 3 [1, 2, 3] rfl len_Account_state fun cdv A outer s H E hr => ⟨_, w_Account_state, (dss_one (ds_ret (de_ix (hu_of hr) (DE.dp (de_ix (hu_of hr) (dp_der 3 (de_fld T.M_Account T.L_Account T.na_Account_past (dp_der 1 (de_var 0)))) (DE.dp (de_un un_neg ro1_dNeg (DE.dp de_int))) (fun _ _ => rfl))) (DE.dp de_int) (fun _ _ => rfl)))), p_Account_state⟩
theorem ok_Account_paid (T : Txt P K mg) : FnOk P w K mg base CX0 1 T.f_Account_paid T.d_Account_paid ["self"] (spG ⟨K, mg⟩ wf_Account_paid) :=
  fun_okC T.F_Account_paid sc_Account_paid 0 3 [1, 2, 3] rfl len_Account_paid fun cdv A outer s H E hr => ⟨_, w_Account_paid, (dss_one (ds_ret (de_ix (hu_of hr) (DE.dp (de_ix (hu_of hr) (dp_der 3 (de_fld T.M_Account T.L_Account T.na_Account_past (dp_der 1 (de_var 0)))) (DE.dp (de_un un_neg ro1_dNeg (DE.dp de_int))) (fun _ _ => rfl))) (DE.dp de_int) (fun _ _ => rfl)))), p_Account_paid⟩
theorem ok_Account_worth (T : Txt P K mg) : FnOk P w K mg base CX0 1 T.f_Account_worth T.d_Account_worth ["self"] (spG ⟨K, mg⟩ wf_Account_worth) :=
  fun_okC T.F_Account_worth sc_Account_worth 3 3 [4, 5, 6] rfl len_Account_worth fun cdv A outer s H E hr => ⟨_, w_Account_worth, (dss_cons (ds_asg (de_ix (hu_of hr) (dp_der 6 (de_fld T.M_Account T.L_Account T.na_Account_past (dp_der 4 (de_var 0)))) (DE.dp (de_un un_neg ro1_dNeg (DE.dp de_int))) (fun _ _ => rfl)) (dg_tup [1, 2, 3] rfl (gs_cons (i := 1) sc_Account_worth.nd rfl (by first | exact Or.inl rfl | exact Or.inr rfl) (gs_cons (i := 2) sc_Account_worth.nd rfl (by first | exact Or.inl rfl | exact Or.inr rfl) (gs_cons (i := 3) sc_Account_worth.nd rfl (by first | exact Or.inl rfl | exact Or.inr rfl) gs_nil)))))
 (dss_one (ds_ret (de_op op_addU rop_add (dp_var 3) (DE.dp (de_ix (hu_of hr) (DE.dp (de_fld T.M_Machine T.L_Machine T.na_Machine_leave (DE.dp (de_ix (hu_of hr) (DE.dp (de_fld T.M_Account T.L_Account T.na_Account_schemes (dp_der 4 (de_var 0)))) (dp_var 1) (fun _ _ => rfl))))) (dp_var 2) (fun _ _ => rfl))))))), p_Account_worth⟩
theorem ok_Account_year (T : Txt P K mg) : FnOk P w K mg base (L2.CX P w) 3 T.f_Account_year T.d_Account_year ["self", "fact"] (spGX ⟨K, mg⟩ wf_Account_year) :=
  fun_okCX T.F_Account_year sc_Account_year 5 3 [7, 8, 9] rfl len_Account_year w_Account_year (fun cdv A outer s F M H E EX hcd hr hE => (letI := Lk.from F M; ⟨_, (dss_cons (ds_asg (de_ix (hu_of hr) (dp_der 9 (de_fld T.M_Account T.L_Account T.na_Account_past (dp_der 7 (de_var 0)))) (DE.dp (de_un un_neg ro1_dNeg (DE.dp de_int))) (fun _ _ => rfl)) (dg_tup [2, 3, 4] rfl (gs_cons (i := 2) sc_Account_year.nd rfl (by first | exact Or.inl rfl | exact Or.inr rfl) (gs_cons (i := 3) sc_Account_year.nd rfl (by first | exact Or.inl rfl | exact Or.inr rfl) (gs_cons (i := 4) sc_Account_year.nd rfl (by first | exact Or.inl rfl | exact Or.inr rfl) gs_nil)))))
 (dss_cons (ds_set (i := 5) sc_Account_year.nd rfl (by first | exact Or.inl rfl | exact Or.inr rfl) (de_ix (hu_of hr) (DE.dp (de_fld T.M_Account T.L_Account T.na_Account_schemes (dp_der 7 (de_var 0)))) (dp_var 2) (fun _ _ => rfl)))
 (dss_cons (ds_if (dt_cmp (op_notInU (hu65 hr)) rop_notIn (dp_var 1) (DE.dp (de_fld T.M_Machine T.L_Machine T.na_Machine_facts (dp_var 5))) (by rfl)) (dss_one (ds_raiseC rfl (takes_of rfl rfl rfl rfl) T.sup_UnknownFact (by decide) (by decide) T.nf_UnknownFact T.iC_UnknownFact T.tI_UnknownFact (ok_UnknownFact_init T) (hr.mono (by decide)) T.b_UnknownFact_init (by rfl) T.M_UnknownFact hE (da_cons (de_var 1) da_nil))) dss_nil)
 (dss_cons (ds_set (i := 6) sc_Account_year.nd rfl (by first | exact Or.inl rfl | exact Or.inr rfl) (de_ix (hu_of hr) (DE.dp (de_ix (hu_of hr) (DE.dp (de_fld T.M_Machine T.L_Machine T.na_Machine_gain (dp_var 5))) (dp_var 3) (fun _ _ => rfl))) (dp_var 1) (fun _ _ => rfl)))
 (dss_cons (ds_appC 9 (de_fld T.M_Account T.L_Account T.na_Account_past (dp_der 7 (de_var 0))) (DE.dx (de_tup (da_cons (de_var 2) (da_cons (de_ix (hu_of hr) (DE.dp (de_ix (hu_of hr) (DE.dp (de_fld T.M_Machine T.L_Machine T.na_Machine_step (dp_var 5))) (dp_var 3) (fun _ _ => rfl))) (dp_var 1) (fun _ _ => rfl)) (da_cons (de_op op_addU rop_add (dp_var 4) (dp_var 6)) da_nil))))))
 (dss_cons (ds_appC 8 (de_fld T.M_Account T.L_Account T.na_Account_deeds (dp_der 7 (de_var 0))) (DE.dx (de_tup (da_cons de_str (da_cons (de_var 1) da_nil)))))
 (dss_one (ds_ret (de_var 6)))))))))⟩)) p_Account_year
theorem ok_Account_move (T : Txt P K mg) : FnOk P w K mg base (L2.CX P w) 3 T.f_Account_move T.d_Account_move ["self", "other"] (spGX ⟨K, mg⟩ wf_Account_move) :=
  fun_okCX T.F_Account_move sc_Account_move 4 3 [6, 7, 8] rfl len_Account_move w_Account_move (fun cdv A outer s F M H E EX hcd hr hE => (letI := Lk.from F M; ⟨_, (dss_cons (ds_asg (de_ix (hu_of hr) (dp_der 8 (de_fld T.M_Account T.L_Account T.na_Account_past (dp_der 6 (de_var 0)))) (DE.dp (de_un un_neg ro1_dNeg (DE.dp de_int))) (fun _ _ => rfl)) (dg_tup [2, 3, 4] rfl (gs_cons (i := 2) sc_Account_move.nd rfl (by first | exact Or.inl rfl | exact Or.inr rfl) (gs_cons (i := 3) sc_Account_move.nd rfl (by first | exact Or.inl rfl | exact Or.inr rfl) (gs_cons (i := 4) sc_Account_move.nd rfl (by first | exact Or.inl rfl | exact Or.inr rfl) gs_nil)))))
 (dss_cons (ds_if (dt_cmp (op_notInU (hu65 hr)) rop_notIn (DE.dp (de_tup (da_cons (de_var 2) (da_cons (de_var 1) da_nil)))) (DE.dp (de_fld T.M_Account T.L_Account T.na_Account_carries (dp_der 6 (de_var 0)))) (by rfl)) (dss_one (ds_raiseC rfl (takes_of rfl rfl rfl rfl) T.sup_NoCarry (by decide) (by decide) T.nf_NoCarry T.iC_NoCarry T.tI_NoCarry (ok_NoCarry_init T) (hr.mono (by decide)) T.b_NoCarry_init (by rfl) T.M_NoCarry hE (da_cons (de_var 2) (da_cons (de_var 1) da_nil)))) dss_nil)
 (dss_cons (ds_set (i := 5) sc_Account_move.nd rfl (by first | exact Or.inl rfl | exact Or.inr rfl) (de_ix (hu_of hr) (DE.dp (de_fld T.M_Account T.L_Account T.na_Account_carries (dp_der 6 (de_var 0)))) (DE.dp (de_tup (da_cons (de_var 2) (da_cons (de_var 1) da_nil)))) (fun _ _ => rfl)))
 (dss_cons (ds_appC 8 (de_fld T.M_Account T.L_Account T.na_Account_past (dp_der 6 (de_var 0))) (DE.dx (de_tup (da_cons (de_var 1) (da_cons (de_ix (hu_of hr) (DE.dp (de_fld T.M_Carry T.L_Carry T.na_Carry_to (dp_var 5))) (dp_var 3) (fun _ _ => rfl)) (da_cons (de_op op_sub rop_sub (dp_var 4) (DE.dp (de_ix (hu_of hr) (DE.dp (de_fld T.M_Carry T.L_Carry T.na_Carry_cost (dp_var 5))) (dp_var 3) (fun _ _ => rfl)))) da_nil))))))
 (dss_cons (ds_appC 7 (de_fld T.M_Account T.L_Account T.na_Account_deeds (dp_der 6 (de_var 0))) (DE.dx (de_tup (da_cons de_str (da_cons (de_var 1) da_nil)))))
 (dss_one (ds_ret (de_ix (hu_of hr) (DE.dp (de_fld T.M_Carry T.L_Carry T.na_Carry_cost (dp_var 5))) (dp_var 3) (fun _ _ => rfl)))))))))⟩)) p_Account_move
theorem ok_Account_undo (T : Txt P K mg) : FnOk P w K mg base CX0 1 T.f_Account_undo T.d_Account_undo ["self"] (spG ⟨K, mg⟩ wf_Account_undo) :=
  fun_okC T.F_Account_undo sc_Account_undo 0 3 [1, 2, 3] rfl len_Account_undo fun cdv A outer s H E hr => ⟨_, w_Account_undo, (dss_cons (ds_if (dt_not (dt_truth (dp_der 2 (de_fld T.M_Account T.L_Account T.na_Account_deeds (dp_der 1 (de_var 0)))) (fun _ => rfl))) (dss_one (ds_ret de_bl)) dss_nil)
 (dss_cons (dsx_expr (dx_popC 2 (de_fld T.M_Account T.L_Account T.na_Account_deeds (dp_der 1 (de_var 0)))))
 (dss_cons (dsx_expr (dx_popC 3 (de_fld T.M_Account T.L_Account T.na_Account_past (dp_der 1 (de_var 0)))))
 (dss_one (ds_ret de_bl))))), p_Account_undo⟩
theorem ok_Account_branch (T : Txt P K mg) : FnOk P w K mg base CX0 3 T.f_Account_branch T.d_Account_branch ["self"] (spG ⟨K, mg⟩ wf_Account_branch) :=
  fun_okC T.F_Account_branch sc_Account_branch 1 8 [2, 3, 4, 5, 8, 9] rfl len_Account_branch fun cdv A outer s H E hr => ⟨_, w_Account_branch, (dss_cons (dsx_set (i := 1) sc_Account_branch.nd rfl (by first | exact Or.inl rfl | exact Or.inr rfl) (dx_makeC [] [5, 6, 7] T.mk_Account (ok_Account_init T) (hr.mono (by decide)) (by rfl) T.M_Account T.b_Account_init (dxa_cons (DE.dx (de_fld T.M_Account T.L_Account T.na_Account_schemes (dp_der 2 (de_var 0)))) (dxa_cons (DE.dx (de_fld T.M_Account T.L_Account T.na_Account_carries (dp_der 2 (de_var 0)))) dxa_nil))))
 (dss_cons (ds_setC 5 T.M_Account T.L_Account T.na_Account_deeds (de_var 1) (DE.dx (de_new 8 (df_list call_list_of (fun v H Q p ys e h q => ⟨p, ys, by rw [e], h, q⟩) (by rfl) T.z_list (by decide +kernel) (dp_der 3 (de_fld T.M_Account T.L_Account T.na_Account_deeds (dp_der 2 (de_var 0))))))))
 (dss_cons (ds_setC 5 T.M_Account T.L_Account T.na_Account_past (de_var 1) (DE.dx (de_new 9 (df_list call_list_of (fun v H Q p ys e h q => ⟨p, ys, by rw [e], h, q⟩) (by rfl) T.z_list (by decide +kernel) (dp_der 4 (de_fld T.M_Account T.L_Account T.na_Account_past (dp_der 2 (de_var 0))))))))
 (dss_one (ds_ret (de_var 1)))))), p_Account_branch⟩
theorem ok_Machine_init (T : Txt P K mg) : FnOk P w K mg base CX0 1 T.f_Machine_init T.d_Machine_init ["self", "facts", "step", "gain", "leave"] (spO ⟨K, mg⟩ wf_Machine_init) :=
  fun_okO T.F_Machine_init sc_Machine_init len_Machine_init fun cdv A outer s H E hr => ⟨_, w_Machine_init, (dss_cons (ds_fldN 0 T.M_Machine T.L_Machine T.na_Machine_facts (de_t1 call_list_of ro1_list (by rfl) T.z_list (by decide +kernel) (dp_var 1)))
 (dss_cons (ds_fldN 0 T.M_Machine T.L_Machine T.na_Machine_step (DF.de (df_lc (own := [("row", 5)]) rfl sc_Machine_init.nd (di_list (de_var 2)) (blkOk_by (own := [("row", 5)]) (N := N_Machine_init) (sc := defScope s_Machine_init) (by decide +kernel)) (dg_name (i := 5) sc_Machine_init.nd rfl (by first | exact Or.inl rfl | exact Or.inr rfl)) dts_nil (de_t1 (call_dictU rfl) ro1_dict (by rfl) T.z_dict (by decide +kernel) (dp_var 5)) (fun _ _ _ _ _ => (dg_name (i := 5) sc_Machine_init.nd rfl (by first | exact Or.inl rfl | exact Or.inr rfl))) (fun _ _ _ _ _ => dts_nil) (fun _ _ _ _ _ => (de_t1 (call_dictU rfl) ro1_dict (by rfl) T.z_dict (by decide +kernel) (dp_var 5))))))
 (dss_cons (ds_fldN 0 T.M_Machine T.L_Machine T.na_Machine_gain (DF.de (df_lc (own := [("row", 5)]) rfl sc_Machine_init.nd (di_list (de_var 3)) (blkOk_by (own := [("row", 5)]) (N := N_Machine_init) (sc := defScope s_Machine_init) (by decide +kernel)) (dg_name (i := 5) sc_Machine_init.nd rfl (by first | exact Or.inl rfl | exact Or.inr rfl)) dts_nil (de_t1 (call_dictU rfl) ro1_dict (by rfl) T.z_dict (by decide +kernel) (dp_var 5)) (fun _ _ _ _ _ => (dg_name (i := 5) sc_Machine_init.nd rfl (by first | exact Or.inl rfl | exact Or.inr rfl))) (fun _ _ _ _ _ => dts_nil) (fun _ _ _ _ _ => (de_t1 (call_dictU rfl) ro1_dict (by rfl) T.z_dict (by decide +kernel) (dp_var 5))))))
 (dss_one (ds_fldN 0 T.M_Machine T.L_Machine T.na_Machine_leave (de_t1 call_list_of ro1_list (by rfl) T.z_list (by decide +kernel) (dp_var 4))))))), p_Machine_init⟩
theorem ok_Carry_init (T : Txt P K mg) : FnOk P w K mg base CX0 1 T.f_Carry_init T.d_Carry_init ["self", "to", "cost"] (spO ⟨K, mg⟩ wf_Carry_init) :=
  fun_okO T.F_Carry_init sc_Carry_init len_Carry_init fun cdv A outer s H E hr => ⟨_, w_Carry_init, (dss_cons (ds_fldN 0 T.M_Carry T.L_Carry T.na_Carry_to (de_t1 call_list_of ro1_list (by rfl) T.z_list (by decide +kernel) (dp_var 1)))
 (dss_one (ds_fldN 0 T.M_Carry T.L_Carry T.na_Carry_cost (de_t1 call_list_of ro1_list (by rfl) T.z_list (by decide +kernel) (dp_var 2))))), p_Carry_init⟩
theorem ok__law_cell (T : Txt P K mg) : FnOk P w K mg base CX0 1 T.f__law_cell T.d__law_cell ["_law_script", "_law_k"] (spF ⟨K, mg⟩ wf__law_cell) :=
  fun_okD T.F__law_cell sc__law_cell len__law_cell fun cdv A outer s H E hr => ⟨_, w__law_cell, (dss_cons (ds_if (dt_cmp op_lt rop_lt (dp_var 1) (DE.dp (de_b1 call_lenU ro1_len (by rfl) T.z_len (by decide +kernel) (dp_var 0))) (nomark _)) (dss_one (ds_ret (de_ix (hu_of hr) (dp_var 0) (dp_var 1) (fun _ _ => rfl)))) dss_nil)
 (dss_one (ds_ret de_int))), p__law_cell⟩
theorem ok__law_row (T : Txt P K mg) : FnOk P w K mg base CX0 1 T.f__law_row T.d__law_row ["_law_cell_here", "_law_k", "_law_many"] (spF ⟨K, mg⟩ wf__law_row) :=
  fun_okD T.F__law_row sc__law_row len__law_row fun cdv A outer s H E hr => ⟨_, w__law_row, (dss_cons (ds_setO (i := 3) sc__law_row.nd rfl (by first | exact Or.inl rfl | exact Or.inr rfl) (df_lst da_nil))
 (dss_cons (ds_if (dt_cmp op_lt rop_lt (dp_var 0) (DE.dp de_int) (nomark _)) (dss_one (ds_set (i := 0) sc__law_row.nd rfl (by first | exact Or.inl rfl | exact Or.inr rfl) (de_op op_sub rop_sub (DE.dp de_int) (DE.dp (de_op op_mul rop_mul (DE.dp de_int) (dp_var 0)))))) dss_nil)
 (dss_cons (ds_if (dt_cmp op_ge rop_ge (dp_var 0) (DE.dp (de_op op_pow rop_pow (DE.dp de_int) (DE.dp de_int))) (nomark _)) (dss_cons (ds_for PassesOwn.never rfl (di_range1 (by rfl) T.z_range (da_cons de_int da_nil)) (dg_name (i := 4) sc__law_row.nd rfl (by first | exact Or.inl rfl | exact Or.inr rfl)) (dss_one (ds_if (DWt.dt (dw_and (dt_cmp op_gt rop_gt (dp_var 0) (DE.dp de_int) (nomark _)) (dw_and1 (dt_cmp op_lt rop_lt (DE.dp (de_b1 call_lenU ro1_len (by rfl) T.z_len (by decide +kernel) (dp_var 3))) (dp_var 2) (nomark _))))) (dss_cons (ds_append (i := 3) (de_op op_mod rop_mod (DE.dp (de_t1 call_int1 ro1_int (by rfl) T.z_int (by decide +kernel) (dp_var 0))) (DE.dp de_int)))
 (dss_one (ds_set (i := 0) sc__law_row.nd rfl (by first | exact Or.inl rfl | exact Or.inr rfl) (de_op op_fdiv rop_fdiv (dp_var 0) (DE.dp de_int))))) dss_nil)))
 (dss_one (ds_ret (de_var 3)))) dss_nil)
 (dss_cons (ds_set (i := 5) sc__law_row.nd rfl (by first | exact Or.inl rfl | exact Or.inr rfl) (de_op op_mod rop_mod (DE.dp (de_t1 call_int1 ro1_int (by rfl) T.z_int (by decide +kernel) (DE.dp (de_op op_addU rop_add (DE.dp (de_op op_addU rop_add (DE.dp (de_op op_mul rop_mul (dp_var 0) (DE.dp de_int))) (DE.dp (de_op op_mul rop_mul (dp_var 1) (DE.dp de_int))))) (DE.dp de_int))))) (DE.dp de_int)))
 (dss_cons (ds_for PassesOwn.never rfl (di_range1 (by rfl) T.z_range (da_cons (de_var 2) da_nil)) (dg_name (i := 4) sc__law_row.nd rfl (by first | exact Or.inl rfl | exact Or.inr rfl)) (dss_cons (ds_set (i := 5) sc__law_row.nd rfl (by first | exact Or.inl rfl | exact Or.inr rfl) (de_op op_mod rop_mod (DE.dp (de_t1 call_int1 ro1_int (by rfl) T.z_int (by decide +kernel) (DE.dp (de_op op_addU rop_add (DE.dp (de_op op_addU rop_add (DE.dp (de_op op_mul rop_mul (dp_var 5) (DE.dp de_int))) (DE.dp (de_op op_mul rop_mul (DE.dp de_int) (dp_var 4))))) (DE.dp de_int))))) (DE.dp de_int)))
 (dss_one (ds_append (i := 3) (de_op op_mod rop_mod (DE.dp (de_t1 call_int1 ro1_int (by rfl) T.z_int (by decide +kernel) (DE.dp (de_op op_fdiv rop_fdiv (dp_var 5) (DE.dp de_int))))) (DE.dp de_int))))))
 (dss_one (ds_ret (de_var 3)))))))), p__law_row⟩
theorem ok__law_box (T : Txt P K mg) : FnOk P w K mg base CX0 2 T.f__law_box T.d__law_box ["_law_script", "_law_first", "_law_last"] (spF ⟨K, mg⟩ wf__law_box) :=
  fun_okD T.F__law_box sc__law_box len__law_box fun cdv A outer s H E hr => ⟨_, w__law_box, (dss_cons (ds_set (i := 3) sc__law_box.nd rfl (by first | exact Or.inl rfl | exact Or.inr rfl) (DF.de (df_lst da_nil)))
 (dss_cons (ds_for PassesOwn.never rfl (di_range2 (by rfl) T.z_range (da_cons (de_var 1) (da_cons (de_var 2) da_nil))) (dg_name (i := 4) sc__law_box.nd rfl (by first | exact Or.inl rfl | exact Or.inr rfl)) (dss_one (ds_set (i := 3) sc__law_box.nd rfl (by first | exact Or.inl rfl | exact Or.inr rfl) (de_op op_addU rop_add (dp_var 3) (DE.dp (de_call (ok__law_row T) (hr.mono (by decide)) (by rfl) T.m__law_row T.k__law_row T.b__law_row (das_cons (de_call (ok__law_cell T) (hr.mono (by decide)) (by rfl) T.m__law_cell T.k__law_cell T.b__law_cell (das_cons (de_var 0) (das_cons (de_var 4) das_nil))) (das_cons (de_var 4) (das_cons de_int das_nil)))))))))
 (dss_one (ds_ret (DF.de (df_lst (da_cons (de_var 3) (da_cons de_int da_nil)))))))), p__law_box⟩
theorem ok__law_draw (T : Txt P K mg) : FnOk P w K mg base CX0 1 T.f__law_draw T.d__law_draw ["_law_box_here", "_law_many"] (spF ⟨K, mg⟩ wf__law_draw) :=
  fun_okD T.F__law_draw sc__law_draw len__law_draw fun cdv A outer s H E hr => ⟨_, w__law_draw, (dss_cons (ds_set (i := 2) sc__law_draw.nd rfl (by first | exact Or.inl rfl | exact Or.inr rfl) (de_bx1 0 (hu_of hr)))
 (dss_cons (ds_bxPut 0 (de_op op_addU rop_add (dp_var 2) (DE.dp de_int)))
 (dss_cons (ds_drawIf 0 2 1 (ds_if (dt_cmp op_lt rop_lt (dp_var 2) (DE.dp (de_b1 call_lenU ro1_len (by rfl) T.z_len (by decide +kernel) (DE.dp (de_bx0 0 (hu_of hr))))) (nomark _)) (dss_one (ds_ret (de_op op_mod rop_mod (DE.dp (de_t1 call_int1 ro1_int (by rfl) T.z_int (by decide +kernel) (DE.dp (de_ix (hu_of hr) (DE.dp (de_bx0 0 (hu_of hr))) (dp_var 2) (fun _ _ => rfl))))) (dp_var 1)))) dss_nil))
 (dss_one (ds_ret (de_op op_mod rop_mod (DE.dp (de_t1 call_int1 ro1_int (by rfl) T.z_int (by decide +kernel) (DE.dp (de_op op_addU rop_add (DE.dp (de_op op_mul rop_mul (dp_var 2) (DE.dp de_int))) (DE.dp de_int))))) (dp_var 1))))))), p__law_draw⟩
theorem ok__law_same (T : Txt P K mg) : FnG P w K mg base 1 T.f__law_same T.d__law_same ["_law_one", "_law_other"] (spF ⟨K, mg⟩ wf__law_same) :=
  fun_okG T.F__law_same sc__law_same len__law_same fun cdv A outer s H hr hgd => ⟨_, w__law_same, (dss_one (ds_ret (de_cmp (op_eqU hr.units) rop_eq (DE.dp (de_b1 (call_repr hgd hr.units) ro1_repr (by rfl) T.z_repr (by decide +kernel) (dp_var 0))) (DE.dp (de_b1 (call_repr hgd hr.units) ro1_repr (by rfl) T.z_repr (by decide +kernel) (dp_var 1))) (nomark _)))), p__law_same⟩
theorem ok__law_facts (T : Txt P K mg) : FnOk P w K mg base CX0 2 T.f__law_facts T.d__law_facts ["_law_box_here"] (spF ⟨K, mg⟩ wf__law_facts) :=
  fun_okD T.F__law_facts sc__law_facts len__law_facts fun cdv A outer s H E hr => ⟨_, w__law_facts, (dss_one (ds_ret (de_ix (hu_of hr) (DE.dp (DF.de (df_lst (da_cons (DF.de (df_lst (da_cons de_str da_nil))) (da_cons (DF.de (df_lst (da_cons de_str (da_cons de_str da_nil)))) (da_cons (DF.de (df_lst (da_cons de_str (da_cons de_str da_nil)))) (da_cons (DF.de (df_lst (da_cons de_str (da_cons de_str (da_cons de_str da_nil))))) da_nil))))))) (DE.dp (de_call (ok__law_draw T) (hr.mono (by decide)) (by rfl) T.m__law_draw T.k__law_draw T.b__law_draw (das_box 0 (das_cons de_int das_nil)))) (fun _ _ => rfl)))), p__law_facts⟩
theorem ok__law_machine (T : Txt P K mg) : FnOk P w K mg base CX0 3 T.f__law_machine T.d__law_machine ["_law_box_here", "_law_facts_here", "_law_most"] (spF ⟨K, mg⟩ wf__law_machine) :=
  fun_okD T.F__law_machine sc__law_machine len__law_machine fun cdv A outer s H E hr => ⟨_, w__law_machine, (dss_cons (ds_set (i := 3) sc__law_machine.nd rfl (by first | exact Or.inl rfl | exact Or.inr rfl) (de_op op_addU rop_add (DE.dp de_int) (DE.dp (de_call (ok__law_draw T) (hr.mono (by decide)) (by rfl) T.m__law_draw T.k__law_draw T.b__law_draw (das_box 0 (das_cons (de_var 2) das_nil))))))
 (dss_cons (ds_setO (i := 4) sc__law_machine.nd rfl (by first | exact Or.inl rfl | exact Or.inr rfl) (df_lst da_nil))
 (dss_cons (ds_setO (i := 5) sc__law_machine.nd rfl (by first | exact Or.inl rfl | exact Or.inr rfl) (df_lst da_nil))
 (dss_cons (ds_for PassesOwn.never rfl (di_range1 (by rfl) T.z_range (da_cons (de_var 3) da_nil)) (dg_name (i := 6) sc__law_machine.nd rfl (by first | exact Or.inl rfl | exact Or.inr rfl)) (dss_cons (ds_append (i := 4) (de_t1 (call_dictU rfl) ro1_dict (by rfl) T.z_dict (by decide +kernel) (DE.dp (DF.de (df_lc (own := [("_law_fact", 7)]) rfl sc__law_machine.nd (di_list (de_var 1)) (blkOk_by (own := [("_law_fact", 7)]) (N := N__law_machine) (sc := defScope s__law_machine) (by decide +kernel)) (dg_name (i := 7) sc__law_machine.nd rfl (by first | exact Or.inl rfl | exact Or.inr rfl)) dts_nil (de_tup (da_cons (de_var 7) (da_cons (de_op op_mod rop_mod (DE.dp (de_t1 call_int1 ro1_int (by rfl) T.z_int (by decide +kernel) (DE.dp (de_call (ok__law_draw T) (hr.mono (by decide)) (by rfl) T.m__law_draw T.k__law_draw T.b__law_draw (das_box 0 (das_cons de_int das_nil)))))) (dp_var 3)) da_nil))) (fun _ _ _ _ _ => (dg_name (i := 7) sc__law_machine.nd rfl (by first | exact Or.inl rfl | exact Or.inr rfl))) (fun _ _ _ _ _ => dts_nil) (fun _ _ _ _ _ => (de_tup (da_cons (de_var 7) (da_cons (de_op op_mod rop_mod (DE.dp (de_t1 call_int1 ro1_int (by rfl) T.z_int (by decide +kernel) (DE.dp (de_call (ok__law_draw T) (hr.mono (by decide)) (by rfl) T.m__law_draw T.k__law_draw T.b__law_draw (das_box 0 (das_cons de_int das_nil)))))) (dp_var 3)) da_nil)))))))))
 (dss_one (ds_append (i := 5) (de_t1 (call_dictU rfl) ro1_dict (by rfl) T.z_dict (by decide +kernel) (DE.dp (DF.de (df_lc (own := [("_law_fact", 7)]) rfl sc__law_machine.nd (di_list (de_var 1)) (blkOk_by (own := [("_law_fact", 7)]) (N := N__law_machine) (sc := defScope s__law_machine) (by decide +kernel)) (dg_name (i := 7) sc__law_machine.nd rfl (by first | exact Or.inl rfl | exact Or.inr rfl)) dts_nil (de_tup (da_cons (de_var 7) (da_cons (de_ix (hu_of hr) (DE.dp (DF.de (df_lst (da_cons de_int (da_cons de_int (da_cons de_int (da_cons de_int (da_cons (de_un un_neg ro1_dNeg (DE.dp de_int)) (da_cons (de_un un_neg ro1_dNeg (DE.dp de_int)) (da_cons de_int da_nil)))))))))) (DE.dp (de_call (ok__law_draw T) (hr.mono (by decide)) (by rfl) T.m__law_draw T.k__law_draw T.b__law_draw (das_box 0 (das_cons de_int das_nil)))) (fun _ _ => rfl)) da_nil))) (fun _ _ _ _ _ => (dg_name (i := 7) sc__law_machine.nd rfl (by first | exact Or.inl rfl | exact Or.inr rfl))) (fun _ _ _ _ _ => dts_nil) (fun _ _ _ _ _ => (de_tup (da_cons (de_var 7) (da_cons (de_ix (hu_of hr) (DE.dp (DF.de (df_lst (da_cons de_int (da_cons de_int (da_cons de_int (da_cons de_int (da_cons (de_un un_neg ro1_dNeg (DE.dp de_int)) (da_cons (de_un un_neg ro1_dNeg (DE.dp de_int)) (da_cons de_int da_nil)))))))))) (DE.dp (de_call (ok__law_draw T) (hr.mono (by decide)) (by rfl) T.m__law_draw T.k__law_draw T.b__law_draw (das_box 0 (das_cons de_int das_nil)))) (fun _ _ => rfl)) da_nil))))))))))))
 (dss_one (ds_ret (de_make T.mk_Machine (ok_Machine_init T) (hr.mono (by decide)) (by rfl) T.M_Machine T.b_Machine_init (das_cons (de_var 1) (das_cons (de_var 4) (das_cons (de_var 5) (das_cons (DF.de (df_lc (own := [("_law_state", 6)]) rfl sc__law_machine.nd (di_range1 (by rfl) T.z_range (da_cons (de_var 3) da_nil)) (blkOk_by (own := [("_law_state", 6)]) (N := N__law_machine) (sc := defScope s__law_machine) (by decide +kernel)) (dg_name (i := 6) sc__law_machine.nd rfl (by first | exact Or.inl rfl | exact Or.inr rfl)) dts_nil (de_op op_sub rop_sub (DE.dp (de_call (ok__law_draw T) (hr.mono (by decide)) (by rfl) T.m__law_draw T.k__law_draw T.b__law_draw (das_box 0 (das_cons de_int das_nil)))) (DE.dp de_int)) (fun _ _ _ _ _ => (dg_name (i := 6) sc__law_machine.nd rfl (by first | exact Or.inl rfl | exact Or.inr rfl))) (fun _ _ _ _ _ => dts_nil) (fun _ _ _ _ _ => (de_op op_sub rop_sub (DE.dp (de_call (ok__law_draw T) (hr.mono (by decide)) (by rfl) T.m__law_draw T.k__law_draw T.b__law_draw (das_box 0 (das_cons de_int das_nil)))) (DE.dp de_int))))) das_nil))))))))))), p__law_machine⟩
theorem ok__law_schemes (T : Txt P K mg) : FnOk P w K mg base CX0 4 T.f__law_schemes T.d__law_schemes ["_law_box_here", "_law_most"] (spF ⟨K, mg⟩ wf__law_schemes) :=
  fun_okD T.F__law_schemes sc__law_schemes len__law_schemes fun cdv A outer s H E hr => ⟨_, w__law_schemes, (dss_cons (ds_set (i := 2) sc__law_schemes.nd rfl (by first | exact Or.inl rfl | exact Or.inr rfl) (de_call (ok__law_facts T) (hr.mono (by decide)) (by rfl) T.m__law_facts T.k__law_facts T.b__law_facts (das_box 0 das_nil)))
 (dss_cons (ds_set (i := 3) sc__law_schemes.nd rfl (by first | exact Or.inl rfl | exact Or.inr rfl) (DF.de (df_lc (own := [("_law_k", 8)]) rfl sc__law_schemes.nd (di_range1 (by rfl) T.z_range (da_cons (de_op op_addU rop_add (DE.dp de_int) (DE.dp (de_call (ok__law_draw T) (hr.mono (by decide)) (by rfl) T.m__law_draw T.k__law_draw T.b__law_draw (das_box 0 (das_cons (de_var 1) das_nil))))) da_nil)) (blkOk_by (own := [("_law_k", 8)]) (N := N__law_schemes) (sc := defScope s__law_schemes) (by decide +kernel)) (dg_name (i := 8) sc__law_schemes.nd rfl (by first | exact Or.inl rfl | exact Or.inr rfl)) dts_nil (de_call (ok__law_machine T) (hr.mono (by decide)) (by rfl) T.m__law_machine T.k__law_machine T.b__law_machine (das_box 0 (das_cons (de_var 2) (das_cons de_int das_nil)))) (fun _ _ _ _ _ => (dg_name (i := 8) sc__law_schemes.nd rfl (by first | exact Or.inl rfl | exact Or.inr rfl))) (fun _ _ _ _ _ => dts_nil) (fun _ _ _ _ _ => (de_call (ok__law_machine T) (hr.mono (by decide)) (by rfl) T.m__law_machine T.k__law_machine T.b__law_machine (das_box 0 (das_cons (de_var 2) (das_cons de_int das_nil))))))))
 (dss_cons (ds_setO (i := 4) sc__law_schemes.nd rfl (by first | exact Or.inl rfl | exact Or.inr rfl) df_dt)
 (dss_cons (ds_for PassesOwn.never rfl (di_range1 (by rfl) T.z_range (da_cons (de_b1 call_lenU ro1_len (by rfl) T.z_len (by decide +kernel) (dp_var 3)) da_nil)) (dg_name (i := 7) sc__law_schemes.nd rfl (by first | exact Or.inl rfl | exact Or.inr rfl)) (dss_one (ds_for PassesOwn.never rfl (di_range1 (by rfl) T.z_range (da_cons (de_b1 call_lenU ro1_len (by rfl) T.z_len (by decide +kernel) (dp_var 3)) da_nil)) (dg_name (i := 6) sc__law_schemes.nd rfl (by first | exact Or.inl rfl | exact Or.inr rfl)) (dss_one (ds_if (DWt.dt (dw_and (dt_cmp (op_neU hr.units) rop_ne (dp_var 7) (dp_var 6) (nomark _)) (dw_and1 (dt_cmp op_gt rop_gt (DE.dp (de_call (ok__law_draw T) (hr.mono (by decide)) (by rfl) T.m__law_draw T.k__law_draw T.b__law_draw (das_box 0 (das_cons de_int das_nil)))) (DE.dp de_int) (nomark _))))) (dss_cons (ds_setLc (i := 5) (own := [("_law_state", 9)]) rfl sc__law_schemes.nd rfl rfl (sw_true rfl rfl rfl (by decide +kernel)) (di_list (de_fld T.M_Machine T.L_Machine T.na_Machine_leave (DE.dp (de_ix (hu_of hr) (dp_var 3) (dp_var 7) (fun _ _ => rfl))))) (blkOk_by (own := [("_law_state", 9)]) (N := N__law_schemes) (sc := defScope s__law_schemes) (by decide +kernel)) (dg_name (i := 9) sc__law_schemes.nd rfl (by first | exact Or.inl rfl | exact Or.inr rfl)) dts_nil (de_op op_mod rop_mod (DE.dp (de_t1 call_int1 ro1_int (by rfl) T.z_int (by decide +kernel) (DE.dp (de_call (ok__law_draw T) (hr.mono (by decide)) (by rfl) T.m__law_draw T.k__law_draw T.b__law_draw (das_box 0 (das_cons de_int das_nil)))))) (DE.dp (de_b1 call_lenU ro1_len (by rfl) T.z_len (by decide +kernel) (DE.dp (de_fld T.M_Machine T.L_Machine T.na_Machine_leave (DE.dp (de_ix (hu_of hr) (dp_var 3) (dp_var 6) (fun _ _ => rfl)))))))) (fun _ _ _ _ _ => (dg_name (i := 9) sc__law_schemes.nd rfl (by first | exact Or.inl rfl | exact Or.inr rfl))) (fun _ _ _ _ _ => dts_nil) (fun _ _ _ _ _ => (de_op op_mod rop_mod (DE.dp (de_t1 call_int1 ro1_int (by rfl) T.z_int (by decide +kernel) (DE.dp (de_call (ok__law_draw T) (hr.mono (by decide)) (by rfl) T.m__law_draw T.k__law_draw T.b__law_draw (das_box 0 (das_cons de_int das_nil)))))) (DE.dp (de_b1 call_lenU ro1_len (by rfl) T.z_len (by decide +kernel) (DE.dp (de_fld T.M_Machine T.L_Machine T.na_Machine_leave (DE.dp (de_ix (hu_of hr) (dp_var 3) (dp_var 6) (fun _ _ => rfl))))))))))
 (dss_one (ds_put 4 (hu_of hr) (de_tup (da_cons (de_var 7) (da_cons (de_var 6) da_nil))) (DF.de (df_lst (da_cons (de_var 5) (da_cons (DF.de (df_lc (own := [("_law_state", 9)]) rfl sc__law_schemes.nd (di_list (de_var 5)) (blkOk_by (own := [("_law_state", 9)]) (N := N__law_schemes) (sc := defScope s__law_schemes) (by decide +kernel)) (dg_name (i := 9) sc__law_schemes.nd rfl (by first | exact Or.inl rfl | exact Or.inr rfl)) dts_nil (de_op op_sub rop_sub (DE.dp (de_call (ok__law_draw T) (hr.mono (by decide)) (by rfl) T.m__law_draw T.k__law_draw T.b__law_draw (das_box 0 (das_cons de_int das_nil)))) (DE.dp de_int)) (fun _ _ _ _ _ => (dg_name (i := 9) sc__law_schemes.nd rfl (by first | exact Or.inl rfl | exact Or.inr rfl))) (fun _ _ _ _ _ => dts_nil) (fun _ _ _ _ _ => (de_op op_sub rop_sub (DE.dp (de_call (ok__law_draw T) (hr.mono (by decide)) (by rfl) T.m__law_draw T.k__law_draw T.b__law_draw (das_box 0 (das_cons de_int das_nil)))) (DE.dp de_int))))) da_nil))))))) dss_nil)))))
 (dss_one (ds_ret (DF.de (df_lst (da_cons (de_var 3) (da_cons (de_var 4) da_nil)))))))))), p__law_schemes⟩
theorem ok__law_carries (T : Txt P K mg) : FnOk P w K mg base CX0 3 T.f__law_carries T.d__law_carries ["_law_plain"] (spF ⟨K, mg⟩ wf__law_carries) :=
  fun_okD T.F__law_carries sc__law_carries len__law_carries fun cdv A outer s H E hr => ⟨_, w__law_carries, (dss_cons (ds_setO (i := 1) sc__law_carries.nd rfl (by first | exact Or.inl rfl | exact Or.inr rfl) df_dt)
 (dss_cons (ds_forK PassesOwn.never rfl (kd_var 0) (dg_name (i := 2) sc__law_carries.nd rfl (by first | exact Or.inl rfl | exact Or.inr rfl)) (dss_one (ds_put 1 (hu_of hr) (de_var 2) (de_make T.mk_Carry (ok_Carry_init T) (hr.mono (by decide)) (by rfl) T.M_Carry T.b_Carry_init (das_cons (de_t1 call_list_of ro1_list (by rfl) T.z_list (by decide +kernel) (DE.dp (de_ix (hu_of hr) (DE.dp (de_ix (hu_of hr) (dp_var 0) (dp_var 2) (fun _ _ => rfl))) (DE.dp de_int) (fun _ _ => rfl)))) (das_cons (de_t1 call_list_of ro1_list (by rfl) T.z_list (by decide +kernel) (DE.dp (de_ix (hu_of hr) (DE.dp (de_ix (hu_of hr) (dp_var 0) (dp_var 2) (fun _ _ => rfl))) (DE.dp de_int) (fun _ _ => rfl)))) das_nil))))))
 (dss_one (ds_ret (de_var 1))))), p__law_carries⟩
theorem ok__law_year (T : Txt P K mg) : FnOk P w K mg base CX0 4 T.f__law_year T.d__law_year ["_law_account", "_law_fact"] (spG ⟨K, mg⟩ wf__law_year) :=
  fun_okC T.F__law_year sc__law_year 1 3 [3, 4, 5] rfl len__law_year fun cdv A outer s H E hr => ⟨_, w__law_year, (dss_one (ds_tryRetM (j := 2) 0 T.M_Account rfl rfl sc__law_year.nd rfl rfl ⟨by rfl, by decide, .inl T.M_UnknownFact⟩ (Takn.cons T.M_UnknownFact T.em_UnknownFact Takn.nil) (das_cons (de_var 1) das_nil) (dxs_tup (dxl_cons (dxe_c fun _ => pe_str) (dxl_cons (dxe_fld T.xf_UnknownFact (T.nf_UnknownFact _ (by decide)) T.M_UnknownFact rfl (Or.inl rfl)) dxl_nil))) (fun W pn xe tk => pe_methE (pe_var rfl (Or.inl rfl)) T.L_Account T.me_Account_year (ok_Account_year T) (hr.mono (by decide)) T.b_Account_year (passAt tk) ((das_cons (de_var 1) das_nil)).pe))), p__law_year⟩
theorem ok__law_move (T : Txt P K mg) : FnOk P w K mg base CX0 4 T.f__law_move T.d__law_move ["_law_account", "_law_other"] (spG ⟨K, mg⟩ wf__law_move) :=
  fun_okC T.F__law_move sc__law_move 1 3 [3, 4, 5] rfl len__law_move fun cdv A outer s H E hr => ⟨_, w__law_move, (dss_one (ds_tryRetM (j := 2) 0 T.M_Account rfl rfl sc__law_move.nd rfl rfl ⟨by rfl, by decide, .inl T.M_NoCarry⟩ (Takn.cons T.M_NoCarry T.em_NoCarry Takn.nil) (das_cons (de_var 1) das_nil) (dxs_tup (dxl_cons (dxe_c fun _ => pe_str) (dxl_cons (dxe_fld T.xf_NoCarry (T.nf_NoCarry _ (by decide)) T.M_NoCarry rfl (Or.inl rfl)) (dxl_cons (dxe_fld T.xf_NoCarry (T.nf_NoCarry _ (by decide)) T.M_NoCarry rfl (Or.inl rfl)) dxl_nil)))) (fun W pn xe tk => pe_methE (pe_var rfl (Or.inl rfl)) T.L_Account T.me_Account_move (ok_Account_move T) (hr.mono (by decide)) T.b_Account_move (passAt tk) ((das_cons (de_var 1) das_nil)).pe))), p__law_move⟩
theorem ok__law_done (T : Txt P K mg) : FnOk P w K mg base CX0 1 T.f__law_done T.d__law_done ["_law_schemes_here", "_law_plain", "_law_past", "_law_deeds", "_law_deed_here"] (spG ⟨K, mg⟩ wf__law_done) :=
  fun_okC T.F__law_done sc__law_done 6 2 [11, 12] rfl len__law_done fun cdv A outer s H E hr => ⟨_, w__law_done, (dss_cons (ds_asg (de_ix (hu_of hr) (dp_der 11 (de_var 2)) (DE.dp (de_un un_neg ro1_dNeg (DE.dp de_int))) (fun _ _ => rfl)) (dg_tup [5, 6, 7] rfl (gs_cons (i := 5) sc__law_done.nd rfl (by first | exact Or.inl rfl | exact Or.inr rfl) (gs_cons (i := 6) sc__law_done.nd rfl (by first | exact Or.inl rfl | exact Or.inr rfl) (gs_cons (i := 7) sc__law_done.nd rfl (by first | exact Or.inl rfl | exact Or.inr rfl) gs_nil)))))
 (dss_cons (ds_if (dt_cmp (op_eqU hr.units) rop_eq (DE.dp (de_ix (hu_of hr) (dp_var 4) (DE.dp de_int) (fun _ _ => rfl))) (DE.dp de_str) (nomark _)) (dss_cons (ds_if (dt_cmp (op_eqU hr.units) rop_eq (DE.dp (de_b1 call_lenU ro1_len (by rfl) T.z_len (by decide +kernel) (dp_der 12 (de_var 3)))) (DE.dp de_int) (nomark _)) (dss_one (ds_ret de_bl)) dss_nil)
 (dss_cons (dsx_expr (dx_popC 12 (de_var 3)))
 (dss_cons (dsx_expr (dx_popC 11 (de_var 2)))
 (dss_one (ds_ret de_bl))))) dss_nil)
 (dss_cons (ds_if (dt_cmp (op_eqU hr.units) rop_eq (DE.dp (de_ix (hu_of hr) (dp_var 4) (DE.dp de_int) (fun _ _ => rfl))) (DE.dp de_str) (nomark _)) (dss_cons (ds_if (dt_cmp (op_notInU (hu65 hr)) rop_notIn (DE.dp (de_ix (hu_of hr) (dp_var 4) (DE.dp de_int) (fun _ _ => rfl))) (DE.dp (de_fld T.M_Machine T.L_Machine T.na_Machine_facts (DE.dp (de_ix (hu_of hr) (dp_var 0) (DE.dp de_int) (fun _ _ => rfl))))) (by rfl)) (dss_one (ds_ret (de_tup (da_cons de_str (da_cons (de_ix (hu_of hr) (dp_var 4) (DE.dp de_int) (fun _ _ => rfl)) da_nil))))) dss_nil)
 (dss_cons (ds_set (i := 8) sc__law_done.nd rfl (by first | exact Or.inl rfl | exact Or.inr rfl) (de_ix (hu_of hr) (DE.dp (de_ix (hu_of hr) (DE.dp (de_fld T.M_Machine T.L_Machine T.na_Machine_gain (DE.dp (de_ix (hu_of hr) (dp_var 0) (dp_var 5) (fun _ _ => rfl))))) (dp_var 6) (fun _ _ => rfl))) (DE.dp (de_ix (hu_of hr) (dp_var 4) (DE.dp de_int) (fun _ _ => rfl))) (fun _ _ => rfl)))
 (dss_one (ds_appC 11 (de_var 2) (DE.dx (de_tup (da_cons (de_var 5) (da_cons (de_ix (hu_of hr) (DE.dp (de_ix (hu_of hr) (DE.dp (de_fld T.M_Machine T.L_Machine T.na_Machine_step (DE.dp (de_ix (hu_of hr) (dp_var 0) (dp_var 5) (fun _ _ => rfl))))) (dp_var 6) (fun _ _ => rfl))) (DE.dp (de_ix (hu_of hr) (dp_var 4) (DE.dp de_int) (fun _ _ => rfl))) (fun _ _ => rfl)) (da_cons (de_op op_addU rop_add (dp_var 7) (dp_var 8)) da_nil))))))))) (dss_cons (ds_if (dt_cmp (op_notInU (hu65 hr)) rop_notIn (DE.dp (de_tup (da_cons (de_var 5) (da_cons (de_ix (hu_of hr) (dp_var 4) (DE.dp de_int) (fun _ _ => rfl)) da_nil)))) (dp_var 1) (by rfl)) (dss_one (ds_ret (de_tup (da_cons de_str (da_cons (de_var 5) (da_cons (de_ix (hu_of hr) (dp_var 4) (DE.dp de_int) (fun _ _ => rfl)) da_nil)))))) dss_nil)
 (dss_cons (ds_asg (de_ix (hu_of hr) (dp_var 1) (DE.dp (de_tup (da_cons (de_var 5) (da_cons (de_ix (hu_of hr) (dp_var 4) (DE.dp de_int) (fun _ _ => rfl)) da_nil)))) (fun _ _ => rfl)) (dg_lst [9, 10] rfl (gs_cons (i := 9) sc__law_done.nd rfl (by first | exact Or.inl rfl | exact Or.inr rfl) (gs_cons (i := 10) sc__law_done.nd rfl (by first | exact Or.inl rfl | exact Or.inr rfl) gs_nil))))
 (dss_cons (ds_set (i := 8) sc__law_done.nd rfl (by first | exact Or.inl rfl | exact Or.inr rfl) (de_ix (hu_of hr) (dp_var 10) (dp_var 6) (fun _ _ => rfl)))
 (dss_one (ds_appC 11 (de_var 2) (DE.dx (de_tup (da_cons (de_ix (hu_of hr) (dp_var 4) (DE.dp de_int) (fun _ _ => rfl)) (da_cons (de_ix (hu_of hr) (dp_var 9) (dp_var 6) (fun _ _ => rfl)) (da_cons (de_op op_sub rop_sub (dp_var 7) (dp_var 8)) da_nil)))))))))))
 (dss_cons (ds_appC 12 (de_var 3) (DE.dx (de_var 4)))
 (dss_one (ds_ret (de_var 8))))))), p__law_done⟩
theorem ok__law_deed (T : Txt P K mg) : FnOk P w K mg base CX0 2 T.f__law_deed T.d__law_deed ["_law_box_here", "_law_schemes_here"] (spF ⟨K, mg⟩ wf__law_deed) :=
  fun_okD T.F__law_deed sc__law_deed len__law_deed fun cdv A outer s H E hr => ⟨_, w__law_deed, (dss_cons (ds_set (i := 2) sc__law_deed.nd rfl (by first | exact Or.inl rfl | exact Or.inr rfl) (de_call (ok__law_draw T) (hr.mono (by decide)) (by rfl) T.m__law_draw T.k__law_draw T.b__law_draw (das_box 0 (das_cons de_int das_nil))))
 (dss_cons (ds_if (dt_cmp (op_eqU hr.units) rop_eq (dp_var 2) (DE.dp de_int) (nomark _)) (dss_one (ds_ret (de_tup (da_cons de_str da_nil)))) dss_nil)
 (dss_cons (ds_if (dt_cmp op_lt rop_lt (dp_var 2) (DE.dp de_int) (nomark _)) (dss_cons (ds_set (i := 3) sc__law_deed.nd rfl (by first | exact Or.inl rfl | exact Or.inr rfl) (de_op op_addU rop_add (DE.dp (de_fld T.M_Machine T.L_Machine T.na_Machine_facts (DE.dp (de_ix (hu_of hr) (dp_var 1) (DE.dp de_int) (fun _ _ => rfl))))) (DE.dp (DF.de (df_lst (da_cons de_str da_nil))))))
 (dss_one (ds_ret (de_tup (da_cons de_str (da_cons (de_ix (hu_of hr) (dp_var 3) (DE.dp (de_op op_mod rop_mod (DE.dp (de_t1 call_int1 ro1_int (by rfl) T.z_int (by decide +kernel) (DE.dp (de_call (ok__law_draw T) (hr.mono (by decide)) (by rfl) T.m__law_draw T.k__law_draw T.b__law_draw (das_box 0 (das_cons de_int das_nil)))))) (DE.dp (de_b1 call_lenU ro1_len (by rfl) T.z_len (by decide +kernel) (dp_var 3))))) (fun _ _ => rfl)) da_nil)))))) dss_nil)
 (dss_one (ds_ret (de_tup (da_cons de_str (da_cons (de_call (ok__law_draw T) (hr.mono (by decide)) (by rfl) T.m__law_draw T.k__law_draw T.b__law_draw (das_box 0 (das_cons (de_ix (hu_of hr) (DE.dp (DF.de (df_lst (da_cons (de_b1 call_lenU ro1_len (by rfl) T.z_len (by decide +kernel) (dp_var 1)) (da_cons de_int da_nil))))) (DE.dp (de_call (ok__law_draw T) (hr.mono (by decide)) (by rfl) T.m__law_draw T.k__law_draw T.b__law_draw (das_box 0 (das_cons de_int das_nil)))) (fun _ _ => rfl)) das_nil))) da_nil)))))))), p__law_deed⟩
theorem ok__law_told (T : Txt P K mg) : FnOk P w K mg base CX0 5 T.f__law_told T.d__law_told ["_law_account", "_law_deed_here"] (spG ⟨K, mg⟩ wf__law_told) :=
  fun_okC T.F__law_told sc__law_told 0 3 [2, 3, 4] rfl len__law_told fun cdv A outer s H E hr => ⟨_, w__law_told, (dss_cons (ds_if (dt_cmp (op_eqU hr.units) rop_eq (DE.dp (de_ix (hu_of hr) (dp_var 1) (DE.dp de_int) (fun _ _ => rfl))) (DE.dp de_str) (nomark _)) (dss_one (dsx_ret (dx_methC0 2 [2, 3, 4] [2, 3, 4] (ok_Account_undo T) (hr.mono (by decide)) T.M_Account T.L_Account T.me_Account_undo T.b_Account_undo (de_var 0)))) dss_nil)
 (dss_cons (ds_if (dt_cmp (op_eqU hr.units) rop_eq (DE.dp (de_ix (hu_of hr) (dp_var 1) (DE.dp de_int) (fun _ _ => rfl))) (DE.dp de_str) (nomark _)) (dss_one (dsx_ret (dx_callC [2, 3, 4] [2, 3, 4] (ok__law_year T) (hr.mono (by decide)) (by rfl) T.m__law_year T.k__law_year T.b__law_year (dxa_cons (DE.dx (de_var 0)) (dxa_cons (DE.dx (de_ix (hu_of hr) (dp_var 1) (DE.dp de_int) (fun _ _ => rfl))) dxa_nil))))) dss_nil)
 (dss_one (dsx_ret (dx_callC [2, 3, 4] [2, 3, 4] (ok__law_move T) (hr.mono (by decide)) (by rfl) T.m__law_move T.k__law_move T.b__law_move (dxa_cons (DE.dx (de_var 0)) (dxa_cons (DE.dx (de_ix (hu_of hr) (dp_var 1) (DE.dp de_int) (fun _ _ => rfl))) dxa_nil))))))), p__law_told⟩
theorem ok__law_alike (T : Txt P K mg) : FnG P w K mg base 2 T.f__law_alike T.d__law_alike ["_law_account", "_law_schemes_here", "_law_past", "_law_deeds"] (spG ⟨K, mg⟩ wf__law_alike) :=
  fun_okCG T.F__law_alike sc__law_alike 4 5 [8, 9, 10, 11, 12] rfl len__law_alike fun cdv A outer s H hr hgd => ⟨_, w__law_alike, (dss_cons (ds_asg (de_ix (hu_of hr) (dp_der 11 (de_var 2)) (DE.dp (de_un un_neg ro1_dNeg (DE.dp de_int))) (fun _ _ => rfl)) (dg_tup [4, 5, 6] rfl (gs_cons (i := 4) sc__law_alike.nd rfl (by first | exact Or.inl rfl | exact Or.inr rfl) (gs_cons (i := 5) sc__law_alike.nd rfl (by first | exact Or.inl rfl | exact Or.inr rfl) (gs_cons (i := 6) sc__law_alike.nd rfl (by first | exact Or.inl rfl | exact Or.inr rfl) gs_nil)))))
 (dss_cons (dsx_set (i := 7) sc__law_alike.nd rfl (by first | exact Or.inl rfl | exact Or.inr rfl) (DFX.dx (dfx_lst (dxd_cons (dx_methC0 8 [8, 9, 10] [8, 9, 10] (ok_Account_scheme T) (hr.mono (by decide)) T.M_Account T.L_Account T.me_Account_scheme T.b_Account_scheme (de_var 0)) (dxd_cons (dx_methC0 8 [8, 9, 10] [8, 9, 10] (ok_Account_state T) (hr.mono (by decide)) T.M_Account T.L_Account T.me_Account_state T.b_Account_state (de_var 0)) (dxd_cons (dx_methC0 8 [8, 9, 10] [8, 9, 10] (ok_Account_paid T) (hr.mono (by decide)) T.M_Account T.L_Account T.me_Account_paid T.b_Account_paid (de_var 0)) (dxd_cons (dx_methC0 8 [8, 9, 10] [8, 9, 10] (ok_Account_worth T) (hr.mono (by decide)) T.M_Account T.L_Account T.me_Account_worth T.b_Account_worth (de_var 0)) (dxd_cons (DE.dx (de_t1 call_list_of ro1_list (by rfl) T.z_list (by decide +kernel) (dp_der 9 (de_fld T.M_Account T.L_Account T.na_Account_deeds (dp_der 8 (de_var 0)))))) dxd_nil))))))))
 (dss_one (dsx_ret (dx_callPkG (ok__law_same T) (hr.mono (by decide)) hgd (by rfl) T.m__law_same T.k__law_same T.b__law_same (dxa_cons (DE.dx (de_var 7)) (dxa_cons (DE.dx (DF.de (df_lst (da_cons (de_var 4) (da_cons (de_var 5) (da_cons (de_var 6) (da_cons (de_op op_addU rop_add (dp_var 6) (DE.dp (de_ix (hu_of hr) (DE.dp (de_fld T.M_Machine T.L_Machine T.na_Machine_leave (DE.dp (de_ix (hu_of hr) (dp_var 1) (dp_var 4) (fun _ _ => rfl))))) (dp_var 5) (fun _ _ => rfl)))) (da_cons (de_var 3) da_nil)))))))) dxa_nil))))))), p__law_alike⟩
theorem ok_law (T : Txt P K mg) : FnG P w K mg base 6 T.f_law T.d_law ["_law_script"] (spLaw K) :=
  law_boxE T.F_law sc_law (i := 1) (n := 34) rfl (by decide) rfl fun cdv A outer s H hr hgd => ⟨_, w_law0, _, w_law1, (de_call (ok__law_box T) (hr.mono (by decide)) (by rfl) T.m__law_box T.k__law_box T.b__law_box (das_cons (de_var 0) (das_cons de_int (das_cons de_int das_nil)))), (dss_cons (ds_asg (de_call (ok__law_schemes T) (hr.mono (by decide)) (by rfl) T.m__law_schemes T.k__law_schemes T.b__law_schemes (das_box 1 (das_cons de_int das_nil))) (dg_lst [2, 3] rfl (gs_cons (i := 2) sc_law.nd rfl (by first | exact Or.inl rfl | exact Or.inr rfl) (gs_cons (i := 3) sc_law.nd rfl (by first | exact Or.inl rfl | exact Or.inr rfl) gs_nil))))
 (dss_cons (dsx_set (i := 4) sc_law.nd rfl (by first | exact Or.inl rfl | exact Or.inr rfl) (dx_new 12 (dfx_lst (dxd_cons (DFX.dx (dfx_lst (dxd_cons (dx_makeC [] [15, 16, 17] T.mk_Account (ok_Account_init T) (hr.mono (by decide)) (by rfl) T.M_Account T.b_Account_init (dxa_cons (DE.dx (de_var 2)) (dxa_cons (DE.dx (de_call (ok__law_carries T) (hr.mono (by decide)) (by rfl) T.m__law_carries T.k__law_carries T.b__law_carries (das_cons (de_var 3) das_nil))) dxa_nil))) (dxd_cons (DE.dx (de_newE (df_lst (da_cons (de_tup (da_cons de_int (da_cons de_int (da_cons de_int da_nil)))) da_nil)))) (dxd_cons (DE.dx (de_newE (df_lst da_nil))) dxd_nil))))) dxd_nil))))
 (dss_cons (ds_for PassesOwn.never rfl (di_range1 (by rfl) T.z_range (da_cons de_int da_nil)) (dg_name (i := 11) sc_law.nd rfl (by first | exact Or.inl rfl | exact Or.inr rfl)) (dss_cons (ds_set (i := 5) sc_law.nd rfl (by first | exact Or.inl rfl | exact Or.inr rfl) (de_op op_mod rop_mod (DE.dp (de_t1 call_int1 ro1_int (by rfl) T.z_int (by decide +kernel) (DE.dp (de_call (ok__law_draw T) (hr.mono (by decide)) (by rfl) T.m__law_draw T.k__law_draw T.b__law_draw (das_box 1 (das_cons de_int das_nil)))))) (DE.dp (de_b1 call_lenU ro1_len (by rfl) T.z_len (by decide +kernel) (dp_der 12 (de_var 4))))))
 (dss_cons (ds_asg (de_ix (hu_of hr) (dp_der 12 (de_var 4)) (dp_var 5) (fun _ _ => rfl)) (dg_lst [6, 7, 8] rfl (gs_cons (i := 6) sc_law.nd rfl (by first | exact Or.inl rfl | exact Or.inr rfl) (gs_cons (i := 7) sc_law.nd rfl (by first | exact Or.inl rfl | exact Or.inr rfl) (gs_cons (i := 8) sc_law.nd rfl (by first | exact Or.inl rfl | exact Or.inr rfl) gs_nil)))))
 (dss_cons (ds_if (DWt.dt (dw_and (dt_cmp (op_eqU hr.units) rop_eq (DE.dp (de_call (ok__law_draw T) (hr.mono (by decide)) (by rfl) T.m__law_draw T.k__law_draw T.b__law_draw (das_box 1 (das_cons de_int das_nil)))) (DE.dp de_int) (nomark _)) (dw_and1 (dt_cmp op_lt rop_lt (DE.dp (de_b1 call_lenU ro1_len (by rfl) T.z_len (by decide +kernel) (dp_der 12 (de_var 4)))) (DE.dp de_int) (nomark _))))) (dss_one (ds_appC 12 (de_var 4) (DFX.dx (dfx_lst (dxd_cons (DX.methCE (E := E0) fun g js js2 => dx_methC0 g js js2 (ok_Account_branch T) (hr.mono (by decide)) T.M_Account T.L_Account T.me_Account_branch T.b_Account_branch (de_var 6)) (dxd_cons (DE.dx (de_newE (df_list call_list_of (fun v H Q p ys e h q => ⟨p, ys, by rw [e], h, q⟩) (by rfl) T.z_list (by decide +kernel) (dp_derE (de_var 7))))) (dxd_cons (DE.dx (de_newE (df_list call_list_of (fun v H Q p ys e h q => ⟨p, ys, by rw [e], h, q⟩) (by rfl) T.z_list (by decide +kernel) (dp_derE (de_var 8))))) dxd_nil))))))) dss_nil)
 (dss_cons (ds_set (i := 9) sc_law.nd rfl (by first | exact Or.inl rfl | exact Or.inr rfl) (de_call (ok__law_deed T) (hr.mono (by decide)) (by rfl) T.m__law_deed T.k__law_deed T.b__law_deed (das_box 1 (das_cons (de_var 2) das_nil))))
 (dss_cons (dsx_if (dtx_not (dtx_val (dx_callGx (ok__law_same T) (hr.mono (by decide)) hgd (by rfl) T.m__law_same T.k__law_same T.b__law_same (dxa_cons (dx_callCE (ok__law_told T) (hr.mono (by decide)) (by rfl) T.m__law_told T.k__law_told T.b__law_told (dxa_cons (DE.dx (de_var 6)) (dxa_cons (DE.dx (de_var 9)) dxa_nil))) (dxa_cons (dx_callCE (ok__law_done T) (hr.mono (by decide)) (by rfl) T.m__law_done T.k__law_done T.b__law_done (dxa_cons (DE.dx (de_var 2)) (dxa_cons (DE.dx (de_var 3)) (dxa_cons (DE.dx (de_var 7)) (dxa_cons (DE.dx (de_var 8)) (dxa_cons (DE.dx (de_var 9)) dxa_nil)))))) dxa_nil))) (fun _ => rfl))) (dss_one (ds_ret de_bl)) dss_nil)
 (dss_one (ds_forC 12 PassesOwn.never rfl (de_var 4) (dg_name (i := 10) sc_law.nd rfl (by first | exact Or.inl rfl | exact Or.inr rfl)) (dss_one (dsx_if (dtx_not (dtx_val (dx_callCGE (ok__law_alike T) (hr.mono (by decide)) hgd (by rfl) T.m__law_alike T.k__law_alike T.b__law_alike (dxa_cons (DE.dx (de_ix (hu_of hr) (dp_var 10) (DE.dp de_int) (fun _ _ => rfl))) (dxa_cons (DE.dx (de_var 2)) (dxa_cons (DE.dx (de_ix (hu_of hr) (dp_var 10) (DE.dp de_int) (fun _ _ => rfl))) (dxa_cons (DE.dx (de_ix (hu_of hr) (dp_var 10) (DE.dp de_int) (fun _ _ => rfl))) dxa_nil))))) (fun _ => rfl))) (dss_one (ds_ret de_bl)) dss_nil))))))))))
 (dss_cons (ds_for PassesOwn.never rfl (di_range1 (by rfl) T.z_range (da_cons (de_b1 call_lenU ro1_len (by rfl) T.z_len (by decide +kernel) (dp_derE (de_ix (hu_of hr) (DE.dp (de_ix (hu_of hr) (dp_der 12 (de_var 4)) (DE.dp de_int) (fun _ _ => rfl))) (DE.dp de_int) (fun _ _ => rfl)))) da_nil)) (dg_name (i := 11) sc_law.nd rfl (by first | exact Or.inl rfl | exact Or.inr rfl)) (dss_one (dsx_if (dtx_not (dtx_val (dx_callGx (ok__law_same T) (hr.mono (by decide)) hgd (by rfl) T.m__law_same T.k__law_same T.b__law_same (dxa_cons (DX.methCE (E := E0) fun g js js2 => dx_methC0 g js js2 (ok_Account_undo T) (hr.mono (by decide)) T.M_Account T.L_Account T.me_Account_undo T.b_Account_undo (de_ix (hu_of hr) (DE.dp (de_ix (hu_of hr) (dp_der 12 (de_var 4)) (DE.dp de_int) (fun _ _ => rfl))) (DE.dp de_int) (fun _ _ => rfl))) (dxa_cons (dx_callCE (ok__law_done T) (hr.mono (by decide)) (by rfl) T.m__law_done T.k__law_done T.b__law_done (dxa_cons (DE.dx (de_var 2)) (dxa_cons (DE.dx (de_var 3)) (dxa_cons (DE.dx (de_ix (hu_of hr) (DE.dp (de_ix (hu_of hr) (dp_der 12 (de_var 4)) (DE.dp de_int) (fun _ _ => rfl))) (DE.dp de_int) (fun _ _ => rfl))) (dxa_cons (DE.dx (de_ix (hu_of hr) (DE.dp (de_ix (hu_of hr) (dp_der 12 (de_var 4)) (DE.dp de_int) (fun _ _ => rfl))) (DE.dp de_int) (fun _ _ => rfl))) (dxa_cons (DE.dx (de_tup (da_cons de_str da_nil))) dxa_nil)))))) dxa_nil))) (fun _ => rfl))) (dss_one (ds_ret de_bl)) dss_nil)))
 (dss_one (dsx_ret (dx_and (dx_callCGE (ok__law_alike T) (hr.mono (by decide)) hgd (by rfl) T.m__law_alike T.k__law_alike T.b__law_alike (dxa_cons (DE.dx (de_ix (hu_of hr) (DE.dp (de_ix (hu_of hr) (dp_der 12 (de_var 4)) (DE.dp de_int) (fun _ _ => rfl))) (DE.dp de_int) (fun _ _ => rfl))) (dxa_cons (DE.dx (de_var 2)) (dxa_cons (DE.dx (de_newE (df_lst (da_cons (de_tup (da_cons de_int (da_cons de_int (da_cons de_int da_nil)))) da_nil)))) (dxa_cons (DE.dx (de_newE (df_lst da_nil))) dxa_nil))))) (dx_one (dx_cmp op_isBI rop_isBI (DX.methCE (E := E0) fun g js js2 => dx_methC0 g js js2 (ok_Account_undo T) (hr.mono (by decide)) T.M_Account T.L_Account T.me_Account_undo T.b_Account_undo (de_ix (hu_of hr) (DE.dp (de_ix (hu_of hr) (dp_der 12 (de_var 4)) (DE.dp de_int) (fun _ _ => rfl))) (DE.dp de_int) (fun _ _ => rfl))) (DE.dp de_bl) (nomark _)))))))))), fun p q => pss_cons (ps_set (i := 1) sc_law.nd rfl (by first | exact Or.inl rfl | exact Or.inr rfl) p) q, p_law0, p_law1⟩
end
theorem all_mk {l : PySem.W.OpenLaw} {w : World} {K : PySem.W.Frag} {h : Heap} {mg : Str → Option Value} {fa : Addr} (X : K.In h) (G : h.Ns mainGlobals mg) (hfa : mg "law" = some (.ref fa))
    {C_Account : Addr}
    {C_Carry : Addr}
    {C_Machine : Addr}
    {C_MovedyearsError : Addr}
    {C_UnknownFact fi_UnknownFact cc_UnknownFact cda_UnknownFact : Addr}
    {C_NoCarry fi_NoCarry cc_NoCarry cda_NoCarry : Addr}
    {od_UnknownFact an_UnknownFact cdd_UnknownFact cld_UnknownFact : Option Addr} {sl_UnknownFact ccs_UnknownFact csl_UnknownFact : Array (Option Value)} {oc_UnknownFact kV_UnknownFact dc_UnknownFact pm_UnknownFact ct_UnknownFact ccl_UnknownFact cl_UnknownFact : Value} {vs_UnknownFact : Array Value} {fi2_UnknownFact : Str} {tf_UnknownFact : Tok} {cdD_UnknownFact : ClassData}
    {nm_UnknownFact q_UnknownFact : Str} {N_UnknownFact : Addr} {bs_UnknownFact bm_UnknownFact : List Value} {sn_UnknownFact : List Str} {sub_UnknownFact : List Value} {ab_UnknownFact : Bool} {col_UnknownFact : Option Bool} {dd_UnknownFact : Option Addr} {k0_UnknownFact k1_UnknownFact k2_UnknownFact k3_UnknownFact k5_UnknownFact : Option Value}
    {od_NoCarry an_NoCarry cdd_NoCarry cld_NoCarry : Option Addr} {sl_NoCarry ccs_NoCarry csl_NoCarry : Array (Option Value)} {oc_NoCarry kV_NoCarry dc_NoCarry pm_NoCarry ct_NoCarry ccl_NoCarry cl_NoCarry : Value} {vs_NoCarry : Array Value} {fi2_NoCarry : Str} {tf_NoCarry : Tok} {cdD_NoCarry : ClassData}
    {nm_NoCarry q_NoCarry : Str} {N_NoCarry : Addr} {bs_NoCarry bm_NoCarry : List Value} {sn_NoCarry : List Str} {sub_NoCarry : List Value} {ab_NoCarry : Bool} {col_NoCarry : Option Bool} {dd_NoCarry : Option Addr} {k0_NoCarry k1_NoCarry k2_NoCarry k3_NoCarry k5_NoCarry : Option Value}
    {od2 an2 : Option Addr} {sl2 : Array (Option Value)} {oc2 kV2 dc2 pm2 cd2 ct2 : Value} {f2 : Addr}
    {od3 an3 : Option Addr} {sl3 : Array (Option Value)} {oc3 kV3 dc3 pm3 cd3 ct3 : Value} {f3 : Addr}
    {od4 an4 : Option Addr} {sl4 : Array (Option Value)} {oc4 kV4 dc4 pm4 cd4 ct4 : Value} {f4 : Addr}
    {od5 an5 : Option Addr} {sl5 : Array (Option Value)} {oc5 kV5 dc5 pm5 cd5 ct5 : Value} {f5 : Addr}
    {od6 an6 : Option Addr} {sl6 : Array (Option Value)} {oc6 kV6 dc6 pm6 cd6 ct6 : Value} {f6 : Addr}
    {od7 an7 : Option Addr} {sl7 : Array (Option Value)} {oc7 kV7 dc7 pm7 cd7 ct7 : Value} {f7 : Addr}
    {od8 an8 : Option Addr} {sl8 : Array (Option Value)} {oc8 kV8 dc8 pm8 cd8 ct8 : Value} {f8 : Addr}
    {od9 an9 : Option Addr} {sl9 : Array (Option Value)} {oc9 kV9 dc9 pm9 cd9 ct9 : Value} {f9 : Addr}
    {od10 an10 : Option Addr} {sl10 : Array (Option Value)} {oc10 kV10 dc10 pm10 cd10 ct10 : Value} {f10 : Addr}
    {od11 an11 : Option Addr} {sl11 : Array (Option Value)} {oc11 kV11 dc11 pm11 cd11 ct11 : Value} {f11 : Addr}
    {od12 an12 : Option Addr} {sl12 : Array (Option Value)} {oc12 kV12 dc12 pm12 cd12 ct12 : Value} {f12 : Addr}
    {od13 an13 : Option Addr} {sl13 : Array (Option Value)} {oc13 kV13 dc13 pm13 cd13 ct13 : Value} {f13 : Addr}
    {od14 an14 : Option Addr} {sl14 : Array (Option Value)} {oc14 kV14 dc14 pm14 cd14 ct14 : Value} {f14 : Addr}
    {od15 an15 : Option Addr} {sl15 : Array (Option Value)} {oc15 kV15 dc15 pm15 cd15 ct15 : Value} {f15 : Addr}
    {od16 an16 : Option Addr} {sl16 : Array (Option Value)} {oc16 kV16 dc16 pm16 cd16 ct16 : Value} {f16 : Addr}
    {od17 an17 : Option Addr} {sl17 : Array (Option Value)} {oc17 kV17 dc17 pm17 cd17 ct17 : Value} {f17 : Addr}
    {od18 an18 : Option Addr} {sl18 : Array (Option Value)} {oc18 kV18 dc18 pm18 cd18 ct18 : Value} {f18 : Addr}
    {od19 an19 : Option Addr} {sl19 : Array (Option Value)} {oc19 kV19 dc19 pm19 cd19 ct19 : Value} {f19 : Addr}
    {od20 an20 : Option Addr} {sl20 : Array (Option Value)} {oc20 kV20 dc20 pm20 cd20 ct20 : Value} {f20 : Addr}
    {od21 an21 : Option Addr} {sl21 : Array (Option Value)} {oc21 kV21 dc21 pm21 cd21 ct21 : Value} {f21 : Addr}
    {od22 an22 : Option Addr} {sl22 : Array (Option Value)} {oc22 kV22 dc22 pm22 cd22 ct22 : Value} {f22 : Addr}
    {od23 an23 : Option Addr} {sl23 : Array (Option Value)} {oc23 kV23 dc23 pm23 cd23 ct23 : Value} {f23 : Addr}
    {od24 an24 : Option Addr} {sl24 : Array (Option Value)} {oc24 kV24 dc24 pm24 cd24 ct24 : Value} {f24 : Addr}
    {od25 an25 : Option Addr} {sl25 : Array (Option Value)} {oc25 kV25 dc25 pm25 cd25 ct25 : Value} {f25 : Addr}
    {od26 an26 : Option Addr} {sl26 : Array (Option Value)} {oc26 kV26 dc26 pm26 cd26 ct26 : Value} {f26 : Addr}
    {od27 an27 : Option Addr} {sl27 : Array (Option Value)} {oc27 kV27 dc27 pm27 cd27 ct27 : Value} {f27 : Addr}
    {od28 an28 : Option Addr} {sl28 : Array (Option Value)} {oc28 kV28 dc28 pm28 cd28 ct28 : Value} {f28 : Addr}
    (aC_Account : PySem.W.nsIn K mainGlobals "Account" = some (some (.ref C_Account))) (pg_Account : PySem.W.plainGet K C_Account Str.empty = true) (hd_Account : PySem.W.hasDictIn K C_Account = true) (po_Account : PySem.W.plainOver K C_Account = true) (sa_Account : PySem.W.findIn K (.ref C_Account) "__setattr__" = some (some (.builtin "object.__setattr__"))) (mk_Account : PySem.W.makesIn K C_Account = true) (kc_Account : PySem.W.keepIn K (.ref C_Account) = true)
    (aC_Carry : PySem.W.nsIn K mainGlobals "Carry" = some (some (.ref C_Carry))) (pg_Carry : PySem.W.plainGet K C_Carry Str.empty = true) (hd_Carry : PySem.W.hasDictIn K C_Carry = true) (po_Carry : PySem.W.plainOver K C_Carry = true) (sa_Carry : PySem.W.findIn K (.ref C_Carry) "__setattr__" = some (some (.builtin "object.__setattr__"))) (mk_Carry : PySem.W.makesIn K C_Carry = true) (kc_Carry : PySem.W.keepIn K (.ref C_Carry) = true)
    (aC_Machine : PySem.W.nsIn K mainGlobals "Machine" = some (some (.ref C_Machine))) (pg_Machine : PySem.W.plainGet K C_Machine Str.empty = true) (hd_Machine : PySem.W.hasDictIn K C_Machine = true) (po_Machine : PySem.W.plainOver K C_Machine = true) (sa_Machine : PySem.W.findIn K (.ref C_Machine) "__setattr__" = some (some (.builtin "object.__setattr__"))) (mk_Machine : PySem.W.makesIn K C_Machine = true) (kc_Machine : PySem.W.keepIn K (.ref C_Machine) = true)
    (aC_MovedyearsError : PySem.W.nsIn K mainGlobals "MovedyearsError" = some (some (.ref C_MovedyearsError))) (ex_MovedyearsError : PySem.W.excIn K C_MovedyearsError [.type "ValueError", .type "Exception", .type "BaseException", .type "object"] "ValueError.__new__" = true) (kp_MovedyearsError : PySem.W.keepIn K (.ref C_MovedyearsError) = true) (sb_MovedyearsError : PySem.W.subIn K (.ref C_MovedyearsError) (.type "BaseException") = some true) (ty_MovedyearsError : PySem.W.typeIn K (.ref C_MovedyearsError) = some (.type "type")) (hd_MovedyearsError : PySem.W.hasDictIn K C_MovedyearsError = true) (ss_MovedyearsError : PySem.W.subIn K (.ref C_MovedyearsError) (.ref C_MovedyearsError) = some true)
    (aC_UnknownFact : PySem.W.nsIn K mainGlobals "UnknownFact" = some (some (.ref C_UnknownFact)))
    (fI_UnknownFact : PySem.W.findIn K (.ref C_UnknownFact) "__init__" = some (some (.ref fi_UnknownFact)))
    (tI_UnknownFact : PySem.W.typeIn K (.ref fi_UnknownFact) = some (.type "function"))
    (lk_UnknownFact : K.lookup fi_UnknownFact = some ⟨oc_UnknownFact, od_UnknownFact, .func (PySem.W.ksFn "__init__" "UnknownFact.__init__" (defArgs s_UnknownFact_init) (defBody s_UnknownFact_init) (defScope s_UnknownFact_init) .none kV_UnknownFact dc_UnknownFact pm_UnknownFact an_UnknownFact (.ref cda_UnknownFact) ct_UnknownFact cc_UnknownFact), sl_UnknownFact⟩)
    (co_UnknownFact : PySem.W.codeIn K (.ref cda_UnknownFact) "UnknownFact.__init__" = true)
    (lc_UnknownFact : K.lookup cda_UnknownFact = some ⟨ccl_UnknownFact, cdd_UnknownFact, .fields vs_UnknownFact, ccs_UnknownFact⟩)
    (v2_UnknownFact : vs_UnknownFact[2]? = some (.str fi2_UnknownFact tf_UnknownFact))
    (fl_UnknownFact : ((l.prog.main.file : Str) == fi2_UnknownFact) = true)
    (ce_UnknownFact : K.lookup cc_UnknownFact = some ⟨cl_UnknownFact, cld_UnknownFact, .cell (some (.ref C_UnknownFact)), csl_UnknownFact⟩)
    (cs_UnknownFact : PySem.W.clsIn K C_UnknownFact = some cdD_UnknownFact)
    (xl_UnknownFact : K.lookup C_UnknownFact = some (excClassObj nm_UnknownFact q_UnknownFact C_UnknownFact N_UnknownFact bs_UnknownFact bm_UnknownFact true sn_UnknownFact sub_UnknownFact ab_UnknownFact col_UnknownFact dd_UnknownFact k0_UnknownFact k1_UnknownFact k2_UnknownFact k3_UnknownFact k5_UnknownFact "ValueError.__new__"))
    (rv_UnknownFact : PySem.HandSPX.refsVE bm_UnknownFact = true)
    (sa_UnknownFact : PySem.W.findIn K (.ref C_UnknownFact) "__setattr__" = some (some (.builtin "object.__setattr__")))
    (sb_UnknownFact : PySem.W.subIn K (.ref C_UnknownFact) (.type "BaseException") = some true)
    (ty_UnknownFact : PySem.W.typeIn K (.ref C_UnknownFact) = some (.type "type"))
    (kp_UnknownFact : PySem.W.keepIn K (.ref C_UnknownFact) = true)
    (mr0_UnknownFact : PySem.W.mroIn K C_UnknownFact (.ref C_UnknownFact) = some true)
    (ve_UnknownFact : PySem.W.subIn K (.ref C_UnknownFact) (.type "ValueError") = some true)
    (ks_UnknownFact : PySem.W.ks_superIn K C_UnknownFact C_UnknownFact "__init__" = some (some (.builtin "ValueError.__init__")))
    (hd_UnknownFact : PySem.W.hasDictIn K C_UnknownFact = true)
    (ss_UnknownFact : PySem.W.subIn K (.ref C_UnknownFact) (.ref C_UnknownFact) = some true)
    (ga_UnknownFact : PySem.W.findIn K (.ref C_UnknownFact) "__getattribute__" = some (some (.builtin "BaseException.__getattribute__")))
    (gt_UnknownFact : PySem.W.findIn K (.ref C_UnknownFact) "__getattr__" = some none)
    (nf0_UnknownFact : PySem.W.findIn K (.ref C_UnknownFact) "fact" = some none)
    (aC_NoCarry : PySem.W.nsIn K mainGlobals "NoCarry" = some (some (.ref C_NoCarry)))
    (fI_NoCarry : PySem.W.findIn K (.ref C_NoCarry) "__init__" = some (some (.ref fi_NoCarry)))
    (tI_NoCarry : PySem.W.typeIn K (.ref fi_NoCarry) = some (.type "function"))
    (lk_NoCarry : K.lookup fi_NoCarry = some ⟨oc_NoCarry, od_NoCarry, .func (PySem.W.ksFn "__init__" "NoCarry.__init__" (defArgs s_NoCarry_init) (defBody s_NoCarry_init) (defScope s_NoCarry_init) .none kV_NoCarry dc_NoCarry pm_NoCarry an_NoCarry (.ref cda_NoCarry) ct_NoCarry cc_NoCarry), sl_NoCarry⟩)
    (co_NoCarry : PySem.W.codeIn K (.ref cda_NoCarry) "NoCarry.__init__" = true)
    (lc_NoCarry : K.lookup cda_NoCarry = some ⟨ccl_NoCarry, cdd_NoCarry, .fields vs_NoCarry, ccs_NoCarry⟩)
    (v2_NoCarry : vs_NoCarry[2]? = some (.str fi2_NoCarry tf_NoCarry))
    (fl_NoCarry : ((l.prog.main.file : Str) == fi2_NoCarry) = true)
    (ce_NoCarry : K.lookup cc_NoCarry = some ⟨cl_NoCarry, cld_NoCarry, .cell (some (.ref C_NoCarry)), csl_NoCarry⟩)
    (cs_NoCarry : PySem.W.clsIn K C_NoCarry = some cdD_NoCarry)
    (xl_NoCarry : K.lookup C_NoCarry = some (excClassObj nm_NoCarry q_NoCarry C_NoCarry N_NoCarry bs_NoCarry bm_NoCarry true sn_NoCarry sub_NoCarry ab_NoCarry col_NoCarry dd_NoCarry k0_NoCarry k1_NoCarry k2_NoCarry k3_NoCarry k5_NoCarry "ValueError.__new__"))
    (rv_NoCarry : PySem.HandSPX.refsVE bm_NoCarry = true)
    (sa_NoCarry : PySem.W.findIn K (.ref C_NoCarry) "__setattr__" = some (some (.builtin "object.__setattr__")))
    (sb_NoCarry : PySem.W.subIn K (.ref C_NoCarry) (.type "BaseException") = some true)
    (ty_NoCarry : PySem.W.typeIn K (.ref C_NoCarry) = some (.type "type"))
    (kp_NoCarry : PySem.W.keepIn K (.ref C_NoCarry) = true)
    (mr0_NoCarry : PySem.W.mroIn K C_NoCarry (.ref C_NoCarry) = some true)
    (ve_NoCarry : PySem.W.subIn K (.ref C_NoCarry) (.type "ValueError") = some true)
    (ks_NoCarry : PySem.W.ks_superIn K C_NoCarry C_NoCarry "__init__" = some (some (.builtin "ValueError.__init__")))
    (hd_NoCarry : PySem.W.hasDictIn K C_NoCarry = true)
    (ss_NoCarry : PySem.W.subIn K (.ref C_NoCarry) (.ref C_NoCarry) = some true)
    (ga_NoCarry : PySem.W.findIn K (.ref C_NoCarry) "__getattribute__" = some (some (.builtin "BaseException.__getattribute__")))
    (gt_NoCarry : PySem.W.findIn K (.ref C_NoCarry) "__getattr__" = some none)
    (nf0_NoCarry : PySem.W.findIn K (.ref C_NoCarry) "scheme" = some none)
    (nf1_NoCarry : PySem.W.findIn K (.ref C_NoCarry) "other" = some none)
    (sp_0 : PySem.W.nsIn K mainGlobals "super" = some none) (tp_0 : PySem.W.nsIn K cStatics "thirdparty.any" = some none) (tt_0 : (l.prog.main.scope.names.lookup ("super" : Str)).isSome = false)
    (sx_UnknownFact_MovedyearsError : PySem.W.subIn K (.ref C_UnknownFact) (.ref C_MovedyearsError) = some true)
    (sx_NoCarry_MovedyearsError : PySem.W.subIn K (.ref C_NoCarry) (.ref C_MovedyearsError) = some true)
    (na_Account_carries : PySem.W.findIn K (.ref C_Account) "carries" = some none)
    (na_Account_deeds : PySem.W.findIn K (.ref C_Account) "deeds" = some none)
    (na_Account_past : PySem.W.findIn K (.ref C_Account) "past" = some none)
    (na_Account_schemes : PySem.W.findIn K (.ref C_Account) "schemes" = some none)
    (na_Carry_cost : PySem.W.findIn K (.ref C_Carry) "cost" = some none)
    (na_Carry_to : PySem.W.findIn K (.ref C_Carry) "to" = some none)
    (na_Machine_facts : PySem.W.findIn K (.ref C_Machine) "facts" = some none)
    (na_Machine_gain : PySem.W.findIn K (.ref C_Machine) "gain" = some none)
    (na_Machine_leave : PySem.W.findIn K (.ref C_Machine) "leave" = some none)
    (na_Machine_step : PySem.W.findIn K (.ref C_Machine) "step" = some none)
    (a2 : PySem.W.findIn K (.ref C_Account) "__init__" = some (some (.ref f2))) (i2 : PySem.W.isFn K (.ref f2) = true)
    (l2 : K.lookup f2 = some ⟨oc2, od2, .func (PySem.W.fnOf "__init__" "Account.__init__" (defArgs s_Account_init) (defBody s_Account_init) (defScope s_Account_init) .none kV2 dc2 pm2 an2 cd2 ct2), sl2⟩) (c2 : PySem.W.codeIn K cd2 "Account.__init__" = true) (k2 : PySem.W.keepIn K (.ref f2) = true)
    (a3 : PySem.W.findIn K (.ref C_Account) "scheme" = some (some (.ref f3))) (i3 : PySem.W.isFn K (.ref f3) = true)
    (l3 : K.lookup f3 = some ⟨oc3, od3, .func (PySem.W.fnOf "scheme" "Account.scheme" (defArgs s_Account_scheme) (defBody s_Account_scheme) (defScope s_Account_scheme) .none kV3 dc3 pm3 an3 cd3 ct3), sl3⟩) (c3 : PySem.W.codeIn K cd3 "Account.scheme" = true) (k3 : PySem.W.keepIn K (.ref f3) = true)
    (a4 : PySem.W.findIn K (.ref C_Account) "state" = some (some (.ref f4))) (i4 : PySem.W.isFn K (.ref f4) = true)
    (l4 : K.lookup f4 = some ⟨oc4, od4, .func (PySem.W.fnOf "state" "Account.state" (defArgs s_Account_state) (defBody s_Account_state) (defScope s_Account_state) .none kV4 dc4 pm4 an4 cd4 ct4), sl4⟩) (c4 : PySem.W.codeIn K cd4 "Account.state" = true) (k4 : PySem.W.keepIn K (.ref f4) = true)
    (a5 : PySem.W.findIn K (.ref C_Account) "paid" = some (some (.ref f5))) (i5 : PySem.W.isFn K (.ref f5) = true)
    (l5 : K.lookup f5 = some ⟨oc5, od5, .func (PySem.W.fnOf "paid" "Account.paid" (defArgs s_Account_paid) (defBody s_Account_paid) (defScope s_Account_paid) .none kV5 dc5 pm5 an5 cd5 ct5), sl5⟩) (c5 : PySem.W.codeIn K cd5 "Account.paid" = true) (k5 : PySem.W.keepIn K (.ref f5) = true)
    (a6 : PySem.W.findIn K (.ref C_Account) "worth" = some (some (.ref f6))) (i6 : PySem.W.isFn K (.ref f6) = true)
    (l6 : K.lookup f6 = some ⟨oc6, od6, .func (PySem.W.fnOf "worth" "Account.worth" (defArgs s_Account_worth) (defBody s_Account_worth) (defScope s_Account_worth) .none kV6 dc6 pm6 an6 cd6 ct6), sl6⟩) (c6 : PySem.W.codeIn K cd6 "Account.worth" = true) (k6 : PySem.W.keepIn K (.ref f6) = true)
    (a7 : PySem.W.findIn K (.ref C_Account) "year" = some (some (.ref f7))) (i7 : PySem.W.isFn K (.ref f7) = true)
    (l7 : K.lookup f7 = some ⟨oc7, od7, .func (PySem.W.fnOf "year" "Account.year" (defArgs s_Account_year) (defBody s_Account_year) (defScope s_Account_year) .none kV7 dc7 pm7 an7 cd7 ct7), sl7⟩) (c7 : PySem.W.codeIn K cd7 "Account.year" = true) (k7 : PySem.W.keepIn K (.ref f7) = true)
    (a8 : PySem.W.findIn K (.ref C_Account) "move" = some (some (.ref f8))) (i8 : PySem.W.isFn K (.ref f8) = true)
    (l8 : K.lookup f8 = some ⟨oc8, od8, .func (PySem.W.fnOf "move" "Account.move" (defArgs s_Account_move) (defBody s_Account_move) (defScope s_Account_move) .none kV8 dc8 pm8 an8 cd8 ct8), sl8⟩) (c8 : PySem.W.codeIn K cd8 "Account.move" = true) (k8 : PySem.W.keepIn K (.ref f8) = true)
    (a9 : PySem.W.findIn K (.ref C_Account) "undo" = some (some (.ref f9))) (i9 : PySem.W.isFn K (.ref f9) = true)
    (l9 : K.lookup f9 = some ⟨oc9, od9, .func (PySem.W.fnOf "undo" "Account.undo" (defArgs s_Account_undo) (defBody s_Account_undo) (defScope s_Account_undo) .none kV9 dc9 pm9 an9 cd9 ct9), sl9⟩) (c9 : PySem.W.codeIn K cd9 "Account.undo" = true) (k9 : PySem.W.keepIn K (.ref f9) = true)
    (a10 : PySem.W.findIn K (.ref C_Account) "branch" = some (some (.ref f10))) (i10 : PySem.W.isFn K (.ref f10) = true)
    (l10 : K.lookup f10 = some ⟨oc10, od10, .func (PySem.W.fnOf "branch" "Account.branch" (defArgs s_Account_branch) (defBody s_Account_branch) (defScope s_Account_branch) .none kV10 dc10 pm10 an10 cd10 ct10), sl10⟩) (c10 : PySem.W.codeIn K cd10 "Account.branch" = true) (k10 : PySem.W.keepIn K (.ref f10) = true)
    (a11 : PySem.W.findIn K (.ref C_Machine) "__init__" = some (some (.ref f11))) (i11 : PySem.W.isFn K (.ref f11) = true)
    (l11 : K.lookup f11 = some ⟨oc11, od11, .func (PySem.W.fnOf "__init__" "Machine.__init__" (defArgs s_Machine_init) (defBody s_Machine_init) (defScope s_Machine_init) .none kV11 dc11 pm11 an11 cd11 ct11), sl11⟩) (c11 : PySem.W.codeIn K cd11 "Machine.__init__" = true) (k11 : PySem.W.keepIn K (.ref f11) = true)
    (a12 : PySem.W.findIn K (.ref C_Carry) "__init__" = some (some (.ref f12))) (i12 : PySem.W.isFn K (.ref f12) = true)
    (l12 : K.lookup f12 = some ⟨oc12, od12, .func (PySem.W.fnOf "__init__" "Carry.__init__" (defArgs s_Carry_init) (defBody s_Carry_init) (defScope s_Carry_init) .none kV12 dc12 pm12 an12 cd12 ct12), sl12⟩) (c12 : PySem.W.codeIn K cd12 "Carry.__init__" = true) (k12 : PySem.W.keepIn K (.ref f12) = true)
    (a13 : PySem.W.nsIn K mainGlobals "_law_cell" = some (some (.ref f13)))
    (l13 : K.lookup f13 = some ⟨oc13, od13, .func (PySem.W.fnOf "_law_cell" "_law_cell" (defArgs s__law_cell) (defBody s__law_cell) (defScope s__law_cell) .none kV13 dc13 pm13 an13 cd13 ct13), sl13⟩) (c13 : PySem.W.codeIn K cd13 "_law_cell" = true) (k13 : PySem.W.keepIn K (.ref f13) = true)
    (a14 : PySem.W.nsIn K mainGlobals "_law_row" = some (some (.ref f14)))
    (l14 : K.lookup f14 = some ⟨oc14, od14, .func (PySem.W.fnOf "_law_row" "_law_row" (defArgs s__law_row) (defBody s__law_row) (defScope s__law_row) .none kV14 dc14 pm14 an14 cd14 ct14), sl14⟩) (c14 : PySem.W.codeIn K cd14 "_law_row" = true) (k14 : PySem.W.keepIn K (.ref f14) = true)
    (a15 : PySem.W.nsIn K mainGlobals "_law_box" = some (some (.ref f15)))
    (l15 : K.lookup f15 = some ⟨oc15, od15, .func (PySem.W.fnOf "_law_box" "_law_box" (defArgs s__law_box) (defBody s__law_box) (defScope s__law_box) .none kV15 dc15 pm15 an15 cd15 ct15), sl15⟩) (c15 : PySem.W.codeIn K cd15 "_law_box" = true) (k15 : PySem.W.keepIn K (.ref f15) = true)
    (a16 : PySem.W.nsIn K mainGlobals "_law_draw" = some (some (.ref f16)))
    (l16 : K.lookup f16 = some ⟨oc16, od16, .func (PySem.W.fnOf "_law_draw" "_law_draw" (defArgs s__law_draw) (defBody s__law_draw) (defScope s__law_draw) .none kV16 dc16 pm16 an16 cd16 ct16), sl16⟩) (c16 : PySem.W.codeIn K cd16 "_law_draw" = true) (k16 : PySem.W.keepIn K (.ref f16) = true)
    (a17 : PySem.W.nsIn K mainGlobals "_law_same" = some (some (.ref f17)))
    (l17 : K.lookup f17 = some ⟨oc17, od17, .func (PySem.W.fnOf "_law_same" "_law_same" (defArgs s__law_same) (defBody s__law_same) (defScope s__law_same) .none kV17 dc17 pm17 an17 cd17 ct17), sl17⟩) (c17 : PySem.W.codeIn K cd17 "_law_same" = true) (k17 : PySem.W.keepIn K (.ref f17) = true)
    (a18 : PySem.W.nsIn K mainGlobals "_law_facts" = some (some (.ref f18)))
    (l18 : K.lookup f18 = some ⟨oc18, od18, .func (PySem.W.fnOf "_law_facts" "_law_facts" (defArgs s__law_facts) (defBody s__law_facts) (defScope s__law_facts) .none kV18 dc18 pm18 an18 cd18 ct18), sl18⟩) (c18 : PySem.W.codeIn K cd18 "_law_facts" = true) (k18 : PySem.W.keepIn K (.ref f18) = true)
    (a19 : PySem.W.nsIn K mainGlobals "_law_machine" = some (some (.ref f19)))
    (l19 : K.lookup f19 = some ⟨oc19, od19, .func (PySem.W.fnOf "_law_machine" "_law_machine" (defArgs s__law_machine) (defBody s__law_machine) (defScope s__law_machine) .none kV19 dc19 pm19 an19 cd19 ct19), sl19⟩) (c19 : PySem.W.codeIn K cd19 "_law_machine" = true) (k19 : PySem.W.keepIn K (.ref f19) = true)
    (a20 : PySem.W.nsIn K mainGlobals "_law_schemes" = some (some (.ref f20)))
    (l20 : K.lookup f20 = some ⟨oc20, od20, .func (PySem.W.fnOf "_law_schemes" "_law_schemes" (defArgs s__law_schemes) (defBody s__law_schemes) (defScope s__law_schemes) .none kV20 dc20 pm20 an20 cd20 ct20), sl20⟩) (c20 : PySem.W.codeIn K cd20 "_law_schemes" = true) (k20 : PySem.W.keepIn K (.ref f20) = true)
    (a21 : PySem.W.nsIn K mainGlobals "_law_carries" = some (some (.ref f21)))
    (l21 : K.lookup f21 = some ⟨oc21, od21, .func (PySem.W.fnOf "_law_carries" "_law_carries" (defArgs s__law_carries) (defBody s__law_carries) (defScope s__law_carries) .none kV21 dc21 pm21 an21 cd21 ct21), sl21⟩) (c21 : PySem.W.codeIn K cd21 "_law_carries" = true) (k21 : PySem.W.keepIn K (.ref f21) = true)
    (a22 : PySem.W.nsIn K mainGlobals "_law_year" = some (some (.ref f22)))
    (l22 : K.lookup f22 = some ⟨oc22, od22, .func (PySem.W.fnOf "_law_year" "_law_year" (defArgs s__law_year) (defBody s__law_year) (defScope s__law_year) .none kV22 dc22 pm22 an22 cd22 ct22), sl22⟩) (c22 : PySem.W.codeIn K cd22 "_law_year" = true) (k22 : PySem.W.keepIn K (.ref f22) = true)
    (a23 : PySem.W.nsIn K mainGlobals "_law_move" = some (some (.ref f23)))
    (l23 : K.lookup f23 = some ⟨oc23, od23, .func (PySem.W.fnOf "_law_move" "_law_move" (defArgs s__law_move) (defBody s__law_move) (defScope s__law_move) .none kV23 dc23 pm23 an23 cd23 ct23), sl23⟩) (c23 : PySem.W.codeIn K cd23 "_law_move" = true) (k23 : PySem.W.keepIn K (.ref f23) = true)
    (a24 : PySem.W.nsIn K mainGlobals "_law_done" = some (some (.ref f24)))
    (l24 : K.lookup f24 = some ⟨oc24, od24, .func (PySem.W.fnOf "_law_done" "_law_done" (defArgs s__law_done) (defBody s__law_done) (defScope s__law_done) .none kV24 dc24 pm24 an24 cd24 ct24), sl24⟩) (c24 : PySem.W.codeIn K cd24 "_law_done" = true) (k24 : PySem.W.keepIn K (.ref f24) = true)
    (a25 : PySem.W.nsIn K mainGlobals "_law_deed" = some (some (.ref f25)))
    (l25 : K.lookup f25 = some ⟨oc25, od25, .func (PySem.W.fnOf "_law_deed" "_law_deed" (defArgs s__law_deed) (defBody s__law_deed) (defScope s__law_deed) .none kV25 dc25 pm25 an25 cd25 ct25), sl25⟩) (c25 : PySem.W.codeIn K cd25 "_law_deed" = true) (k25 : PySem.W.keepIn K (.ref f25) = true)
    (a26 : PySem.W.nsIn K mainGlobals "_law_told" = some (some (.ref f26)))
    (l26 : K.lookup f26 = some ⟨oc26, od26, .func (PySem.W.fnOf "_law_told" "_law_told" (defArgs s__law_told) (defBody s__law_told) (defScope s__law_told) .none kV26 dc26 pm26 an26 cd26 ct26), sl26⟩) (c26 : PySem.W.codeIn K cd26 "_law_told" = true) (k26 : PySem.W.keepIn K (.ref f26) = true)
    (a27 : PySem.W.nsIn K mainGlobals "_law_alike" = some (some (.ref f27)))
    (l27 : K.lookup f27 = some ⟨oc27, od27, .func (PySem.W.fnOf "_law_alike" "_law_alike" (defArgs s__law_alike) (defBody s__law_alike) (defScope s__law_alike) .none kV27 dc27 pm27 an27 cd27 ct27), sl27⟩) (c27 : PySem.W.codeIn K cd27 "_law_alike" = true) (k27 : PySem.W.keepIn K (.ref f27) = true)
    (a28 : PySem.W.nsIn K mainGlobals "law" = some (some (.ref f28)))
    (l28 : K.lookup f28 = some ⟨oc28, od28, .func (PySem.W.fnOf "law" "law" (defArgs s_law) (defBody s_law) (defScope s_law) .none kV28 dc28 pm28 an28 cd28 ct28), sl28⟩) (c28 : PySem.W.codeIn K cd28 "law" = true) (k28 : PySem.W.keepIn K (.ref f28) = true)
    (z_dict : PySem.W.nsIn K mainGlobals "dict" = some none)
    (z_int : PySem.W.nsIn K mainGlobals "int" = some none)
    (z_len : PySem.W.nsIn K mainGlobals "len" = some none)
    (z_list : PySem.W.nsIn K mainGlobals "list" = some none)
    (z_range : PySem.W.nsIn K mainGlobals "range" = some none)
    (z_repr : PySem.W.nsIn K mainGlobals "repr" = some none) :
    ∃ fd : FuncData, (∀ (s : Shared) (v : Value), BindsTo s fd ⟨[v], []⟩ [("_law_script", v)]) ∧ ∀ base : Heap, K.In base → base.Ns mainGlobals mg → FnG l.prog w K mg base 6 fa fd ["_law_script"] (spLaw K) := by
  have e := hfa.symm.trans (PySem.W.mg_of X G a28)
  cases e
  let T : Txt l.prog K mg := {
    C_Account := C_Account,
    M_Account := PySem.W.mg_of X G aC_Account,
    L_Account := ⟨pg_Account, hd_Account, po_Account, sa_Account⟩,
    C_Carry := C_Carry,
    M_Carry := PySem.W.mg_of X G aC_Carry,
    L_Carry := ⟨pg_Carry, hd_Carry, po_Carry, sa_Carry⟩,
    C_Machine := C_Machine,
    M_Machine := PySem.W.mg_of X G aC_Machine,
    L_Machine := ⟨pg_Machine, hd_Machine, po_Machine, sa_Machine⟩,
    C_MovedyearsError := C_MovedyearsError,
    M_MovedyearsError := PySem.W.mg_of X G aC_MovedyearsError, ex_MovedyearsError := ex_MovedyearsError, kp_MovedyearsError := kp_MovedyearsError, sb_MovedyearsError := sb_MovedyearsError, ty_MovedyearsError := ty_MovedyearsError, em_MovedyearsError := PySem.W.exm_ref sb_MovedyearsError hd_MovedyearsError ty_MovedyearsError ss_MovedyearsError,
    C_UnknownFact := C_UnknownFact,
    M_UnknownFact := PySem.W.mg_of X G aC_UnknownFact, cc_UnknownFact_init := cc_UnknownFact, f_UnknownFact_init := fi_UnknownFact,
    d_UnknownFact_init := PySem.W.ksFn "__init__" "UnknownFact.__init__" (defArgs s_UnknownFact_init) (defBody s_UnknownFact_init) (defScope s_UnknownFact_init) .none kV_UnknownFact dc_UnknownFact pm_UnknownFact an_UnknownFact (.ref cda_UnknownFact) ct_UnknownFact cc_UnknownFact,
    F_UnknownFact_init := funS_mk lk_UnknownFact co_UnknownFact ⟨_, rfl, rfl⟩ lc_UnknownFact v2_UnknownFact fl_UnknownFact ce_UnknownFact cs_UnknownFact (PySem.W.mg_none_of X G sp_0) tp_0 tt_0,
    b_UnknownFact_init := L2.Binds.all (fun us hl => match us, hl with | [_, _], _ => rfl), sup_UnknownFact := ⟨⟨⟨nm_UnknownFact, q_UnknownFact, N_UnknownFact, bs_UnknownFact, bm_UnknownFact, sn_UnknownFact, sub_UnknownFact, ab_UnknownFact, col_UnknownFact, dd_UnknownFact, k0_UnknownFact, k1_UnknownFact, k2_UnknownFact, k3_UnknownFact, k5_UnknownFact, xl_UnknownFact, rv_UnknownFact⟩, sa_UnknownFact, sb_UnknownFact, ty_UnknownFact, kp_UnknownFact⟩, mr0_UnknownFact, ve_UnknownFact, ks_UnknownFact⟩, iC_UnknownFact := fI_UnknownFact, tI_UnknownFact := tI_UnknownFact, nf_UnknownFact := fun f hf => (List.mem_cons.mp hf).elim (fun e => e ▸ nf0_UnknownFact) ((fun f hf => nomatch hf) f), em_UnknownFact := PySem.W.exm_ref sb_UnknownFact hd_UnknownFact ty_UnknownFact ss_UnknownFact, xf_UnknownFact := ⟨ga_UnknownFact, gt_UnknownFact, sb_UnknownFact, hd_UnknownFact⟩,
    C_NoCarry := C_NoCarry,
    M_NoCarry := PySem.W.mg_of X G aC_NoCarry, cc_NoCarry_init := cc_NoCarry, f_NoCarry_init := fi_NoCarry,
    d_NoCarry_init := PySem.W.ksFn "__init__" "NoCarry.__init__" (defArgs s_NoCarry_init) (defBody s_NoCarry_init) (defScope s_NoCarry_init) .none kV_NoCarry dc_NoCarry pm_NoCarry an_NoCarry (.ref cda_NoCarry) ct_NoCarry cc_NoCarry,
    F_NoCarry_init := funS_mk lk_NoCarry co_NoCarry ⟨_, rfl, rfl⟩ lc_NoCarry v2_NoCarry fl_NoCarry ce_NoCarry cs_NoCarry (PySem.W.mg_none_of X G sp_0) tp_0 tt_0,
    b_NoCarry_init := L2.Binds.all (fun us hl => match us, hl with | [_, _, _], _ => rfl), sup_NoCarry := ⟨⟨⟨nm_NoCarry, q_NoCarry, N_NoCarry, bs_NoCarry, bm_NoCarry, sn_NoCarry, sub_NoCarry, ab_NoCarry, col_NoCarry, dd_NoCarry, k0_NoCarry, k1_NoCarry, k2_NoCarry, k3_NoCarry, k5_NoCarry, xl_NoCarry, rv_NoCarry⟩, sa_NoCarry, sb_NoCarry, ty_NoCarry, kp_NoCarry⟩, mr0_NoCarry, ve_NoCarry, ks_NoCarry⟩, iC_NoCarry := fI_NoCarry, tI_NoCarry := tI_NoCarry, nf_NoCarry := fun f hf => (List.mem_cons.mp hf).elim (fun e => (congrArg (fun z => PySem.W.findIn K (.ref C_NoCarry) z) e).trans nf0_NoCarry) ((fun f hf => (List.mem_cons.mp hf).elim (fun e => (congrArg (fun z => PySem.W.findIn K (.ref C_NoCarry) z) e).trans nf1_NoCarry) ((fun f hf => nomatch hf) f)) f), em_NoCarry := PySem.W.exm_ref sb_NoCarry hd_NoCarry ty_NoCarry ss_NoCarry, xf_NoCarry := ⟨ga_NoCarry, gt_NoCarry, sb_NoCarry, hd_NoCarry⟩,
    es_UnknownFact_MovedyearsError := PySem.W.exm_ref sb_MovedyearsError hd_MovedyearsError ty_MovedyearsError sx_UnknownFact_MovedyearsError,
    es_NoCarry_MovedyearsError := PySem.W.exm_ref sb_MovedyearsError hd_MovedyearsError ty_MovedyearsError sx_NoCarry_MovedyearsError,
    na_Account_carries := na_Account_carries,
    na_Account_deeds := na_Account_deeds,
    na_Account_past := na_Account_past,
    na_Account_schemes := na_Account_schemes,
    na_Carry_cost := na_Carry_cost,
    na_Carry_to := na_Carry_to,
    na_Machine_facts := na_Machine_facts,
    na_Machine_gain := na_Machine_gain,
    na_Machine_leave := na_Machine_leave,
    na_Machine_step := na_Machine_step,
    f_Account_init := f2,
    d_Account_init := PySem.W.fnOf "__init__" "Account.__init__" (defArgs s_Account_init) (defBody s_Account_init) (defScope s_Account_init) .none kV2 dc2 pm2 an2 cd2 ct2,
    F_Account_init := fun_mk (st := s_Account_init) l2 c2 k2,
    b_Account_init := (fun_mk (st := s_Account_init) l2 c2 k2).binds (ps := ["self", "schemes", "carries"]) (fun _ _ _ _ _ _ us hl => match us, hl with | [_, _, _], _ => rfl),
    mk_Account := ⟨mk_Account, a2, i2, kc_Account⟩,
    f_Account_scheme := f3,
    d_Account_scheme := PySem.W.fnOf "scheme" "Account.scheme" (defArgs s_Account_scheme) (defBody s_Account_scheme) (defScope s_Account_scheme) .none kV3 dc3 pm3 an3 cd3 ct3,
    F_Account_scheme := fun_mk (st := s_Account_scheme) l3 c3 k3,
    b_Account_scheme := (fun_mk (st := s_Account_scheme) l3 c3 k3).binds (ps := ["self"]) (fun _ _ _ _ _ _ us hl => match us, hl with | [_], _ => rfl),
    me_Account_scheme := ⟨a3, i3, k3⟩,
    f_Account_state := f4,
    d_Account_state := PySem.W.fnOf "state" "Account.state" (defArgs s_Account_state) (defBody s_Account_state) (defScope s_Account_state) .none kV4 dc4 pm4 an4 cd4 ct4,
    F_Account_state := fun_mk (st := s_Account_state) l4 c4 k4,
    b_Account_state := (fun_mk (st := s_Account_state) l4 c4 k4).binds (ps := ["self"]) (fun _ _ _ _ _ _ us hl => match us, hl with | [_], _ => rfl),
    me_Account_state := ⟨a4, i4, k4⟩,
    f_Account_paid := f5,
    d_Account_paid := PySem.W.fnOf "paid" "Account.paid" (defArgs s_Account_paid) (defBody s_Account_paid) (defScope s_Account_paid) .none kV5 dc5 pm5 an5 cd5 ct5,
    F_Account_paid := fun_mk (st := s_Account_paid) l5 c5 k5,
    b_Account_paid := (fun_mk (st := s_Account_paid) l5 c5 k5).binds (ps := ["self"]) (fun _ _ _ _ _ _ us hl => match us, hl with | [_], _ => rfl),
    me_Account_paid := ⟨a5, i5, k5⟩,
    f_Account_worth := f6,
    d_Account_worth := PySem.W.fnOf "worth" "Account.worth" (defArgs s_Account_worth) (defBody s_Account_worth) (defScope s_Account_worth) .none kV6 dc6 pm6 an6 cd6 ct6,
    F_Account_worth := fun_mk (st := s_Account_worth) l6 c6 k6,
    b_Account_worth := (fun_mk (st := s_Account_worth) l6 c6 k6).binds (ps := ["self"]) (fun _ _ _ _ _ _ us hl => match us, hl with | [_], _ => rfl),
    me_Account_worth := ⟨a6, i6, k6⟩,
    f_Account_year := f7,
    d_Account_year := PySem.W.fnOf "year" "Account.year" (defArgs s_Account_year) (defBody s_Account_year) (defScope s_Account_year) .none kV7 dc7 pm7 an7 cd7 ct7,
    F_Account_year := fun_mk (st := s_Account_year) l7 c7 k7,
    b_Account_year := (fun_mk (st := s_Account_year) l7 c7 k7).binds (ps := ["self", "fact"]) (fun _ _ _ _ _ _ us hl => match us, hl with | [_, _], _ => rfl),
    me_Account_year := ⟨a7, i7, k7⟩,
    f_Account_move := f8,
    d_Account_move := PySem.W.fnOf "move" "Account.move" (defArgs s_Account_move) (defBody s_Account_move) (defScope s_Account_move) .none kV8 dc8 pm8 an8 cd8 ct8,
    F_Account_move := fun_mk (st := s_Account_move) l8 c8 k8,
    b_Account_move := (fun_mk (st := s_Account_move) l8 c8 k8).binds (ps := ["self", "other"]) (fun _ _ _ _ _ _ us hl => match us, hl with | [_, _], _ => rfl),
    me_Account_move := ⟨a8, i8, k8⟩,
    f_Account_undo := f9,
    d_Account_undo := PySem.W.fnOf "undo" "Account.undo" (defArgs s_Account_undo) (defBody s_Account_undo) (defScope s_Account_undo) .none kV9 dc9 pm9 an9 cd9 ct9,
    F_Account_undo := fun_mk (st := s_Account_undo) l9 c9 k9,
    b_Account_undo := (fun_mk (st := s_Account_undo) l9 c9 k9).binds (ps := ["self"]) (fun _ _ _ _ _ _ us hl => match us, hl with | [_], _ => rfl),
    me_Account_undo := ⟨a9, i9, k9⟩,
    f_Account_branch := f10,
    d_Account_branch := PySem.W.fnOf "branch" "Account.branch" (defArgs s_Account_branch) (defBody s_Account_branch) (defScope s_Account_branch) .none kV10 dc10 pm10 an10 cd10 ct10,
    F_Account_branch := fun_mk (st := s_Account_branch) l10 c10 k10,
    b_Account_branch := (fun_mk (st := s_Account_branch) l10 c10 k10).binds (ps := ["self"]) (fun _ _ _ _ _ _ us hl => match us, hl with | [_], _ => rfl),
    me_Account_branch := ⟨a10, i10, k10⟩,
    f_Machine_init := f11,
    d_Machine_init := PySem.W.fnOf "__init__" "Machine.__init__" (defArgs s_Machine_init) (defBody s_Machine_init) (defScope s_Machine_init) .none kV11 dc11 pm11 an11 cd11 ct11,
    F_Machine_init := fun_mk (st := s_Machine_init) l11 c11 k11,
    b_Machine_init := (fun_mk (st := s_Machine_init) l11 c11 k11).binds (ps := ["self", "facts", "step", "gain", "leave"]) (fun _ _ _ _ _ _ us hl => match us, hl with | [_, _, _, _, _], _ => rfl),
    mk_Machine := ⟨mk_Machine, a11, i11, kc_Machine⟩,
    f_Carry_init := f12,
    d_Carry_init := PySem.W.fnOf "__init__" "Carry.__init__" (defArgs s_Carry_init) (defBody s_Carry_init) (defScope s_Carry_init) .none kV12 dc12 pm12 an12 cd12 ct12,
    F_Carry_init := fun_mk (st := s_Carry_init) l12 c12 k12,
    b_Carry_init := (fun_mk (st := s_Carry_init) l12 c12 k12).binds (ps := ["self", "to", "cost"]) (fun _ _ _ _ _ _ us hl => match us, hl with | [_, _, _], _ => rfl),
    mk_Carry := ⟨mk_Carry, a12, i12, kc_Carry⟩,
    f__law_cell := f13,
    d__law_cell := PySem.W.fnOf "_law_cell" "_law_cell" (defArgs s__law_cell) (defBody s__law_cell) (defScope s__law_cell) .none kV13 dc13 pm13 an13 cd13 ct13,
    F__law_cell := fun_mk (st := s__law_cell) l13 c13 k13,
    b__law_cell := (fun_mk (st := s__law_cell) l13 c13 k13).binds (ps := ["_law_script", "_law_k"]) (fun _ _ _ _ _ _ us hl => match us, hl with | [_, _], _ => rfl),
    m__law_cell := PySem.W.mg_of X G a13,
    k__law_cell := k13,
    f__law_row := f14,
    d__law_row := PySem.W.fnOf "_law_row" "_law_row" (defArgs s__law_row) (defBody s__law_row) (defScope s__law_row) .none kV14 dc14 pm14 an14 cd14 ct14,
    F__law_row := fun_mk (st := s__law_row) l14 c14 k14,
    b__law_row := (fun_mk (st := s__law_row) l14 c14 k14).binds (ps := ["_law_cell_here", "_law_k", "_law_many"]) (fun _ _ _ _ _ _ us hl => match us, hl with | [_, _, _], _ => rfl),
    m__law_row := PySem.W.mg_of X G a14,
    k__law_row := k14,
    f__law_box := f15,
    d__law_box := PySem.W.fnOf "_law_box" "_law_box" (defArgs s__law_box) (defBody s__law_box) (defScope s__law_box) .none kV15 dc15 pm15 an15 cd15 ct15,
    F__law_box := fun_mk (st := s__law_box) l15 c15 k15,
    b__law_box := (fun_mk (st := s__law_box) l15 c15 k15).binds (ps := ["_law_script", "_law_first", "_law_last"]) (fun _ _ _ _ _ _ us hl => match us, hl with | [_, _, _], _ => rfl),
    m__law_box := PySem.W.mg_of X G a15,
    k__law_box := k15,
    f__law_draw := f16,
    d__law_draw := PySem.W.fnOf "_law_draw" "_law_draw" (defArgs s__law_draw) (defBody s__law_draw) (defScope s__law_draw) .none kV16 dc16 pm16 an16 cd16 ct16,
    F__law_draw := fun_mk (st := s__law_draw) l16 c16 k16,
    b__law_draw := (fun_mk (st := s__law_draw) l16 c16 k16).binds (ps := ["_law_box_here", "_law_many"]) (fun _ _ _ _ _ _ us hl => match us, hl with | [_, _], _ => rfl),
    m__law_draw := PySem.W.mg_of X G a16,
    k__law_draw := k16,
    f__law_same := f17,
    d__law_same := PySem.W.fnOf "_law_same" "_law_same" (defArgs s__law_same) (defBody s__law_same) (defScope s__law_same) .none kV17 dc17 pm17 an17 cd17 ct17,
    F__law_same := fun_mk (st := s__law_same) l17 c17 k17,
    b__law_same := (fun_mk (st := s__law_same) l17 c17 k17).binds (ps := ["_law_one", "_law_other"]) (fun _ _ _ _ _ _ us hl => match us, hl with | [_, _], _ => rfl),
    m__law_same := PySem.W.mg_of X G a17,
    k__law_same := k17,
    f__law_facts := f18,
    d__law_facts := PySem.W.fnOf "_law_facts" "_law_facts" (defArgs s__law_facts) (defBody s__law_facts) (defScope s__law_facts) .none kV18 dc18 pm18 an18 cd18 ct18,
    F__law_facts := fun_mk (st := s__law_facts) l18 c18 k18,
    b__law_facts := (fun_mk (st := s__law_facts) l18 c18 k18).binds (ps := ["_law_box_here"]) (fun _ _ _ _ _ _ us hl => match us, hl with | [_], _ => rfl),
    m__law_facts := PySem.W.mg_of X G a18,
    k__law_facts := k18,
    f__law_machine := f19,
    d__law_machine := PySem.W.fnOf "_law_machine" "_law_machine" (defArgs s__law_machine) (defBody s__law_machine) (defScope s__law_machine) .none kV19 dc19 pm19 an19 cd19 ct19,
    F__law_machine := fun_mk (st := s__law_machine) l19 c19 k19,
    b__law_machine := (fun_mk (st := s__law_machine) l19 c19 k19).binds (ps := ["_law_box_here", "_law_facts_here", "_law_most"]) (fun _ _ _ _ _ _ us hl => match us, hl with | [_, _, _], _ => rfl),
    m__law_machine := PySem.W.mg_of X G a19,
    k__law_machine := k19,
    f__law_schemes := f20,
    d__law_schemes := PySem.W.fnOf "_law_schemes" "_law_schemes" (defArgs s__law_schemes) (defBody s__law_schemes) (defScope s__law_schemes) .none kV20 dc20 pm20 an20 cd20 ct20,
    F__law_schemes := fun_mk (st := s__law_schemes) l20 c20 k20,
    b__law_schemes := (fun_mk (st := s__law_schemes) l20 c20 k20).binds (ps := ["_law_box_here", "_law_most"]) (fun _ _ _ _ _ _ us hl => match us, hl with | [_, _], _ => rfl),
    m__law_schemes := PySem.W.mg_of X G a20,
    k__law_schemes := k20,
    f__law_carries := f21,
    d__law_carries := PySem.W.fnOf "_law_carries" "_law_carries" (defArgs s__law_carries) (defBody s__law_carries) (defScope s__law_carries) .none kV21 dc21 pm21 an21 cd21 ct21,
    F__law_carries := fun_mk (st := s__law_carries) l21 c21 k21,
    b__law_carries := (fun_mk (st := s__law_carries) l21 c21 k21).binds (ps := ["_law_plain"]) (fun _ _ _ _ _ _ us hl => match us, hl with | [_], _ => rfl),
    m__law_carries := PySem.W.mg_of X G a21,
    k__law_carries := k21,
    f__law_year := f22,
    d__law_year := PySem.W.fnOf "_law_year" "_law_year" (defArgs s__law_year) (defBody s__law_year) (defScope s__law_year) .none kV22 dc22 pm22 an22 cd22 ct22,
    F__law_year := fun_mk (st := s__law_year) l22 c22 k22,
    b__law_year := (fun_mk (st := s__law_year) l22 c22 k22).binds (ps := ["_law_account", "_law_fact"]) (fun _ _ _ _ _ _ us hl => match us, hl with | [_, _], _ => rfl),
    m__law_year := PySem.W.mg_of X G a22,
    k__law_year := k22,
    f__law_move := f23,
    d__law_move := PySem.W.fnOf "_law_move" "_law_move" (defArgs s__law_move) (defBody s__law_move) (defScope s__law_move) .none kV23 dc23 pm23 an23 cd23 ct23,
    F__law_move := fun_mk (st := s__law_move) l23 c23 k23,
    b__law_move := (fun_mk (st := s__law_move) l23 c23 k23).binds (ps := ["_law_account", "_law_other"]) (fun _ _ _ _ _ _ us hl => match us, hl with | [_, _], _ => rfl),
    m__law_move := PySem.W.mg_of X G a23,
    k__law_move := k23,
    f__law_done := f24,
    d__law_done := PySem.W.fnOf "_law_done" "_law_done" (defArgs s__law_done) (defBody s__law_done) (defScope s__law_done) .none kV24 dc24 pm24 an24 cd24 ct24,
    F__law_done := fun_mk (st := s__law_done) l24 c24 k24,
    b__law_done := (fun_mk (st := s__law_done) l24 c24 k24).binds (ps := ["_law_schemes_here", "_law_plain", "_law_past", "_law_deeds", "_law_deed_here"]) (fun _ _ _ _ _ _ us hl => match us, hl with | [_, _, _, _, _], _ => rfl),
    m__law_done := PySem.W.mg_of X G a24,
    k__law_done := k24,
    f__law_deed := f25,
    d__law_deed := PySem.W.fnOf "_law_deed" "_law_deed" (defArgs s__law_deed) (defBody s__law_deed) (defScope s__law_deed) .none kV25 dc25 pm25 an25 cd25 ct25,
    F__law_deed := fun_mk (st := s__law_deed) l25 c25 k25,
    b__law_deed := (fun_mk (st := s__law_deed) l25 c25 k25).binds (ps := ["_law_box_here", "_law_schemes_here"]) (fun _ _ _ _ _ _ us hl => match us, hl with | [_, _], _ => rfl),
    m__law_deed := PySem.W.mg_of X G a25,
    k__law_deed := k25,
    f__law_told := f26,
    d__law_told := PySem.W.fnOf "_law_told" "_law_told" (defArgs s__law_told) (defBody s__law_told) (defScope s__law_told) .none kV26 dc26 pm26 an26 cd26 ct26,
    F__law_told := fun_mk (st := s__law_told) l26 c26 k26,
    b__law_told := (fun_mk (st := s__law_told) l26 c26 k26).binds (ps := ["_law_account", "_law_deed_here"]) (fun _ _ _ _ _ _ us hl => match us, hl with | [_, _], _ => rfl),
    m__law_told := PySem.W.mg_of X G a26,
    k__law_told := k26,
    f__law_alike := f27,
    d__law_alike := PySem.W.fnOf "_law_alike" "_law_alike" (defArgs s__law_alike) (defBody s__law_alike) (defScope s__law_alike) .none kV27 dc27 pm27 an27 cd27 ct27,
    F__law_alike := fun_mk (st := s__law_alike) l27 c27 k27,
    b__law_alike := (fun_mk (st := s__law_alike) l27 c27 k27).binds (ps := ["_law_account", "_law_schemes_here", "_law_past", "_law_deeds"]) (fun _ _ _ _ _ _ us hl => match us, hl with | [_, _, _, _], _ => rfl),
    m__law_alike := PySem.W.mg_of X G a27,
    k__law_alike := k27,
    f_law := fa,
    d_law := PySem.W.fnOf "law" "law" (defArgs s_law) (defBody s_law) (defScope s_law) .none kV28 dc28 pm28 an28 cd28 ct28,
    F_law := fun_mk (st := s_law) l28 c28 k28,
    b_law := (fun_mk (st := s_law) l28 c28 k28).binds (ps := ["_law_script"]) (fun _ _ _ _ _ _ us hl => match us, hl with | [_], _ => rfl),
    m_law := PySem.W.mg_of X G a28,
    k_law := k28,
    z_dict := PySem.W.mg_none_of X G z_dict,
    z_int := PySem.W.mg_none_of X G z_int,
    z_len := PySem.W.mg_none_of X G z_len,
    z_list := PySem.W.mg_none_of X G z_list,
    z_range := PySem.W.mg_none_of X G z_range,
    z_repr := PySem.W.mg_none_of X G z_repr }
  exact ⟨T.d_law, fun s v => .of_eq rfl, fun base _ _ => ok_law T⟩
end DL
open PySem PySem.W PyProof.Rows in
set_option maxRecDepth 100000 in
set_option maxHeartbeats 0 in
theorem PySem.Challenge.cw_movedyears_k54_accounts_holds : PySem.Challenge.rw_movedyears_k54_accounts.Holds := by
  w_on; o_law; k_head; (case hw => w_witness2)
  k_fill
  refine DL.walkG (l := PySem.Challenge.rw_movedyears_k54_accounts) (k := 6) (x := "_law_script") rfl rfl ⟨rfl, by decide, by decide⟩ (fun w h Y => PySem.W.kIn_of Y) ?F
  case F =>
    intro w mg fa h KX G hmg
    refine' DL.all_mk KX G hmg ?aC_Account ?pg_Account ?hd_Account ?po_Account ?sa_Account ?mk_Account ?kc_Account ?aC_Carry ?pg_Carry ?hd_Carry ?po_Carry ?sa_Carry ?mk_Carry ?kc_Carry ?aC_Machine ?pg_Machine ?hd_Machine ?po_Machine ?sa_Machine ?mk_Machine ?kc_Machine ?aC_MovedyearsError ?ex_MovedyearsError ?kp_MovedyearsError ?sb_MovedyearsError ?ty_MovedyearsError ?hd_MovedyearsError ?ss_MovedyearsError ?aC_UnknownFact ?fI_UnknownFact ?tI_UnknownFact ?lk_UnknownFact ?co_UnknownFact ?lc_UnknownFact ?v2_UnknownFact ?fl_UnknownFact ?ce_UnknownFact ?cs_UnknownFact ?xl_UnknownFact ?rv_UnknownFact ?sa_UnknownFact ?sb_UnknownFact ?ty_UnknownFact ?kp_UnknownFact ?mr0_UnknownFact ?ve_UnknownFact ?ks_UnknownFact ?hd_UnknownFact ?ss_UnknownFact ?ga_UnknownFact ?gt_UnknownFact ?nf0_UnknownFact ?aC_NoCarry ?fI_NoCarry ?tI_NoCarry ?lk_NoCarry ?co_NoCarry ?lc_NoCarry ?v2_NoCarry ?fl_NoCarry ?ce_NoCarry ?cs_NoCarry ?xl_NoCarry ?rv_NoCarry ?sa_NoCarry ?sb_NoCarry ?ty_NoCarry ?kp_NoCarry ?mr0_NoCarry ?ve_NoCarry ?ks_NoCarry ?hd_NoCarry ?ss_NoCarry ?ga_NoCarry ?gt_NoCarry ?nf0_NoCarry ?nf1_NoCarry ?sp_0 ?tp_0 ?tt_0 ?sx_UnknownFact_MovedyearsError ?sx_NoCarry_MovedyearsError ?na_Account_carries ?na_Account_deeds ?na_Account_past ?na_Account_schemes ?na_Carry_cost ?na_Carry_to ?na_Machine_facts ?na_Machine_gain ?na_Machine_leave ?na_Machine_step ?a2 ?i2 ?l2 ?c2 ?k2 ?a3 ?i3 ?l3 ?c3 ?k3 ?a4 ?i4 ?l4 ?c4 ?k4 ?a5 ?i5 ?l5 ?c5 ?k5 ?a6 ?i6 ?l6 ?c6 ?k6 ?a7 ?i7 ?l7 ?c7 ?k7 ?a8 ?i8 ?l8 ?c8 ?k8 ?a9 ?i9 ?l9 ?c9 ?k9 ?a10 ?i10 ?l10 ?c10 ?k10 ?a11 ?i11 ?l11 ?c11 ?k11 ?a12 ?i12 ?l12 ?c12 ?k12 ?a13 ?l13 ?c13 ?k13 ?a14 ?l14 ?c14 ?k14 ?a15 ?l15 ?c15 ?k15 ?a16 ?l16 ?c16 ?k16 ?a17 ?l17 ?c17 ?k17 ?a18 ?l18 ?c18 ?k18 ?a19 ?l19 ?c19 ?k19 ?a20 ?l20 ?c20 ?k20 ?a21 ?l21 ?c21 ?k21 ?a22 ?l22 ?c22 ?k22 ?a23 ?l23 ?c23 ?k23 ?a24 ?l24 ?c24 ?k24 ?a25 ?l25 ?c25 ?k25 ?a26 ?l26 ?c26 ?k26 ?a27 ?l27 ?c27 ?k27 ?a28 ?l28 ?c28 ?k28 ?z_dict ?z_int ?z_len ?z_list ?z_range ?z_repr
    (case aC_Account => k_is)
    (case pg_Account => k_is)
    (case hd_Account => k_is)
    (case po_Account => k_is)
    (case sa_Account => k_is)
    (case mk_Account => k_is)
    (case kc_Account => k_is)
    (case aC_Carry => k_is)
    (case pg_Carry => k_is)
    (case hd_Carry => k_is)
    (case po_Carry => k_is)
    (case sa_Carry => k_is)
    (case mk_Carry => k_is)
    (case kc_Carry => k_is)
    (case aC_Machine => k_is)
    (case pg_Machine => k_is)
    (case hd_Machine => k_is)
    (case po_Machine => k_is)
    (case sa_Machine => k_is)
    (case mk_Machine => k_is)
    (case kc_Machine => k_is)
    (case aC_MovedyearsError => k_is)
    (case ex_MovedyearsError => k_exc)
    (case kp_MovedyearsError => k_is)
    (case sb_MovedyearsError => k_is)
    (case ty_MovedyearsError => k_is)
    (case hd_MovedyearsError => k_is)
    (case ss_MovedyearsError => k_is)
    (case aC_UnknownFact => k_is)
    (case fI_UnknownFact => k_is)
    (case tI_UnknownFact => k_is)
    (case lk_UnknownFact => k_is)
    (case co_UnknownFact => k_is)
    (case lc_UnknownFact => k_is)
    (case v2_UnknownFact => first | rfl | decide +kernel)
    (case fl_UnknownFact => first | rfl | decide +kernel)
    (case ce_UnknownFact => k_is)
    (case cs_UnknownFact => k_is)
    (case xl_UnknownFact => k_is)
    (case rv_UnknownFact => first | decide +kernel | rfl)
    (case sa_UnknownFact => k_is)
    (case sb_UnknownFact => k_is)
    (case ty_UnknownFact => k_is)
    (case kp_UnknownFact => k_is)
    (case mr0_UnknownFact => k_is)
    (case ve_UnknownFact => k_is)
    (case ks_UnknownFact => ks_is)
    (case hd_UnknownFact => k_is)
    (case ss_UnknownFact => k_is)
    (case ga_UnknownFact => k_is)
    (case gt_UnknownFact => k_is)
    (case nf0_UnknownFact => k_is)
    (case aC_NoCarry => k_is)
    (case fI_NoCarry => k_is)
    (case tI_NoCarry => k_is)
    (case lk_NoCarry => k_is)
    (case co_NoCarry => k_is)
    (case lc_NoCarry => k_is)
    (case v2_NoCarry => first | rfl | decide +kernel)
    (case fl_NoCarry => first | rfl | decide +kernel)
    (case ce_NoCarry => k_is)
    (case cs_NoCarry => k_is)
    (case xl_NoCarry => k_is)
    (case rv_NoCarry => first | decide +kernel | rfl)
    (case sa_NoCarry => k_is)
    (case sb_NoCarry => k_is)
    (case ty_NoCarry => k_is)
    (case kp_NoCarry => k_is)
    (case mr0_NoCarry => k_is)
    (case ve_NoCarry => k_is)
    (case ks_NoCarry => ks_is)
    (case hd_NoCarry => k_is)
    (case ss_NoCarry => k_is)
    (case ga_NoCarry => k_is)
    (case gt_NoCarry => k_is)
    (case nf0_NoCarry => k_is)
    (case nf1_NoCarry => k_is)
    (case sp_0 => k_is)
    (case tp_0 => k_is)
    (case tt_0 => first | rfl | decide +kernel)
    (case sx_UnknownFact_MovedyearsError => k_is)
    (case sx_NoCarry_MovedyearsError => k_is)
    (case na_Account_carries => k_is)
    (case na_Account_deeds => k_is)
    (case na_Account_past => k_is)
    (case na_Account_schemes => k_is)
    (case na_Carry_cost => k_is)
    (case na_Carry_to => k_is)
    (case na_Machine_facts => k_is)
    (case na_Machine_gain => k_is)
    (case na_Machine_leave => k_is)
    (case na_Machine_step => k_is)
    (case a2 => k_is)
    (case i2 => k_is)
    (case l2 => k_is)
    (case c2 => k_is)
    (case k2 => k_is)
    (case a3 => k_is)
    (case i3 => k_is)
    (case l3 => k_is)
    (case c3 => k_is)
    (case k3 => k_is)
    (case a4 => k_is)
    (case i4 => k_is)
    (case l4 => k_is)
    (case c4 => k_is)
    (case k4 => k_is)
    (case a5 => k_is)
    (case i5 => k_is)
    (case l5 => k_is)
    (case c5 => k_is)
    (case k5 => k_is)
    (case a6 => k_is)
    (case i6 => k_is)
    (case l6 => k_is)
    (case c6 => k_is)
    (case k6 => k_is)
    (case a7 => k_is)
    (case i7 => k_is)
    (case l7 => k_is)
    (case c7 => k_is)
    (case k7 => k_is)
    (case a8 => k_is)
    (case i8 => k_is)
    (case l8 => k_is)
    (case c8 => k_is)
    (case k8 => k_is)
    (case a9 => k_is)
    (case i9 => k_is)
    (case l9 => k_is)
    (case c9 => k_is)
    (case k9 => k_is)
    (case a10 => k_is)
    (case i10 => k_is)
    (case l10 => k_is)
    (case c10 => k_is)
    (case k10 => k_is)
    (case a11 => k_is)
    (case i11 => k_is)
    (case l11 => k_is)
    (case c11 => k_is)
    (case k11 => k_is)
    (case a12 => k_is)
    (case i12 => k_is)
    (case l12 => k_is)
    (case c12 => k_is)
    (case k12 => k_is)
    (case a13 => k_is)
    (case l13 => k_is)
    (case c13 => k_is)
    (case k13 => k_is)
    (case a14 => k_is)
    (case l14 => k_is)
    (case c14 => k_is)
    (case k14 => k_is)
    (case a15 => k_is)
    (case l15 => k_is)
    (case c15 => k_is)
    (case k15 => k_is)
    (case a16 => k_is)
    (case l16 => k_is)
    (case c16 => k_is)
    (case k16 => k_is)
    (case a17 => k_is)
    (case l17 => k_is)
    (case c17 => k_is)
    (case k17 => k_is)
    (case a18 => k_is)
    (case l18 => k_is)
    (case c18 => k_is)
    (case k18 => k_is)
    (case a19 => k_is)
    (case l19 => k_is)
    (case c19 => k_is)
    (case k19 => k_is)
    (case a20 => k_is)
    (case l20 => k_is)
    (case c20 => k_is)
    (case k20 => k_is)
    (case a21 => k_is)
    (case l21 => k_is)
    (case c21 => k_is)
    (case k21 => k_is)
    (case a22 => k_is)
    (case l22 => k_is)
    (case c22 => k_is)
    (case k22 => k_is)
    (case a23 => k_is)
    (case l23 => k_is)
    (case c23 => k_is)
    (case k23 => k_is)
    (case a24 => k_is)
    (case l24 => k_is)
    (case c24 => k_is)
    (case k24 => k_is)
    (case a25 => k_is)
    (case l25 => k_is)
    (case c25 => k_is)
    (case k25 => k_is)
    (case a26 => k_is)
    (case l26 => k_is)
    (case c26 => k_is)
    (case k26 => k_is)
    (case a27 => k_is)
    (case l27 => k_is)
    (case c27 => k_is)
    (case k27 => k_is)
    (case a28 => k_is)
    (case l28 => k_is)
    (case c28 => k_is)
    (case k28 => k_is)
    (case z_dict => k_is)
    (case z_int => k_is)
    (case z_len => k_is)
    (case z_list => k_is)
    (case z_range => k_is)
    (case z_repr => k_is)
