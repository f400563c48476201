import PyProof.Rows.All
import Wide.All
import OpenK.AllK
import Wide.FinOn
import HandS.ForMost
import HandS.ForExc
import HandS.Walk
import HandS.IsInst
import HandS.DictComp
import HandS.Deep
import HandS.Lambda
import HandS.ExcInit
import HandS.ExcField
import HandS.TryMany
import HandS.Conv
import HandS.NoneIn
import HandS.Zip
import HandS.RaiseMore
import HandS.CallSlots
import HandS.Flow
import HandS.Defaults
import KE.KEqSeq
import KE.GoesEnumKw
import PyProof.Rows.CallKw2
import KE.DataFind
import HandS.Codes
import HandS.OwnEq
import PyProof.ListStr
import HandS.Head0
import HandS.Head1
import HandS.Head2
import HandS.HeadEnd
import HandS.HeadHook1
import HandS.HeadHook2
import HandS.HeadHook3
import HandS.HeadHook4
import HandS.EndTab
import HandS.HeadWalk
import HandS.NestedK
import PySem.Challenge.RW_leastredo_k81_whole_rule_texts
set_option Elab.async false
set_option linter.all false
set_option maxRecDepth 100000
set_option maxHeartbeats 4000000
/-! Lb: what all laws of this log share: heaps kept but for the stream, data trees over the heap, a def's facts in one bundle. -/
namespace Lr
open PySem PySem.Spec
      PyProof.Rows L2

/-- what was tracked outside S is as it was; what was tracked is -/
structure Keep (S : List Addr) (H H' : Hp) : Prop where
  at_ : ∀ q o, q ∉ S → H q = some o → H' q = some o
  tr : ∀ q o, H q = some o → ∃ o', H' q = some o'
instance {S : List Addr} {H H' : Hp} : CoeFun (Keep S H H') (fun _ => ∀ q o, q ∉ S → H q = some o → H' q = some o) := ⟨Keep.at_⟩
theorem Keep.refl (S : List Addr) (H : Hp) : Keep S H H := ⟨fun _ _ _ h => h, fun _ o h => ⟨o, h⟩⟩
theorem Keep.trans {S : List Addr} {H H1 H2 : Hp} (a : Keep S H H1) (b : Keep S H1 H2) : Keep S H H2 :=
  ⟨fun q o n h => b q o n (a q o n h), fun q o h => let ⟨o1, h1⟩ := a.tr q o h; b.tr q o1 h1⟩
theorem tr_upd {H1 : Hp} {p : Addr} {o : HO} {q : Addr} (h : ∃ o', H1 q = some o') : ∃ o', upd H1 p o q = some o' := by
  by_cases e : q = p
  · subst e; exact ⟨o, upd_same⟩
  · obtain ⟨o', z⟩ := h
    exact ⟨o', by rw [upd_ne e]; exact z⟩
theorem Keep.new {S : List Addr} {H H1 : Hp} {p : Addr} {o : HO} (k : Keep S H H1) (h : H1 p = none) : Keep S H (upd H1 p o) := ⟨fun q u n e => by
  have z := k q u n e
  rw [upd_ne (ne_of_none z h)]
  exact z, fun q u e => tr_upd (k.tr q u e)⟩
theorem Keep.new' {S : List Addr} {H H1 : Hp} {p : Addr} {o : HO} (k : Keep S H H1) (h : H p = none) : Keep S H (upd H1 p o) := ⟨fun q u n e => by
  rw [upd_ne (ne_of_none e h)]
  exact k q u n e, fun q u e => tr_upd (k.tr q u e)⟩
theorem Keep.put {S : List Addr} {H H1 : Hp} {p : Addr} {o : HO} (k : Keep S H H1) (h : p ∈ S) : Keep S H (upd H1 p o) := ⟨fun q u n e => by
  rw [upd_ne (show q ≠ p from fun z => n (by rw [z]; exact h))]
  exact k q u n e, fun q u e => tr_upd (k.tr q u e)⟩
theorem Keep.free {S : List Addr} {H H1 : Hp} {p : Addr} (k : Keep S H H1) (h : H1 p = none) : H p = none := by
  cases e : H p with
  | none => rfl
  | some o =>
    obtain ⟨o', z⟩ := k.tr p o e
    rw [z] at h; cases h
theorem Keep.of_cons {S : List Addr} {H H1 : Hp} {p : Addr} (k : Keep (p :: S) H H1) (h : H p = none) : Keep S H H1 := ⟨fun q u n e => k q u (fun z => by
  rcases List.mem_cons.mp
        z with z | z
  · rw [z, h] at e; cases e
  · exact n z) e, k.tr⟩
theorem Keep.mono {S T : List Addr} {H H1 : Hp} (k : Keep S H H1) (h : ∀ x ∈ S, x ∈ T) : Keep T H H1 := ⟨fun q u n e => k q u (fun z => n (h q z)) e, k.tr⟩
theorem Keep.of_same {S : List Addr} {H H1 : Hp} (k : Same H H1) : Keep S H H1 := ⟨fun q u _ e => k q u e, fun q u e => ⟨u, k q u e⟩⟩
theorem Keep.same {H H1 : Hp} (k : Keep [] H H1) : Same H H1 := fun q u e => k q u (by simp) e

/-! ### data over the heap, none of it in S -/
mutual
def Dt (S : List Addr) (H : Hp) : PyData → V → Prop
  | .none, v => v = .non
  | .bool b, v => v = .bl b
  | .int i, v => v = .int i
  | .str x, v => v = .str x
  | .list ds, v => ∃ a xs, v = .ref a ∧ a ∉ S ∧ H a = some (.lst xs) ∧ DtAll S H ds xs
  | .tuple ds, v => ∃ a xs, v = .ref a ∧ a ∉ S ∧ H a = some (.tup xs) ∧ DtAll S H ds xs
  | .dict _, _ => False
def DtAll (S : List Addr) (H : Hp) : List PyData → List V → Prop
  | [], xs => xs = []
  | d :: ds, xs => ∃ x r, xs = x :: r ∧ Dt S H d x ∧ DtAll S H ds r
end
section
variable {S : List Addr} {H H' : Hp}
mutual
theorem Dt.keep (k : Keep S H H') : ∀ (d : PyData) (v : V), Dt S H d v → Dt S H' d v
  | .none, _, h => by unfold Dt at *; exact h
  | .bool b, _, h => by unfold Dt at *; exact h
  | .int i, _, h => by unfold Dt at *; exact h
  | .str x, _, h => by unfold Dt at *; exact h
  | .list ds, _, h => by
    unfold Dt at *
    obtain ⟨a, xs, e, n, q, z⟩ := h
    exact ⟨a, xs, e, n, k a _ n q, DtAll.keep k ds xs z⟩
  | .tuple ds, _, h => by
    unfold Dt at *
    obtain ⟨a, xs, e, n, q, z⟩ := h
    exact ⟨a, xs, e, n, k a _ n q, DtAll.keep k ds xs z⟩
  | .dict _, _, h => by unfold Dt at h; exact h.elim
theorem DtAll.keep (k : Keep S H H') : ∀ (ds : List PyData) (xs : List V), DtAll S H ds xs → DtAll S H' ds xs
  | [], _, h => by unfold DtAll at *; exact h
  | d :: ds, _, h => by
    unfold DtAll at *
    obtain ⟨x, r, e, h1, h2⟩ := h
    exact ⟨x, r, e, Dt.keep k d x h1, DtAll.keep k ds r h2⟩
end
mutual
theorem Dt.dp {K : PySem.W.Frag} : ∀ (d : PyData) (v : V), Dt S H d v → Dp K H v d
  | .none, _, h => by unfold Dt at h; subst h; exact .non
  | .bool b, _, h => by unfold Dt at h; subst h; exact .bl b
  | .int i, _, h => by unfold Dt at h; subst h; exact .int i
  | .str x, _, h => by unfold Dt at h; subst h; exact .str x
  | .list ds, _, h => by
    unfold Dt at h
    obtain ⟨a, xs, rfl, n, q, z⟩ := h
    exact .lst (SqL.of q) (DtAll.dp ds xs z)
  | .tuple ds, _, h => by
    unfold Dt at h
    obtain ⟨a, xs, rfl, n, q, z⟩ := h
    exact .tup (SqT.of q) (DtAll.dp ds xs z)
  | .dict _, _, h => by unfold Dt at h; exact h.elim
theorem DtAll.dp {K : PySem.W.Frag} : ∀ (ds : List PyData) (xs : List V), DtAll S H ds xs → DpAll K H xs ds
  | [], _, h => by unfold DtAll at h; subst h; exact .nil
  | d :: ds, _, h => by
    unfold DtAll at h
    obtain ⟨x, r, rfl, h1, h2⟩ := h
    exact .cons (Dt.dp d x h1) (DtAll.dp ds r h2)
end
theorem DtAll.length : ∀ {ds : List PyData} {xs : List V}, DtAll S H ds xs → xs.length = ds.length
  | [], _, h => by unfold DtAll at h; subst h; rfl
  | d :: ds, _, h => by
    unfold DtAll at h
    obtain ⟨x, r, rfl, _, h2⟩ := h
    simp [DtAll.length h2]
theorem DtAll.get : ∀ {ds : List PyData} {xs : List V}, DtAll S H ds xs → ∀ {i : Nat} {d : PyData}, ds[i]? = some d → ∃ x, xs[i]? = some x ∧ Dt S H d x
  | [], _, _, i, d, e => by simp at e
  | d :: ds, _, h, 0, d', e => by
    unfold DtAll at h
    obtain ⟨x, r, rfl, h1, _⟩ := h
    simp at e; subst e
    exact ⟨x, rfl, h1⟩
  | d :: ds, _, h, i + 1, d', e => by
    unfold DtAll at h
    obtain ⟨x, r, rfl, _, h2⟩ := h
    obtain ⟨y, q, z⟩ := DtAll.get h2 (i := i) (d := d') (by simpa using e)
    exact ⟨y, by simpa using q, z⟩
theorem DtAll.get' : ∀ {ds : List PyData} {xs : List V}, DtAll S H ds xs → ∀ {i : Nat} {x : V}, xs[i]? = some x → ∃ d, ds[i]? = some d ∧ Dt S H d x := by
  intro ds xs h i x e
  have hi := (List.getElem?_eq_some_iff.mp e).1
  have hl := h.length
  obtain ⟨y, q, z⟩ := h.get (i := i) (d := ds[i]'(by omega)) (by simp)
  rw [e] at q; cases q
  exact ⟨_, by simp, z⟩
theorem DtAll.append : ∀ {ds es : List PyData} {xs ys : List V}, DtAll S H ds xs → DtAll S H es ys → DtAll S H (ds ++ es) (xs ++ ys)
  | [], es, xs, ys, h, h' => by unfold DtAll at h; subst h; simpa using h'
  | d :: ds, es, _, ys, h, h' => by
    unfold DtAll at h
    obtain ⟨x, r, rfl, h1, h2⟩ := h
    show DtAll S H (d :: (ds ++ es)) _
    unfold DtAll
    exact ⟨x, r ++ ys, rfl, h1, DtAll.append h2 h'⟩
theorem DtAll.one {d : PyData} {x : V} (h : Dt S H d x) : DtAll S H [d] [x] := by
  unfold DtAll; exact ⟨x, [], rfl, h, by unfold DtAll; rfl⟩
theorem DtAll.nil : DtAll S H [] [] := by unfold DtAll; rfl
theorem DtAll.cons {d : PyData} {x : V} {ds : List PyData} {xs : List V} (h : Dt S H d x) (t : DtAll S H ds xs) : DtAll S H (d :: ds) (x :: xs) := by
  unfold DtAll; exact ⟨x, xs, rfl, h, t⟩
/-- texts, ints -/
theorem DtAll.strs : ∀ (l : List Str), DtAll S H (l.map PyData.str) (l.map V.str)
  | [] => DtAll.nil
  | x :: r => DtAll.cons (by unfold Dt; rfl) (DtAll.strs r)
theorem DtAll.ints : ∀ (l : List Int), DtAll S H (l.map PyData.int) (l.map V.int)
  | [] => DtAll.nil
  | x :: r => DtAll.cons (by unfold Dt; rfl) (DtAll.ints r)
theorem DtAll.of_strs : ∀ {l : List Str} {xs : List V}, DtAll S H (l.map PyData.str) xs → xs = l.map V.str
  | [], _, h => by unfold DtAll at h; exact h
  | x :: r, _, h => by
    unfold DtAll at h
    obtain ⟨y, t, rfl, h1, h2⟩ := h
    unfold Dt at h1
    rw [h1, DtAll.of_strs h2]; rfl
end

/-- all of S is tracked: nothing new is in it -/
def Trk (S : List Addr) (H : Hp) : Prop := ∀ s ∈ S, ∃ o, H s = some o
theorem Trk.nm {S : List Addr} {H : Hp} {p : Addr} (t : Trk S H) (h : H p = none) : p ∉ S := fun z => by
  obtain ⟨o, e⟩ := t p z
  rw [h] at e; cases e
theorem Trk.same {S : List Addr} {H H' : Hp} (t : Trk S H) (k : Same H H') : Trk S H' := fun s hs => let ⟨o, e⟩ := t s hs; ⟨o, k _ _ e⟩
theorem _root_.L2.Same.new {H H1 : Hp} {p : Addr} {o : HO} (k : Same H H1) (h : H1 p = none) : Same H (upd H1 p o) := fun q u e => by
  rw [upd_ne (ne_of_none (k _ _ e) h)]; exact k _ _ e
theorem _root_.L2.Same.put {H H1 : Hp} {p : Addr} {o : HO} (k : Same H H1) (h : H p = none) : Same H (upd H1 p o) := fun q u e => by
  rw [upd_ne (ne_of_none e h)]; exact k _ _ e
/-- data made anew since H -/
def New (H H' : Hp) (d : PyData) (v : V) : Prop := ∀ S, Trk S H → Dt S H' d v
theorem New.same {H H' H2 : Hp} {d : PyData} {v : V} (n : New H H' d v) (k : Same H' H2) : New H H2 d v := fun S t => Dt.keep (Keep.of_same k) _ _ (n S t)
theorem New.flat {H H' : Hp} {x : Str} : New H H' (.str x) (.str x) := fun S t => by unfold Dt; rfl
theorem DtAll.cons_iff {S : List Addr} {H : Hp} {d : PyData} {ds : List PyData} {xs : List V} : DtAll S H (d :: ds) xs ↔ ∃ x r, xs = x :: r ∧ Dt S H d x ∧ DtAll S H ds r := by
  constructor
  · intro h; unfold DtAll at h; exact h
  · intro h; unfold DtAll; exact h
theorem DtAll.nil_iff {S : List Addr} {H : Hp} {xs : List V} : DtAll S H [] xs ↔ xs = [] := by
  constructor
  · intro h; unfold DtAll at h; exact h
  · intro h; unfold DtAll; exact h
/-- a datum none of whose parts is in T, as these are not tracked -/
theorem Dt.avoid {S T : List Addr} {H : Hp} (hT : ∀ t ∈ T, H t = none) : ∀ (d : PyData) (v : V), Dt S H d v → Dt (T ++ S) H d v := by
  have key : ∀ (n : Nat) (d : PyData), sizeOf d ≤ n → (∀ v, Dt S H d v → Dt (T ++ S) H d v) := by
    intro n
    induction n with
    | zero => intro d hd; cases d <;> simp at hd
    | succ n ih =>
      have all : ∀ (ds : List PyData), sizeOf ds ≤ n → ∀ xs, DtAll S H ds xs → DtAll (T ++ S) H ds xs := by
        intro ds
        induction ds with
        | nil => intro _ xs h; rw [DtAll.nil_iff] at h ⊢; exact h
        | cons d ds ihd =>
          intro hs xs h
          simp at hs
          rw [DtAll.cons_iff] at h ⊢
          obtain ⟨x, r, e, h1, h2⟩ := h
          exact ⟨x, r, e, ih d (by omega) x h1, ihd (by omega) r h2⟩
      intro d hd v h
      have nin : ∀ a o, a ∉ S → H a = some o → a ∉ T ++ S := fun a o n e z => by
        rcases List.mem_append.mp z with z | z
        · rw [hT a z] at e; cases e
        · exact n z
      cases d with
      | list ds =>
        unfold Dt at *
        obtain ⟨a, xs, e, n, q, z⟩ := h
        exact ⟨a, xs, e, nin a _ n q, q, all ds (by simp at hd; omega) xs z⟩
      | tuple ds =>
        unfold Dt at *
        obtain ⟨a, xs, e, n, q, z⟩ := h
        exact ⟨a, xs, e, nin a _ n q, q, all ds (by simp at hd; omega) xs z⟩
      | _ => unfold Dt at *; exact h
  exact fun d v h => key _ d (Nat.le_refl _) v h

theorem Trk.keep {S T : List Addr} {H H' : Hp} (t : Trk S H) (k : Keep T H H') : Trk S H' := fun s hs => let ⟨o, e⟩ := t s hs; k.tr s o e
mutual
theorem Dt.mono {S T : List Addr} {H : Hp} (h : ∀ x ∈ S, x ∈ T) : ∀ (d : PyData) (v : V), Dt T H d v → Dt S H d v
  | .none, _, z => by unfold Dt at *; exact z
  | .bool b, _, z => by unfold Dt at *; exact z
  | .int i, _, z => by unfold Dt at *; exact z
  | .str x, _, z => by unfold Dt at *; exact z
  | .list ds, _, z => by
    unfold Dt at *
    obtain ⟨a, xs, e, n, q, r⟩ := z
    exact ⟨a, xs, e, fun m => n (h a m), q, DtAll.mono h ds xs r⟩
  | .tuple ds, _, z => by
    unfold Dt at *
    obtain ⟨a, xs, e, n, q, r⟩ := z
    exact ⟨a, xs, e, fun m => n (h a m), q, DtAll.mono h ds xs r⟩
  | .dict _, _, z => by unfold Dt at z; exact z.elim
theorem DtAll.mono {S T : List Addr} {H : Hp} (h : ∀ x ∈ S, x ∈ T) : ∀ (ds : List PyData) (xs : List V), DtAll T H ds xs → DtAll S H ds xs
  | [], _, z => by unfold DtAll at *; exact z
  | d :: ds, _, z => by
    unfold DtAll at *
    obtain ⟨x, r, e, h1, h2⟩ := z
    exact ⟨x, r, e, Dt.mono h d x h1, DtAll.mono h ds r h2⟩
end
/-- data made anew since H, where M may have changed -/
def NewM (M : List Addr) (H H' : Hp) (d : PyData) (v : V) : Prop := ∀ S, Trk S H → (∀ m ∈ M, m ∈ S) → Dt S H' d v
theorem New.toM {M : List Addr} {H H' : Hp} {d : PyData} {v : V} (n : New H H' d v) : NewM M H H' d v := fun S t _ => n S t
theorem NewM.toN {H H' : Hp} {d : PyData} {v : V} (n : NewM [] H H' d v) : New H H' d v := fun S t => n S t (fun _ h => nomatch h)
theorem NewM.keep {M : List Addr} {H H' H2 : Hp} {d : PyData} {v : V} (n : NewM M H H' d v) (k : Keep M H' H2) : NewM M H H2 d v := fun S t h => Dt.keep (k.mono h) _ _ (n S t h)
theorem NewM.pre {M : List Addr} {H0 H H' : Hp} {d : PyData} {v : V} (n : NewM M H H' d v) (k : Keep M H0 H) : NewM M H0 H' d v := fun S t h => n S (t.keep k) h
/-- a list at D that a loop fills with data made anew -/
structure Acc (M : List Addr) (H0 H' : Hp) (D : Addr) (ds : List PyData) : Prop where
  ex : ∃ acc, H' D = some (.lst acc) ∧ acc.length = ds.length ∧ ∀ S, Trk S H0 → (∀ m ∈ M, m ∈ S) → DtAll (D :: S) H' ds acc
  kp : Keep M H0 H'
  fr : H0 D = none
theorem Acc.start {M : List Addr} {H0 H1 : Hp} {D : Addr} (k : Keep M H0 H1) (h : H1 D = none) : Acc M H0 (upd H1 D (.lst [])) D [] :=
  ⟨⟨[], upd_same, rfl, fun S _ _ => DtAll.nil⟩, k.new h, k.free h⟩
theorem Acc.step {M : List Addr} {H0 H' H2 : Hp} {D : Addr} {ds : List PyData} {acc : List V} {d : PyData} {v : V} (a : Acc M H0 H' D ds) (tM : Trk M H0) (e : H' D = some (.lst acc)) (n : NewM M H' H2 d v) (k : Keep M H' H2) :
    H2 D = some (.lst acc) ∧ Acc M H0 (upd H2 D (.lst (acc ++ [v]))) D (ds ++ [d]) := by
  obtain ⟨acc', e', l, z⟩ := a.ex
  rw [e] at e'; cases e'
  have nDM : D ∉ M := tM.nm a.fr
  refine ⟨k _ _ nDM e, ⟨⟨acc ++ [v], upd_same, by simp [l], fun S t h => ?_⟩, (a.kp.trans k).new' a.fr, a.fr⟩⟩
  have nD : D ∉ S := t.nm a.fr
  have tS : Trk (D :: S) H' := fun s hs => by
    rcases List.mem_cons.mp
          hs with rfl | hs
    · exact ⟨_, e⟩
    · exact (t.keep a.kp) s hs
  have kM : Keep (D :: S) H' (upd H2 D (.lst (acc ++ [v]))) := (k.mono (fun m hm => List.mem_cons_of_mem _ (h m hm))).put (by simp)
  refine DtAll.append (DtAll.keep kM _ _ (z S t h)) (DtAll.one ?_)
  exact Dt.keep ((Keep.refl (D :: S) H2).put (by simp)) _ _ (n (D :: S) tS (fun m hm => List.mem_cons_of_mem _ (h m hm)))
theorem Acc.skip {M : List Addr} {H0 H' H2 : Hp} {D : Addr} {ds : List PyData} (a : Acc M H0 H' D ds) (tM : Trk M H0) (k : Keep M H' H2) : Acc M H0 H2 D ds := by
  obtain ⟨acc, e, l, z⟩ := a.ex
  have nDM : D ∉ M := tM.nm a.fr
  exact ⟨⟨acc, k _ _ nDM e, l, fun S t h => DtAll.keep (k.mono (fun m hm => List.mem_cons_of_mem _ (h m hm))) _ _ (z S t h)⟩, a.kp.trans k, a.fr⟩
theorem Acc.done {M : List Addr} {H0 H' : Hp} {D : Addr} {ds : List PyData} (a : Acc M H0 H' D ds) : NewM M H0 H' (.list ds) (.ref D) := fun S t h => by
  obtain ⟨acc, e, l, z⟩ := a.ex
  unfold Dt
  exact ⟨D, acc, rfl, t.nm a.fr, e, DtAll.mono (fun x hx => List.mem_cons_of_mem _ hx) _ _ (z S t h)⟩
/-- what is made anew: a tuple of data made anew -/
theorem NewM.tup {M : List Addr} {H0 H1 : Hp} {p : Addr} {ds : List PyData} {xs : List V} (k : Keep M H0 H1) (h : H1 p = none) (z : ∀ S, Trk S H0 → (∀ m ∈ M, m ∈ S) → DtAll S H1 ds xs) : NewM M H0 (upd H1 p (.tup xs)) (.tuple ds) (.ref p) := fun S t hm => by
  unfold Dt
  exact ⟨p, xs, rfl, t.nm (k.free h), upd_same, DtAll.keep ((Keep.refl S H1).new h) _ _ (z S t hm)⟩
theorem NewM.lst {M : List Addr} {H0 H1 : Hp} {p : Addr} {ds : List PyData} {xs : List V} (k : Keep M H0 H1) (h : H1 p = none) (z : ∀ S, Trk S H0 → (∀ m ∈ M, m ∈ S) → DtAll S H1 ds xs) : NewM M H0 (upd H1 p (.lst xs)) (.list ds) (.ref p) := fun S t hm => by
  unfold Dt
  exact ⟨p, xs, rfl, t.nm (k.free h), upd_same, DtAll.keep ((Keep.refl S H1).new h) _ _ (z S t hm)⟩

/-! ### a def of the module, in one bundle -/
structure Fd (K : PySem.W.Frag) (mg : Str → Option Value) (x : Str) (st : Stmt) (ps : List Str) where
  f : Addr
  fd : FuncData
  F : Fun K x x st f fd
  g : mg x = some (.ref f)
  b : Binds K fd ps []

/-- what a module's name holds -/
def GV (mg : Str → Option Value) (x : Str) (v : V) : Prop := ∃ u, mg x = some u ∧ RelV v u
/-- the built-ins' names stand as they were -/
structure Blt (mg : Str → Option Value) : Prop where
  len : mg "len" = none
  list : mg "list" = none
  tuple : mg "tuple" = none
  dict : mg "dict" = none
  int : mg "int" = none
  str : mg "str" = none
  bool : mg "bool" = none
  range : mg "range" = none
  enumerate : mg "enumerate" = none
  zip : mg "zip" = none
  sorted : mg "sorted" = none
  all : mg "all" = none
  isinstance : mg "isinstance" = none
  gLETTERS : GV mg "LETTERS" (.str ("abcdefghijklmnopqrstuvwxyz" : Str))
  gFIGURES : GV mg "FIGURES" (.str ("0123456789" : Str))

/-! ### the stream of draws: a list at a that holds the cells' list at b, and three ints; n bounds how many were drawn -/
structure StreamAt (a b : Addr) (n : Nat) (H : Hp) : Prop where
  ne : a ≠ b
  ex : ∃ (cells : List Int) (x c m : Int), H a = some (.lst [.ref b, .int x, .int c, .int m]) ∧ H b = some (.lst (cells.map V.int)) ∧ 0 ≤ x ∧ 0 ≤ c ∧ c ≤ n ∧ 0 ≤ m ∧ m < 2147483647 ∧ cells.length ≤ 1000
theorem StreamAt.mono {a b : Addr} {n m : Nat} {H : Hp} (s : StreamAt a b n H) (h : n ≤ m) : StreamAt a b m H := by
  obtain ⟨ne, cells, x, c, k, h1, h2, h3, h4, h5, h6⟩ := s
  exact ⟨ne, cells, x, c, k, h1, h2, h3, h4, by omega, h6⟩
theorem StreamAt.new {a b : Addr} {n : Nat} {H : Hp} {p : Addr} {o : HO} (s : StreamAt a b n H) (h : H p = none) : StreamAt a b n (upd H p o) := by
  obtain ⟨ne, cells, x, c, k, h1, h2, r⟩ := s
  exact ⟨ne, cells, x, c, k, by rw [upd_ne (ne_of_none h1 h)]; exact h1, by rw [upd_ne (ne_of_none h2 h)]; exact h2, r⟩
theorem StreamAt.put {a b : Addr} {n : Nat} {H : Hp} {p : Addr} {o : HO} (s : StreamAt a b n H) (ha : p ≠ a) (hb : p ≠ b) : StreamAt a b n (upd H p o) := by
  obtain ⟨ne, cells, x, c, k, h1, h2, r⟩ := s
  exact ⟨ne, cells, x, c, k, by rw [upd_ne ha.symm]; exact h1, by rw [upd_ne hb.symm]; exact h2, r⟩
theorem StreamAt.na {a b : Addr} {n : Nat} {H : Hp} {p : Addr} (s : StreamAt a b n H) (h : H p = none) : p ≠ a ∧ p ≠ b := by
  obtain ⟨ne, cells, x, c, k, h1, h2, r⟩ := s
  exact ⟨(ne_of_none h1 h).symm, (ne_of_none h2 h).symm⟩
theorem StreamAt.nm {a b : Addr} {n : Nat} {H : Hp} {p : Addr} (s : StreamAt a b n H) (h : H p = none) : p ∉ [a, b] := by
  have := s.na h
  simp [this.1, this.2]
theorem StreamAt.same {a b : Addr} {n : Nat} {H H' : Hp} (s : StreamAt a b n H) (k : Same H H') : StreamAt a b n H' := by
  obtain ⟨ne, cells, x, c, m, h1, h2, r⟩ := s
  exact ⟨ne, cells, x, c, m, k _ _ h1, k _ _ h2, r⟩
theorem NewM.strs {M : List Addr} {H0 H1 : Hp} {p : Addr} (l : List Str) (k : Keep M H0 H1) (h : H1 p = none) : NewM M H0 (upd H1 p (.tup (l.map V.str))) (.tuple (l.map .str)) (.ref p) := NewM.tup k h fun _ _ _ => DtAll.strs l
theorem StreamAt.kp {a b : Addr} {n : Nat} {H H' : Hp} {S : List Addr} (s : StreamAt a b n H) (k : Keep S H H') (na : a ∉ S) (nb : b ∉ S) : StreamAt a b n H' := by
  obtain ⟨ne, cells, x, c, m, h1, h2, r⟩ := s
  exact ⟨ne, cells, x, c, m, k _ _ na h1, k _ _ nb h2, r⟩
theorem StreamAt.trk {a b : Addr} {n : Nat} {H : Hp} (s : StreamAt a b n H) : Trk [a, b] H := by
  obtain ⟨ne, cells, x, c, m, h1, h2, r⟩ := s
  intro q hq
  rcases List.mem_cons.mp
        hq with rfl | hq
  · exact ⟨_, h1⟩
  · simp at hq; subst hq; exact ⟨_, h2⟩
theorem DtAll.avoid1 {S T : List Addr} {H : Hp} (hT : ∀ t ∈ T, H t = none) : ∀ {ds : List PyData} {xs : List V}, DtAll S H ds xs → DtAll (T ++ S) H ds xs
  | [], _, h => by rw [DtAll.nil_iff] at h ⊢; exact h
  | d :: ds, _, h => by
    obtain ⟨x, r, e, h1, h2⟩ := DtAll.cons_iff.mp h
    exact DtAll.cons_iff.mpr ⟨x, r, e, Dt.avoid hT d x h1, DtAll.avoid1 hT h2⟩
/-- a method of an own class, in one bundle -/
structure Md (K : PySem.W.Frag) (C : Addr) (m qual : Str) (st : Stmt) (ps : List Str) where
  f : Addr
  fd : FuncData
  F : Fun K m qual st f fd
  m : Meth K C m f
  b : Binds K fd ps []
end Lr
set_option Elab.async false
set_option linter.all false
set_option maxRecDepth 100000
set_option maxHeartbeats 4000000
/-! Vr: the layer's rules with the written part named: so their readings can stand within a comprehension's block, too. -/
namespace Lr
open PySem PySem.Spec
      PyProof.Rows L2
section
variable {X : Cx} (K : PySem.W.Frag)
theorem x_list (hK : X.K = K := by rfl) : IxR X (rIxL K) := by subst hK; exact ix_list
theorem x_seq (hK : X.K = K := by rfl) : IxR X (rIx K) := by subst hK; exact ix_seq
theorem x_tup (hK : X.K = K := by rfl) : IxR X (rIxT K) := by subst hK; exact ix_tup
theorem o_eqD (hu : X.A.units + 64 < cLine) (hK : X.K = K := by rfl) : OpR X (compareOp .Eq) (rEqD K) := by subst hK; exact op_eqD hu
theorem o_neD (hu : X.A.units + 64 < cLine) (hK : X.K = K := by rfl) : OpR X (compareOp .NotEq) (rNeD K) := by subst hK; exact op_neD hu
theorem o_in (hK : X.K = K := by rfl) : OpR X (compareOp .In) (rIn K false) := by subst hK; exact op_in_seq
theorem o_notIn (hK : X.K = K := by rfl) : OpR X (compareOp .NotIn) (rIn K true) := by subst hK; exact op_notIn_seq
theorem o_catT (hK : X.K = K := by rfl) : OpR X (binaryOp .Add) (rCatT K) := by subst hK; exact op_catT
theorem s_list (hK : X.K = K := by rfl) : SlR X (rSlL K) := by subst hK; exact sl_list
theorem s_tup (hK : X.K = K := by rfl) : SlR X (rSlT K) := by subst hK; exact sl_tup
def rLen (K : PySem.W.Frag) : List V → Hp → VK → Prop := fun xs H Q => ∃ p ys, xs = [V.ref p] ∧ (SqL K H p ys ∨ SqT K H p ys) ∧ Q (.int ys.length) H
theorem c_len (hK : X.K = K := by rfl) : CallR X (.builtin "len") (rLen K) := by subst hK; exact call_len_seq
def rLenS : List V → Hp → VK → Prop := fun xs H Q => ∃ z,
      xs = [.str z] ∧ z.length ≤ sizeLine ∧ Q (.int z.length) H
theorem c_lenS : CallR X (.builtin "len") rLenS := call_len_str
def rList (K : PySem.W.Frag) : List V → Hp → VK → Prop := fun xs H Q => ∃ p ys, xs = [.ref p] ∧ (SqL K H p ys ∨ SqT K H p ys) ∧ ∀ l, H l = none → Q (.ref l) (upd H l (.lst ys))
theorem c_list (hK : X.K = K := by rfl) : CallR X (.type "list") (rList K) := by subst hK; exact call_list_of
def rTuple (K : PySem.W.Frag) : List V → Hp → VK → Prop := fun xs H Q => ∃ p ys, xs = [.ref p] ∧ ((SqL K H p ys ∧ ∀ l, H l = none → Q (.ref l) (upd H l (.tup ys))) ∨ (SqT K H p ys ∧ Q (.ref p) H))
theorem c_tuple (hK : X.K = K := by rfl) : CallR X (.type "tuple") (rTuple K) := by subst hK; exact call_tuple_of
def rInt1 : List V → Hp → VK → Prop := fun xs H Q => (∃ i, xs = [.int i] ∧ Q (.int i) H) ∨ ∃ k, xs = [.bl k] ∧ Q (.int (if k then 1 else 0)) H
theorem c_int1 : CallR X (.type "int") rInt1 := call_int1
def rIntS : List V → Hp → VK → Prop := fun xs H Q => ∃ a n, xs = [.str a] ∧ PySem.intText? a = some n ∧ a.length ≤ 640 ∧ Q (.int n) H
theorem c_intS : CallR X (.type "int") rIntS := call_int_str
def rStrI : List V → Hp → VK → Prop := fun xs H Q => ∃ i : Int, xs = [.int i] ∧ i.natAbs.log2 < 1920 ∧ Q (.str (toString i)) H
theorem c_strI : CallR X (.type "str") rStrI := call_str_int
theorem c_sortS (hK : X.K = K := by rfl) : CallR X (.builtin "sorted") (rSortedS K) := by subst hK; exact cr_sortedS
theorem c_all (hc : X.calm = true) (hK : X.K = K := by rfl) : CallR X (.builtin "all") (rAll K) := by subst hK; exact cr_all hc
theorem c_any (hc : X.calm = true) (hK : X.K = K := by rfl) : CallR X (.builtin "any") (rAny K) := by subst hK; exact cr_any hc
def rDictP (K : PySem.W.Frag) : List V → Hp → VK → Prop := fun xs H Q => ∃ (a : Addr) (ps : List Addr) (kvs : List (Key × V)), xs = [.ref a] ∧ SqL K H a (ps.map V.ref) ∧ Paired (fun p kv => SqT K H p [kV kv.1, kv.2]) ps kvs ∧ ∀ p, H p = none → Q (.ref p) (upd H p (.dK (mergeK [] kvs)))
theorem c_dictP (hc : X.calm = true) (hK : X.K = K := by rfl) : CallR X (.type "dict") (rDictP K) := by subst hK; exact call_dictP hc
theorem c_isi (hK : X.K = K := by rfl) : CallR X (.builtin "isinstance") (rIsi K) := by subst hK; exact call_isi
theorem c_isiT (hK : X.K = K := by rfl) : CallR X (.builtin "isinstance") (rIsiT K) := by subst hK; exact call_isiT
def rAddS : R2 := fun x y H Q => ∃ i j, x = .str i ∧ y = .str j ∧ i.length + j.length ≤ sizeLine ∧ Q (.str (i ++ j)) H
theorem o_addS : OpR X (binaryOp .Add) rAddS := op_add_str
def rLtS : R2 := fun x y H Q => ∃ i j, x = .str i ∧ y = .str j ∧ Q (.bl (decide (i.cps.toList < j.cps.toList))) H
theorem o_ltS : OpR X (compareOp .Lt) rLtS := op_lt_str
def rInSign : R2 := fun x y H Q => ∃ (c : Nat) (z : Str), x = .str ⟨#[c]⟩ ∧ y = .str z ∧ Q (.bl (decide (c ∈ z.cps.toList))) H
theorem o_inSign : OpR X (compareOp .In) rInSign := op_in_sign
def rNotInSign : R2 := fun x y H Q => ∃ (c : Nat) (z : Str), x = .str ⟨#[c]⟩ ∧ y = .str z ∧ Q (.bl (!decide (c ∈ z.cps.toList))) H
theorem o_notInSign : OpR X (compareOp .NotIn) rNotInSign := op_notIn_sign
def rIsN : R2 := fun x y H Q => y =
      .non ∧ Q (.bl (decide (x = .non))) H
theorem o_isN : OpR X (compareOp .Is) rIsN := op_isN
def rNotN : R2 := fun x y H Q => y =
      .non ∧ Q (.bl (!decide (x = .non))) H
theorem o_notN : OpR X (compareOp .IsNot) rNotN := op_notN
def rJoin (K : PySem.W.Frag) : V → List V → Hp → VK → Prop := fun x xs H Q => ∃ a p, ∃ ys : List Str, x = .str a ∧ xs = [.ref p] ∧ (SqL K H p (ys.map V.str) ∨ SqT K H p (ys.map V.str)) ∧ (ys.map (·.length)).sum + ys.length * a.length ≤ 16777216 ∧ Q (.str (Txt.join a ys)) H
theorem m_join (hK : X.K = K := by rfl) : MtR X "str.join" (rJoin K) := by subst hK; exact mt_join
def rSplit : V → List V → Hp → VK → Prop := fun x xs H Q => ∃ a b, x = .str a ∧ xs = [.str b] ∧ (b.length == 0) = false ∧ a.length + 2 ≤ sizeLine ∧ rNewStrs (Txt.split a b) H Q
theorem m_split : MtR X "str.split" rSplit := mt_split
section
variable {o e : Expr} {es : List Expr} {to te : TE} {t : TA} {name : Str} {apos cpos pos : Pos} {T id : String} {r : V → List V → Hp → VK → Prop}
theorem e_bm (pa : PlainAttrs T) (slot : Slot T name id) (hty : typeOf (.builtin id) = pure (.type "method_descriptor")) (hm : MtR X id r) (ho : PE X o to) (ha : PA X (e :: es) t)
    (hbase : attributeBase o name X.env
          (eval o X.env) = eval o X.env := by rfl)
    (hpl : (((((backTo cpos (starEach (e :: es) X.env)).all fun x => !x.fst) && (backToKw cpos (keywordEach [] X.env)).all fun x => x.fst.isSome) && decide (((e :: es).length + ([] : List Keyword).length + if ([] : List Keyword).isEmpty = true then 0 else 1) < 30)) = true) := by rfl)
    (hline : (apos.endLine == cpos.line) = true := by rfl) (he : starEach (e :: es) X.env = (false, eval e X.env) :: starEach es X.env := by rfl) (hpl2 : (backTo cpos (starEach es X.env)).any (·.1) = false := by rfl)
    (hK : X.K = K := by rfl) : PE X (.Call (.Attribute o name apos) (e :: es) [] cpos) (tBM K T r to t) := by subst hK; exact pe_bm pa slot hty hm ho ha (hbase := hbase) (hfew := hpl) (hline := hline) (hs := he) (hplain := hpl2)
theorem e_bm0 (pa : PlainAttrs T) (slot : Slot T name id) (hty : typeOf (.builtin id) = pure (.type "method_descriptor")) (hm : MtR X id r) (ho : PE X o to)
    (hbase : attributeBase o name X.env (eval o X.env) = eval o X.env := by rfl) (hline : (apos.endLine == cpos.line) = true := by rfl) (hK : X.K = K := by rfl) : PE X (.Call (.Attribute o name apos) [] [] cpos) (tBM0 K T r to) := by subst hK; exact pe_bm0 pa slot hty hm ho hbase hline
theorem e_glob {x : Str} {v : V} (h : GV X.mg x v) (hg : Gl X x := by rfl) (hd : (x == ("__debug__" : Str)) = false := by decide) : PE X (.Name x pos) (tC v) := by
  obtain ⟨u, hm, r⟩ := h
  exact pe_glob hg hm r (hd := hd)
theorem e_ty (n : String) {x : Str} (hm : X.mg x = none) (hv : bootBuiltins x = some (.type n)) (hg : Gl X x := by rfl) (hn : x ≠ "__name__" := by decide) (hd : (x == ("__debug__" : Str)) = false := by decide) : PE X (.Name x pos) (tC (.ty n)) := by
  exact pe_bltn hg hm hv (show RelV (.ty n) (.type n) from rfl) (hn := hn) (hd := hd)
theorem e_fld {f : Str} (he : PE X e te) (hb : attributeBase e f X.env (eval e X.env) = eval e X.env := by rfl) (hK : X.K = K := by rfl) : PE X (.Attribute e f pos) (tFld K te f) := by subst hK; exact pe_fld he hb
theorem s_fld {f : Str} {pos' : Pos} (ha : PE X o to) (hv : PE X e te) (hs : swapsWith e (some (.Attribute o f pos')) pos.line X.env = pure false := by rfl) (hK : X.K = K := by rfl) : PS X (.Assign [.Attribute o f pos'] e pos) (sFld K to te f) := by subst hK; exact ps_fld ha hv hs
theorem w_list {tg : Expr} (hl : PE X e te) (hK : X.K = K := by rfl) : PI X tg e (iList K te) := by subst hK; exact pi_list hl
theorem w_tup {tg : Expr} (hl : PE X e te) (hK : X.K = K := by rfl) : PI X tg e (iTup K te) := by subst hK; exact pi_tup hl
theorem w_enum {p tpos : Pos} {elts : List Expr} {kk : Nat} (hg : Gl X "enumerate") (hm : X.mg "enumerate" = none) (ha : PA X [e] t) (hs : starEach [e] X.env = [(false, eval e X.env)] := by rfl) (hK : X.K = K := by rfl) :
    PI X (.Tuple elts kk tpos) (.Call (.Name "enumerate" p) [e] [] pos) (iEnum K t) := by subst hK; exact pi_enum hg hm ha hs
theorem w_zip {e2 : Expr} {p tpos : Pos} {elts : List Expr} {kk : Nat} (hg : Gl X "zip") (hm : X.mg "zip" = none) (ha : PA X [e, e2] t)
    (hs : starEach [e, e2] X.env = (false, eval e X.env) :: starEach [e2] X.env := by rfl) (hpl : (backTo pos (starEach [e2] X.env)).any (·.1) = false := by rfl) (hK : X.K = K := by rfl) :
    PI X (.Tuple elts kk tpos) (.Call (.Name "zip" p) [e, e2] [] pos) (RZ.iZipA K t) := by subst hK; exact RZ.pi_zipA hg hm ha hs hpl
theorem g_tup {k : Nat} {t : TGs} {n : Nat} (hc : X.calm = true) (h : PGs X es t)
    (hn : (assignEach es X.env).length = n := by rfl) (hst : (assignEach es X.env).findIdx? (·.1) = none := by rfl) (hK : X.K = K := by rfl) : PG X (.Tuple es k pos) (gTup K n t) := by subst hK; exact pg_tup hc h hn hst
def tTru (K : PySem.W.Frag) (ta : TE) : TT := fun σ
      H Q => ta σ H fun x H' => ∃ k, TruV K x H' k ∧ Q k H'
theorem t_truth (ha : PE X e te) (he : ∀ whole, isTrue e X.env whole = (do let v ← whole; standAt e.pos; holding [v] (truthy v)) := by intro _; rfl) (hK : X.K = K := by rfl) : PT X e (tTru K te) := by subst hK; exact pt_truth ha he
end
end
end Lr
set_option Elab.async false
set_option linter.all false
set_option maxRecDepth 100000
set_option maxHeartbeats 4000000
/-! Vc: a reading is walked by its head: one lemma a form, each says what is left. -/
namespace Lr
open PySem PySem.Spec
      PyProof.Rows L2
section
variable {K : PySem.W.Frag} {σ : L2.St} {H : Hp} {Q : VK} {D : Ends} {ta tb tc : TE} {A B : TS} {u v : V}
theorem i_seq (h : A { D with nx := B D } σ H) : tSeq A B D σ H := h
theorem i_asg {g : TG} (h : ta σ H fun x H1 => g x σ H1 D.nx) : tAsg ta g D σ H := h
theorem i_ret (h : ta σ H D.rt) : tRet ta D σ H := h
theorem i_next (h : D.nx σ H) : tNext D σ H := h
theorem i_brk (h : D.bk σ H) : tBreak D σ H := h
theorem i_cont (h : D.ct σ H) : tCont D σ H := h
theorem i_drop (h : ta σ H fun _ H1 => D.nx σ H1) : tDrop ta D σ H := h
theorem i_ifS {c : TT} (h : c σ H fun b H1 => if b = true then A D σ H1 else B D σ H1) : tIfS c A B D σ H := h
theorem i_if {c : TT} (h : c σ H fun b H1 => if b = true then ta σ H1 Q else tb σ H1 Q) : tIf c ta tb σ H Q := h
theorem i_and {c d : TT} {Q : Bool → Hp → Prop} (h : c σ H fun b H1 => if b = true then d σ H1 Q else Q false H1) : tAnd c d σ H Q := h
theorem i_or {c d : TT} {Q : Bool → Hp → Prop} (h : c σ H fun b H1 => if b = true then Q true H1 else d σ H1 Q) : tOr c d σ H Q := h
theorem i_not {c : TT} {Q : Bool → Hp → Prop} (h : c σ H fun b H1 => Q (!b) H1) : tNot c σ H Q := h
theorem i_test {Q : Bool → Hp → Prop} (h : ta σ H fun x H' => ∃ k, x = .bl k ∧ Q k H') : tTest ta σ H Q := h
theorem i_tB {Q : Bool → Hp → Prop} (h : ta σ H fun x H' => ∃ k, x = .bl k ∧ Q k H') : tB ta σ H Q := h
theorem i_bl {b : Bool} {R : Bool → Prop} (h : R b) : ∃ k, V.bl b = V.bl k ∧ R k := ⟨b, rfl, h⟩
theorem i_yes {Q : Bool → Hp → Prop} (h : Q true H) : tYes σ H Q := h
theorem i_op {r : R2} (h : ta σ H fun x H1 => tb σ H1 fun y H2 => r x y H2 Q) : tOp r ta tb σ H Q := h
theorem i_un {r : V → Hp → VK → Prop} (h : ta σ H fun x H1 => r x H1 Q) : tUn r ta σ H Q := h
theorem i_chain {r r' : R2} (h : ta σ H fun x H1 => tb σ H1 fun y H2 => r x y H2 fun z H3 => ∃ k, z = .bl k ∧ (if k = true then tc σ H3 fun w' H4 => r' y w' H4 Q else Q (.bl false) H3)) : tChain r r' ta tb tc σ H Q := h
theorem i_andV (h : ta σ H fun x H1 => ∃ c, x = .bl c ∧ if c = true then tb σ H1 Q else Q (.bl false) H1) : tAndV ta tb σ H Q := h
theorem i_orV (h : ta σ H fun x H1 => ∃ c, x = .bl c ∧ if c = true then Q (.bl true) H1 else tb σ H1 Q) : tOrV ta tb σ H Q := h
theorem i_notV (h : ta σ H fun x H1 => ∃ c, x = .bl c ∧ Q (.bl (!c)) H1) : tNotV ta σ H Q := h
theorem i_cb {r : List V → Hp → VK → Prop} {t : TA} (h : t σ H fun vs H1 => r vs H1 Q) : tCB r t σ H Q := h
theorem i_cons {t : TA} {R : List V → Hp → Prop} (h : ta σ H fun x H1 => t σ H1 fun xs H2 => R (x :: xs) H2) : tCons ta t σ H R := h
theorem i_nil {R : List V → Hp → Prop} (h : R [] H) : tNil σ H R := h
theorem i_bm {T : String} {r : V → List V → Hp → VK → Prop} {t : TA} (h : ta σ H fun x H1 => tyV K T x H1 ∧ t σ H1 fun xs H2 => r x xs H2 Q) : tBM K T r ta t σ H Q := h
theorem i_bm0 {T : String} {r : V → List V → Hp → VK → Prop} (h : ta σ H fun x H1 => tyV K T x H1 ∧ r x [] H1 Q) : tBM0 K T r ta σ H Q := h
theorem i_tyl {a : Addr} {xs : List V} {R : Prop} (h : H a = some (.lst xs)) (q : R) : tyV K "list" (.ref a) H ∧ R := ⟨.inl ⟨rfl, _, SqL.of h⟩, q⟩
theorem i_var {i : Nat} (e : σ[i]? = some (some v)) (h : Q v H) : tVar i σ H Q := ⟨v, e, h⟩
theorem i_c (h : Q v H) : tC v σ H Q := h
theorem i_name {i : Nat} {R : L2.St → Hp → Prop} (h : R (σ.set i (some v)) H) : gName i v σ H R := h
theorem i_sub {t : TSet} {R : L2.St → Hp → Prop} (h : ta σ H fun o H1 => tb σ H1 fun i H2 => t o i v H2 fun H3 => R σ H3) : gSub ta tb t v σ H R := h
theorem i_call {sp : Sp} {dvs : List V} {E : XK} {t : TA} (h : t σ H fun vs H1 => sp (vs ++ dvs) H1 Q E) : tCall sp dvs E t σ H Q := h
theorem i_lst {t : TA} (h : t σ H fun xs H1 => xs.length ≤ sizeLine ∧ ∀ p, H1 p = none → Q (.ref p) (upd H1 p (.lst xs))) : tLst t σ H Q := h
theorem i_tup {t : TA} (h : t σ H fun xs H1 => xs.length ≤ sizeLine ∧ ∀ p, H1 p = none → Q (.ref p) (upd H1 p (.tup xs))) : tTup t σ H Q := h
theorem i_par {i j : Nat} {t : TA} (h : t σ H fun vs H1 => ∃ v w, vs = [v, w] ∧ D.nx ((σ.set i (some v)).set j (some w)) H1) : tPar i j t D σ H := h
theorem i_par2 {R : V → V → Prop} (h : R u v) : ∃ a b, [u, v] = [a, b] ∧ R a b := ⟨u, v, rfl, h⟩
theorem i_sl {r : V → Option Int → Option Int → Hp → VK → Prop} {tl th : TO} (h : ta σ H fun x H1 => tl σ H1 fun l H2 => th σ H2 fun u H3 => r x l u H3 Q) : L2.tSl r ta tl th σ H Q := h
theorem i_np {R : Option Int → Hp → Prop} (h : R none H) : tNoPart σ H R := h
theorem i_pt {R : Option Int → Hp → Prop} (h : ta σ H fun x H1 => ∃ i, x = .int i ∧ R (some i) H1) : tPart ta σ H R := h
theorem i_int {i : Int} {R : Int → Prop} (h : R i) : ∃ k, V.int i = V.int k ∧ R k := ⟨i, rfl, h⟩
theorem i_m0 {r : V → List V → Hp → VK → Prop} (h : ta σ H fun x H1 => (∃ a, x = .str a) ∧ r x [] H1 Q) : tM0 r ta σ H Q := h
theorem i_m1 {r : V → List V → Hp → VK → Prop} (h : ta σ H fun x H1 => (∃ a, x = .str a) ∧ tb σ H1 fun y H2 => r x [y] H2 Q) : tM1 r ta tb σ H Q := h
theorem i_isS {z : Str} {R : Prop} (h : R) : (∃ a, V.str z = V.str a) ∧ R := ⟨⟨z, rfl⟩, h⟩
-- operators on known kinds
theorem i_rI0 {g : Int → Int → V} {i j : Int} (h : Q (g i j) H) : rI0 g (.int i) (.int j) H Q := ⟨i, j, rfl, rfl, h⟩
theorem i_rI {C : Int → Int → Prop} {g : Int → Int → V} {i j : Int} (c : C i j) (h : Q (g i j) H) : rI C g (.int i) (.int j) H Q := ⟨i, j, rfl, rfl, c, h⟩
theorem i_mod {i j : Int} (c : j ≠ 0) (q : Q (.int (i.fmod j)) H) : rI (fun _ j => j ≠ 0) (fun i j => V.int (i.fmod j)) (.int i) (.int j) H Q := ⟨i, j, rfl, rfl, c, q⟩
theorem i_fdiv {i j : Int} (c : j ≠ 0) (d : j.natAbs < 1073741824) (q : Q (.int (i.fdiv j)) H) : rI CDivN (fun i j => V.int (i.fdiv j)) (.int i) (.int j) H Q := ⟨i, j, rfl, rfl, ⟨c, d⟩, q⟩
theorem i_mulL {i j : Int} (c : -(2 ^ 64) < i) (d : i < 2 ^ 64) (q : Q (.int (i * j)) H) : rI CMul (fun i j => V.int (i * j)) (.int i) (.int j) H Q := ⟨i, j, rfl, rfl, .inl ⟨c, d⟩, q⟩
theorem i_mulR {i j : Int} (c : -(2 ^ 64) < j) (d : j < 2 ^ 64) (q : Q (.int (i * j)) H) : rI CMul (fun i j => V.int (i * j)) (.int i) (.int j) H Q := ⟨i, j, rfl, rfl, .inr ⟨c, d⟩, q⟩
theorem i_pow {i j : Int} (c : 0 ≤ j) (d : j ≤ 1000000) (z : i.natAbs < 2 ^ 64) (q : Q (.int (i ^ j.toNat)) H) : rI CPow (fun i j => V.int (i ^ j.toNat)) (.int i) (.int j) H Q := ⟨i, j, rfl, rfl, ⟨c, d, z⟩, q⟩
theorem i_eqI {i j : Int} (h : Q (.bl (decide (V.int i = V.int j))) H) : rEq (.int i) (.int j) H Q := ⟨rfl, h⟩
theorem i_eq {x y : V} (s : scal x y = true) (h : Q (.bl (decide (x = y))) H) : rEq x y H Q := ⟨s, h⟩
theorem i_ne {x y : V} (s : scal x y = true) (h : Q (.bl (!decide (x = y))) H) : rNe x y H Q := ⟨s, h⟩
theorem i_ixL {p : Addr} {xs : List V} {i : Int} (h : H p = some (.lst xs)) (e : atI xs i = some v) (q : Q v H) : rIxL K (.ref p) (.int i) H Q := ⟨p, xs, i, v, rfl, rfl, SqL.of h, e, q⟩
theorem i_ixT {p : Addr} {xs : List V} {i : Int} (h : H p = some (.tup xs)) (e : atI xs i = some v) (q : Q v H) : rIxT K (.ref p) (.int i) H Q := ⟨p, xs, i, v, rfl, rfl, SqT.of h, e, q⟩
theorem i_setL {p : Addr} {xs : List V} {i : Int} {j : Nat} {R : Hp → Prop} (h : H p = some (.lst xs)) (e : ixN xs.length i = some j) (q : R (upd H p (.lst (xs.set j v)))) : rSetL (.ref p) (.int i) v H R := ⟨p, xs, i, j, rfl, rfl, h, e, q⟩
theorem i_app {l : Addr} {xs : List V} {y : V} (h : H l = some (.lst xs)) (z : xs.length < sizeLine) (q : Q .non (upd H l (.lst (xs ++ [y])))) : rAppend (.ref l) [y] H Q := ⟨l, xs, y, rfl, rfl, h, z, q⟩
theorem i_lenL {p : Addr} {xs : List V} (h : H p = some (.lst xs)) (q : Q (.int xs.length) H) : rLen K [V.ref p] H Q := ⟨p, xs, rfl, .inl (SqL.of h), q⟩
theorem i_lenT {p : Addr} {xs : List V} (h : H p = some (.tup xs)) (q : Q (.int xs.length) H) : rLen K [V.ref p] H Q := ⟨p, xs, rfl, .inr (SqT.of h), q⟩
theorem i_listL {p : Addr} {xs : List V} (h : H p = some (.lst xs)) (q : ∀ l, H l = none → Q (.ref l) (upd H l (.lst xs))) : rList K [V.ref p] H Q := ⟨p, xs, rfl, .inl (SqL.of h), q⟩
theorem i_listT {p : Addr} {xs : List V} (h : H p = some (.tup xs)) (q : ∀ l, H l = none → Q (.ref l) (upd H l (.lst xs))) : rList K [V.ref p] H Q := ⟨p, xs, rfl, .inr (SqT.of h), q⟩
theorem i_tupleL {p : Addr} {xs : List V} (h : H p = some (.lst xs)) (q : ∀ l, H l = none → Q (.ref l) (upd H l (.tup xs))) : rTuple K [V.ref p] H Q := ⟨p, xs, rfl, .inl ⟨SqL.of h, q⟩⟩
theorem i_tupleT {p : Addr} {xs : List V} (h : H p = some (.tup xs)) (q : Q (.ref p) H) : rTuple K [V.ref p] H Q := ⟨p, xs, rfl, .inr ⟨SqT.of h, q⟩⟩
theorem i_join {a : Str} {p : Addr} {ys : List Str} (h : H p = some (.lst (ys.map V.str))) (z : (ys.map (·.length)).sum + ys.length * a.length ≤ 16777216) (q : Q (.str (Txt.join a ys)) H) : rJoin K (.str a) [V.ref p] H Q := ⟨a, p, ys, rfl, rfl, .inl (SqL.of h), z, q⟩
theorem i_split {a b : Str} (h : (b.length == 0) = false) (z : a.length + 2 ≤ sizeLine) (q : ∀ p, H p = none → Q (.ref p) (upd H p (.lst ((Txt.split a b).map V.str)))) : rSplit (.str a) [V.str b] H Q := ⟨a, b, rfl, rfl, h, z, q⟩
theorem i_strI {i : Int} (h : i.natAbs.log2 < 1920) (q : Q (.str (toString i)) H) : rStrI [V.int i] H Q := ⟨i, rfl, h, q⟩
theorem i_tru {Q : Bool → Hp → Prop} (h : ta σ H fun x H' => ∃ k, TruV K x H' k ∧ Q k H') : tTru K ta σ H Q := h
theorem i_lenS {z : Str} (h : z.length ≤ sizeLine) (q : Q (.int z.length) H) : rLenS [V.str z] H Q := ⟨z, rfl, h, q⟩
theorem i_int1 {i : Int} (q : Q (.int i) H) : rInt1 [V.int i] H Q := .inl ⟨i, rfl, q⟩
theorem i_intB {k : Bool} (q : Q (.int (if k then 1 else 0)) H) : rInt1 [V.bl k] H Q := .inr ⟨k, rfl, q⟩
theorem i_adds {x y : Str} (h : x.length + y.length ≤ sizeLine) (q : Q (.str (x ++ y)) H) : rAddS (.str x) (.str y) H Q := ⟨x, y, rfl, rfl, h, q⟩
theorem i_inSign {c : Nat} {z : Str} (q : Q (.bl (decide (c ∈ z.cps.toList))) H) : rInSign (.str ⟨#[c]⟩) (.str z) H Q := ⟨c, z, rfl, rfl, q⟩
theorem i_notInSign {c : Nat} {z : Str} (q : Q (.bl (!decide (c ∈ z.cps.toList))) H) : rNotInSign (.str ⟨#[c]⟩) (.str z) H Q := ⟨c, z, rfl, rfl, q⟩
theorem i_ixS {z : Str} {i : Int} {c : Nat} (h : z.length ≤ sizeLine) (e : atI z.cps.toList i = some c) (q : Q (.str ⟨#[c]⟩) H) : rIxS (.str z) (.int i) H Q := ⟨z, i, c, rfl, rfl, h, e, q⟩
theorem i_isN {x : V} (q : Q (.bl (decide (x = .non))) H) : rIsN x .non H Q := ⟨rfl, q⟩
theorem i_notN {x : V} (q : Q (.bl (!decide (x = .non))) H) : rNotN x .non H Q := ⟨rfl, q⟩
theorem i_cat {l b : Addr} {xs ys : List V} (h1 : H l = some (.lst xs)) (h2 : H b = some (.lst ys)) (z : xs.length + ys.length ≤ sizeLine) (q : ∀ p, H p = none → Q (.ref p) (upd H p (.lst (xs ++ ys)))) : rCat (.ref l) (.ref b) H Q := ⟨l, b, xs, ys, rfl, rfl, h1, h2, z, q⟩
theorem i_neD {x y : V} {d e : PyData} (h1 : Dp K H x d) (h2 : Dp K H y e) (s1 : SeqAt.shaped d = true) (s2 : SeqAt.shaped e = true) (q : Q (.bl (!PyData.eqv d e)) H) : rNeD K x y H Q := ⟨d, e, h1, h2, s1, s2, q⟩
theorem i_eqD {x y : V} {d e : PyData} (h1 : Dp K H x d) (h2 : Dp K H y e) (s1 : SeqAt.shaped d = true) (s2 : SeqAt.shaped e = true) (q : Q (.bl (PyData.eqv d e)) H) : rEqD K x y H Q := ⟨d, e, h1, h2, s1, s2, q⟩
theorem i_popAt {l : Addr} {xs : List V} {i : Int} {k : Nat} {y : V} (h : H l = some (.lst xs)) (h1 : -(2 ^ 63) ≤ i) (h2 : i < 2 ^ 63) (e : seqIndex? i xs.length = some k) (g : xs[k]? = some y) (q : Q y (upd H l (.lst (xs.eraseIdx k)))) : rPopAt (.ref l) [.int i] H Q :=
  ⟨l, xs, i, k, y, rfl, rfl, h, h1, h2, e, g, q⟩
-- heaps
theorem h_ne {x q : Addr} {o u : HO} (n : x ≠ q) (h : H x = some u) : upd H q o x = some u := by rw [upd_ne n]; exact h
theorem h_new {x q : Addr} {o u : HO} (h : H x = some u) (n : H q = none) : upd H q o x = some u := by rw [upd_ne (ne_of_none h n)]; exact h
theorem ne_sym {x q : Addr} (h : q ≠ x) : x ≠ q := h.symm
end
theorem ifd {c A B : Prop} [Decidable c] (h1 : c → A) (h2 : ¬ c → B) : if decide c = true then A else B := by
  by_cases h : c
  · rw [if_pos (decide_eq_true h)]; exact h1 h
  · rw [if_neg (by rw [decide_eq_false h]; exact Bool.false_ne_true)]; exact h2 h
theorem ifb {b : Bool} {A B : Prop} (h1 : b = true → A) (h2 : b = false → B) : if b = true then A else B := by
  cases b with
  | true => exact iteT (h1 rfl)
  | false => exact iteF (h2 rfl)
theorem ifn {c A B : Prop} [Decidable c] (h1 : ¬ c → A) (h2 : c → B) : if (!decide c) = true then A else B := by
  by_cases h : c
  · rw [decide_eq_true h]; exact iteF (h2 h)
  · rw [decide_eq_false h]; exact iteT (h1 h)
theorem eqv_ints_nil (ns : List Int) : PyData.eqv (.list (ns.map PyData.int)) (.list []) = decide (ns = []) := by
  cases ns with
  | nil => rfl
  | cons n r => rfl
/-! ### what a reading wants may be weakened -/
def MoE (t : TE) : Prop := ∀ σ H (Q Q' : VK), (∀ v H1, Q v H1 → Q' v H1) → t σ H Q → t σ H Q'
def MoT (t : TT) : Prop := ∀ σ H (Q Q' : Bool → Hp → Prop), (∀ v H1, Q v H1 → Q' v H1) → t σ H Q → t σ H Q'
def MoR (r : R2) : Prop := ∀ x y H (Q Q' : VK), (∀ v H1, Q v H1 → Q' v H1) → r x y H Q → r x y H Q'
theorem mo_var (i : Nat) : MoE (tVar i) := fun σ H Q Q' h ⟨v, e, q⟩ => ⟨v, e, h _ _ q⟩
theorem mo_c (v : V) : MoE (tC v) := fun σ H Q Q' h q => h _ _ q
theorem mo_op {r : R2} {ta tb : TE} (hr : MoR r) (ha : MoE ta) (hb : MoE tb) : MoE (tOp r ta tb) := fun σ H Q Q' h q => ha _ _ _ _ (fun x H1 q1 => hb _ _ _ _ (fun y H2 q2 => hr _ _ _ _ _ h q2) q1) q
theorem mo_ixL {K : PySem.W.Frag} : MoR (rIxL K) := fun x y H Q Q' h ⟨p, xs, i, v, a, b, c, d, q⟩ => ⟨p, xs, i, v, a, b, c, d, h _ _ q⟩
theorem mo_eq : MoR rEq := fun x y H Q Q' h ⟨a, q⟩ => ⟨a, h _ _ q⟩
theorem mo_neD {K : PySem.W.Frag} : MoR (rNeD K) := fun x y H Q Q' h ⟨d, e, a, b, c, z, q⟩ => ⟨d, e, a, b, c, z, h _ _ q⟩
theorem mo_lst0 : MoE (tLst tNil) := fun σ H Q Q' h ⟨a, q⟩ => ⟨a, fun p hp => h _ _ (q p hp)⟩
theorem mo_test {t : TE} (ht : MoE t) : MoT (tTest t) := fun σ H Q Q' h q => ht _ _ _ _ (fun v H1 ⟨k, e, z⟩ => ⟨k, e, h _ _ z⟩) q
theorem mo_and {c d : TT} (hc : MoT c) (hd : MoT d) : MoT (tAnd c d) := fun σ H Q Q' h q => hc _ _ _ _ (fun b H1 z => by
  cases b with
  | true => exact iteT (hd _ _ _ _ h (by simpa using z))
  | false => exact iteF (h _ _ (by simpa using z))) q
/-- a while whose way out is said apart -/
theorem while_to {c : TT} {tb : TS} {D : Ends} {σ : L2.St} {H : Hp} (Pv Ex : L2.St → Hp → Prop) (μ : L2.St → Hp → Nat) (h0 : Pv σ H)
    (hs : ∀ σ H, Pv σ H → c σ H fun b H1 => if b = true then tb { D with nx := fun σ' H' => Pv σ' H' ∧ μ σ' H' < μ σ H, ct := fun σ' H' => Pv σ' H' ∧ μ σ' H' < μ σ H, bk := D.nx } σ H1 else Ex σ H1)
    (mono : MoT c) (hx : ∀ σ H, Ex σ H → D.nx σ H) : tWhile c tb D σ H :=
  while_by Pv μ h0 (fun σ H p => mono _ _ _ _ (fun b H1 q => by
    cases b with
    | true => exact q
    | false => exact iteF (hx _ _ (by simpa using q))) (hs σ H p)) mono
theorem shaped_ints (ns : List Int) : SeqAt.shaped (.list (ns.map PyData.int)) = true := by
  simp [SeqAt.shaped, PyData.canLay0, PyData.depth, PySem.W.ke_canLayAll0, PySem.W.ke_depthAll]
theorem dp_ints {K : PySem.W.Frag} {H : Hp} {a : Addr} {ns : List Int} (h : H a = some (.lst (ns.map V.int))) : Dp K H (.ref a) (.list (ns.map PyData.int)) := by
  refine .lst (SqL.of h) ?_
  clear h
  induction ns with
  | nil => exact .nil
  | cons n r ih => exact .cons (.int n) ih
end Lr
set_option Elab.async false
set_option linter.all false
set_option maxRecDepth 100000
set_option maxHeartbeats 4000000
/-! Vl: loops and comprehensions by one invariant each, over what is walked. -/
namespace Lr
open PySem PySem.Spec
      PyProof.Rows L2
section
variable {K : PySem.W.Frag} {σ : L2.St} {H : Hp} {Q : VK} {D : Ends} {ta te : TE} {tl : TA} {g : TG} {tb : TS} {tt : TT} {vs : List Nat}
/-- what a for over n things asks: Y tells what comes at a turn -/
def ForBy (g : TG) (tb : TS) (D : Ends) (σ : L2.St) (H : Hp) (n : Nat) (G : Hp → Prop) (Y : Nat → Hp → V → Hp → Prop) : Prop :=
  ∃ Pv : Nat → L2.St → Hp → Prop, Pv 0 σ H ∧ (∀ i σ H, i ≤ n → Pv i σ H → G H) ∧
    (∀ i x σ H H', i < n → Pv i σ H → Y i H x H' → g x σ H' fun σ2 H2 => tb { D with nx := Pv (i + 1), ct := Pv (i + 1), bk := D.nx } σ2 H2) ∧ (∀ σ H, Pv n σ H → D.nx σ H)
def LcBy (g : TG) (tt : TT) (te : TE) (vs : List Nat) (σ : L2.St) (H1 : Hp) (Q : Addr → Hp → Prop) (n : Nat) (G : Hp → Prop) (Y : Nat → Hp → V → Hp → Prop) : Prop :=
  ∀ D, H1 D = none → ∃ Pv : Nat → Hp → Prop, Pv 0 (upd H1 D (.lst [])) ∧ (∀ i H, i ≤ n → Pv i H → G H) ∧
    (∀ i x H H', i < n → Pv i H → Y i H x H' → g x (wipe σ vs) H' fun σ2 H2 => wipe σ2 vs = wipe σ vs ∧ tt σ2 H2 fun b H3 =>
      if b = true then te σ2 H3 fun y H4 => ∃ acc, H4 D = some (.lst acc) ∧ acc.length < sizeLine ∧ Pv (i + 1) (upd H4 D (.lst (acc ++ [y]))) else Pv (i + 1) H3) ∧ (∀ H, Pv n H → Q D H)
theorem for_by {J : It} {n : Nat} {G : Hp → Prop} {Y : Nat → Hp → V → Hp → Prop} (w : Walk J n G Y) (h : ForBy g tb D σ H n G Y) :
    ∃ W : Nat → Nat → L2.St → Hp → Prop, (∃
          m, W 0 m σ H) ∧ ∀ i m σ H, W i m σ H →
      (J.stop i H ∧ D.nx σ H) ∨ (J.go i H ∧ ∃ N : L2.St → Hp → Prop, (∀ σ' H', N σ' H' → ∃ m', m' < m ∧ W (i + 1) m' σ' H') ∧ ∀ x H', J.yld i H x H' → g x σ H' fun σ2 H2 => tb { D with nx := N, ct := N, bk := D.nx } σ2 H2) := by
  obtain ⟨Pv, h0, hG, hs, hd⟩ := h
  exact for_it w Pv h0 hG hs hd
theorem lc_by {Q : Addr → Hp → Prop} {J : It} {n : Nat} {G : Hp → Prop} {Y : Nat → Hp → V → Hp → Prop} (w : Walk J n G Y) (h : LcBy g tt te vs σ H Q n G Y) : ∀ D, H D = none → ∃ W : Nat → Nat → Hp → Prop, (∃ m, W 0 m (upd H D (.lst []))) ∧ ∀ i m H, W i m H →
      (J.stop i H ∧ Q D H) ∨ (J.go i H ∧ ∃ Nx : Hp → Prop, (∀ H', Nx H' → ∃ m', m' < m ∧ W (i + 1) m' H') ∧ ∀ x H', J.yld i H x H' → g x (wipe σ vs) H' fun σ2 H2 => wipe σ2 vs = wipe σ vs ∧ tt σ2 H2 fun b H3 =>
        if b = true then te σ2 H3 fun y H4 => ∃ acc, H4 D = some (.lst acc) ∧ acc.length < sizeLine ∧ Nx (upd H4 D (.lst (acc ++ [y]))) else Nx H3) := fun D hD => by
  obtain ⟨Pv, h0, hG, hs, hd⟩ := h D hD
  exact lc_it w Pv h0 hG hs hd
def DcBy (g : TG) (tt : TT) (tk tv : TE) (vs : List Nat) (σ : L2.St) (H1 : Hp) (Q : Addr → Hp → Prop) (n : Nat) (G : Hp → Prop) (Y : Nat → Hp → V → Hp → Prop) : Prop :=
  ∀ D, H1 D = none → ∃ Pv : Nat → Hp → Prop, Pv 0 (upd H1 D (.dK [])) ∧ (∀ i H, i ≤ n → Pv i H → G H) ∧
    (∀ i x H H', i < n → Pv i H → Y i H x H' → g x (wipe σ vs) H' fun σ2 H2 => wipe σ2 vs = wipe σ vs ∧ tt σ2 H2 fun b H3 =>
      if b = true then tk σ2 H3 fun y H4 => tv σ2 H4 fun z H5 => ∃ kvs k, y = kV k ∧ H5 D = some (.dK kvs) ∧ kvs.length < sizeLine ∧ Pv (i + 1) (upd H5 D (.dK (putK kvs k z))) else Pv (i + 1) H3) ∧ (∀ H, Pv n H → Q D H)
theorem dc_by {Q : Addr → Hp → Prop} {tk tv : TE} {J : It} {n : Nat} {G : Hp → Prop} {Y : Nat → Hp → V → Hp → Prop} (w : Walk J n G Y) (h : DcBy g tt tk tv vs σ H Q n G Y) : ∀ D, H D = none → ∃ W : Nat → Nat → Hp → Prop, (∃ m, W 0 m (upd H D (.dK []))) ∧ ∀ i m H, W i m H →
      (J.stop i H ∧ Q D H) ∨ (J.go i H ∧ ∃ Nx : Hp → Prop, (∀ H', Nx H' → ∃ m', m' < m ∧ W (i + 1) m' H') ∧ ∀ x H', J.yld i H x H' → g x (wipe σ vs) H' fun σ2 H2 => wipe σ2 vs = wipe σ vs ∧ tt σ2 H2 fun b H3 =>
        if b = true then tk σ2 H3 fun y H4 => tv σ2 H4 fun z H5 => ∃ kvs k, y = kV k ∧ H5 D = some (.dK kvs) ∧ kvs.length < sizeLine ∧ Nx (upd H5 D (.dK (putK kvs k z))) else Nx H3) := fun D hD => by
  obtain ⟨Pv, h0, hG, hs, hd⟩ := h D hD
  refine ⟨fun i m H => m = n - i ∧ i ≤ n ∧ Pv
        i H, ⟨n, by simp, Nat.zero_le _, h0⟩, ?_⟩
  rintro i m H ⟨rfl, hi, p⟩
  have q := hG i H hi p
  by_cases hlt : i < n
  · exact .inr ⟨w.goes i H hlt q, Pv (i + 1), fun H' p' => ⟨n - (i + 1), by omega, rfl, hlt, p'⟩, fun x H' y => hs i x H H' hlt p (w.yields i H x H' hlt q y)⟩
  · obtain rfl : i = n := by omega
    exact .inl ⟨w.stops
          H q, hd H p⟩
theorem i_dc {wi : TI} {tk tv : TE} (h : wi σ H fun J H1 => ∀ D, H1 D = none → ∃ W : Nat → Nat → Hp → Prop, (∃ m, W 0 m (upd H1 D (.dK []))) ∧ ∀ i m H, W i m H →
  (J.stop i H ∧ Q (.ref D) H) ∨ (J.go i H ∧ ∃ Nx : Hp → Prop, (∀ H', Nx H' → ∃ m', m' < m ∧ W (i + 1) m' H')
        ∧ ∀ x H', J.yld i H x H' → g x (wipe σ vs) H' fun σ2 H2 => wipe σ2 vs = wipe σ vs ∧ tt σ2 H2 fun b H3 =>
    if b = true then tk σ2 H3 fun y H4 => tv σ2 H4 fun z H5 => ∃ kvs k, y = kV k ∧ H5 D = some (.dK kvs) ∧ kvs.length < sizeLine ∧ Nx (upd H5 D (.dK (putK kvs k z))) else Nx H3)) : tDc wi g tt tk tv vs σ H Q := h
theorem i_for {wi : TI} (h : wi σ H fun J H1 => ∃ W : Nat → Nat → L2.St → Hp → Prop, (∃ m, W 0 m σ H1) ∧ ∀ i m σ H, W i m σ H →
  (J.stop i H ∧ D.nx σ H) ∨ (J.go i H ∧ ∃ N : L2.St → Hp → Prop, (∀ σ' H', N σ' H' → ∃ m', m' < m ∧ W (i + 1) m' σ' H') ∧ ∀ x H', J.yld i H x H' → g x σ H' fun σ2 H2 => tb { D with nx := N, ct := N, bk := D.nx } σ2 H2)) : tFor wi g tb D σ H := h
theorem i_lc {wi : TI} (h : wi σ H fun J H1 => ∀ D, H1 D = none → ∃ W : Nat → Nat → Hp → Prop, (∃ m, W 0 m (upd H1 D (.lst []))) ∧ ∀ i m H, W i m H →
  (J.stop i H ∧ Q (.ref D) H) ∨ (J.go i H ∧ ∃ Nx : Hp → Prop, (∀ H', Nx H' → ∃ m', m' < m ∧ W (i + 1) m' H')
        ∧ ∀ x H', J.yld i H x H' → g x (wipe σ vs) H' fun σ2 H2 => wipe σ2 vs = wipe σ vs ∧ tt σ2 H2 fun b H3 =>
    if b = true then te σ2 H3 fun y H4 => ∃ acc, H4 D = some (.lst acc) ∧ acc.length < sizeLine ∧ Nx (upd H4 D (.lst (acc ++ [y]))) else Nx H3)) : tLc wi g tt te vs σ H Q := h
variable {R : It → Hp → Prop}
theorem i_iL (h : ta σ H fun x H1 => ∃ a, x = .ref a ∧ (∃ xs, SqL K H1 a xs) ∧ R (Itl K a) H1) : iList K ta σ H R := h
theorem i_iT (h : ta σ H fun x H1 => ∃ a, x = .ref a ∧ (∃ xs, SqT K H1 a xs) ∧ R (Itt K a) H1) : iTup K ta σ H R := h
theorem i_iR1 (h : tl σ H fun vs H1 => ∃ j : Int, vs = [.int j] ∧ -(2 ^ 62) ≤ j ∧ j < 2 ^ 62 ∧ R (Itr 0 j.toNat) H1) : iRng1 tl σ H R := h
theorem i_iR2 (h : tl σ H fun vs H1 => ∃ i j : Int, vs = [.int i, .int j] ∧ (-(2 ^ 62) ≤ i ∧ i < 2 ^ 62 ∧ -(2 ^ 62) ≤ j ∧ j < 2 ^ 62) ∧ R (Itr i (j - i).toNat) H1) : iRng2 tl σ H R := h
theorem i_iS (h : ta σ H fun v H1 => ∃ x, v = .str x ∧ R (Its x) H1) : iStr ta σ H R := h
theorem i_iE (h : tl σ H fun vs H1 => ∃ a xs, vs = [.ref a] ∧ SqL K H1 a xs ∧ R (Ite K a) H1) : iEnum K tl σ H R := h
theorem i_iZ (h : tl σ H fun vs H1 => ∃ a b xs ys, vs = [.ref a, .ref b] ∧ ((SqL K H1 a xs ∧ SqL K H1 b ys ∧ R (Itz K a b) H1) ∨ (SqT K H1 a xs ∧ SqT K H1 b ys ∧ R (RZ.ItzT K a b) H1))) : RZ.iZipA K tl σ H R := h
/-- what is walked is known -/
theorem w_lst {S : Addr → Prop} {p : Addr} {xs : List V} (h : H p = some (.lst xs)) (f : S p) : ∃ a, V.ref p = .ref a ∧ (∃ xs, SqL K H a xs) ∧ S a := ⟨p, rfl, ⟨xs, SqL.of h⟩, f⟩
theorem w_sq {S : Addr → Prop} {p : Addr} {xs : List V} (h : SqL K H p xs) (f : S p) : ∃ a, V.ref p = .ref a ∧ (∃ xs, SqL K H a xs) ∧ S a := ⟨p, rfl, ⟨xs, h⟩, f⟩
theorem w_tpl {S : Addr → Prop} {p : Addr} {xs : List V} (h : H p = some (.tup xs)) (f : S p) : ∃ a, V.ref p = .ref a ∧ (∃ xs, SqT K H a xs) ∧ S a := ⟨p, rfl, ⟨xs, SqT.of h⟩, f⟩
theorem w_rg1 {S : Int → Prop} {n : Nat} (h : n < 4611686018427387904) (f : S n) : ∃ j : Int, [V.int n] = [.int j] ∧ -(2 ^ 62) ≤ j ∧ j < 2 ^ 62 ∧ S j := ⟨n, rfl, by omega, by omega, f⟩
theorem w_rg1' {S : Int → Prop} {z : Int} (h : 0 ≤ z) (h' : z < 4611686018427387904) (f : S z) : ∃ j : Int, [V.int z] = [.int j] ∧ -(2 ^ 62) ≤ j ∧ j < 2 ^ 62 ∧ S j := ⟨z, rfl, by omega, by omega, f⟩
theorem w_rg2 {S : Int → Int → Prop} {lo hi : Int} (h1 : -1000000000 ≤ lo) (h2 : hi ≤ 1000000000) (h3 : lo ≤ 1000000000) (h4 : -1000000000 ≤ hi) (f : S lo hi) : ∃ i j : Int, [V.int lo, V.int hi] = [.int i, .int j] ∧ (-(2 ^ 62) ≤ i ∧ i < 2 ^ 62 ∧ -(2 ^ 62) ≤ j ∧ j < 2 ^ 62) ∧ S i j :=
  ⟨lo, hi, rfl, by omega, f⟩
/-- a list or a tuple is walked -/
def iSeq (K : PySem.W.Frag) (ta : TE) : TI := fun σ H R => iList K ta σ H R ∨ iTup K ta σ H R
theorem w_seq {X : Cx} (K : PySem.W.Frag) {tg e : Expr} {te : TE} (hl : PE X e te) (hK : X.K = K := by rfl) : PI X tg e (iSeq K te) := by
  subst hK
  exact ⟨fun pins s σ H R I h => h.elim (fun z => (pi_list hl).run pins s σ H R I z) (fun z => (pi_tup hl).run pins s σ H R I z)⟩
theorem w_sqv {i : Nat} {p : Addr} {o : HO} {xs : List V} (e : σ[i]? = some (some (.ref p))) (ho : o = .lst xs ∨ o = .tup xs) (h : H p = some o) (f : ∀ J, Walk J xs.length (fun H => H p = some o) (YAt xs) → R J H) : iSeq K (tVar i) σ H R := by
  rcases ho with rfl | rfl
  · exact .inl ⟨_, e, p, rfl, ⟨xs, SqL.of h⟩, f _ (walk_list.mono (fun _ z => SqL.of z) fun _ _ _ _ _ _ y => y)⟩
  · exact .inr ⟨_, e, p, rfl, ⟨xs, SqT.of h⟩, f _ (walk_tup.mono (fun _ z => SqT.of z) fun _ _ _ _ _ _ y => y)⟩
theorem w_str {S : Str → Prop} {z : Str} (f : S z) : ∃ x, V.str z = .str x ∧ S x := ⟨z, rfl, f⟩
theorem w_enu {S : Addr → Prop} {p : Addr} {xs : List V} (h : H p = some (.lst xs)) (f : S p) : ∃ a xs, [V.ref p] = [.ref a] ∧ SqL K H a xs ∧ S a := ⟨p, xs, rfl, SqL.of h, f⟩
theorem i_dget {ty : TE} (h : ta σ H fun x H1 => ty σ H1 fun y H2 => ∃ a v, x = .ref a ∧ DGet H2 a y (some v) ∧ Q v H2) : tDGet ta ty σ H Q := h
theorem i_fld {f : Str} (h : ta σ H fun x H1 => ∃ a C dx fs v, x = .ref a ∧ H1 a = some (.ins C dx fs) ∧ Cls K C ∧ NoAttr K C f ∧ fs.lookup f = some v ∧ Q v H1) : tFld K ta f σ H Q := h
theorem i_sfld {tv : TE} {f : Str} (h : tv σ H fun y H1 => ta σ H1 fun x H2 => ∃ a C dx fs, x = .ref a ∧ H2 a = some (.ins C dx fs) ∧ Cls K C ∧ NoAttr K C f ∧ fs.length < 1000 ∧ D.nx σ (upd H2 a (.ins C dx (putF f y fs)))) : sFld K ta tv f D σ H := h
theorem i_dput {ty tv : TE} (h : tv σ H fun v H1 => ta σ H1 fun x H2 => ty σ H2 fun y H3 => ∃ a H4, x = .ref a ∧ DPut H3 a y v H4 ∧ D.nx σ H4) : sDPut ta ty tv D σ H := h
theorem i_meth {C : Addr} {m : Str} {sp : Sp} {dvs : List V} {E : XK} {t : TA} (h : ta σ H fun x H1 => ∃ a dx fs, x = .ref a ∧ H1 a = some (.ins C dx fs) ∧ fs.lookup m = none ∧ t σ H1 fun vs H2 => sp (x :: (vs ++ dvs)) H2 Q E) : tMeth C m sp dvs E ta t σ H Q := h
theorem i_rU {g : Int → V} {i : Int} (h : Q (g i) H) : rU g (.int i) H Q := ⟨i, rfl, h⟩
/-- a field of an object, an item of a dict, as they stand -/
theorem d_fld {S : V → Prop} {p C dx : Addr} {fs : List (Str × V)} {f : Str} {v : V} (hp : H p = some (.ins C dx fs)) (cl : Cls K C) (na : NoAttr K C f) (e : fs.lookup f = some v) (q : S v) :
    ∃ a C dx fs v, V.ref p = .ref a ∧ H a = some (.ins C dx fs) ∧ Cls K C ∧ NoAttr K C f ∧ fs.lookup f = some v ∧ S v := ⟨p, C, dx, fs, v, rfl, hp, cl, na, e, q⟩
theorem d_get {S : V → Prop} {a : Addr} {kvs : List (Key × V)} {k : Key} {v : V} (h : H a = some (.dK kvs)) (e : valV kvs k = some v) (q : S v) : ∃ a' v', V.ref a = .ref a' ∧ DGet H a' (kV k) (some v') ∧ S v' :=
  ⟨a, v, rfl, by rw [← e]; exact DGet.k h, q⟩
theorem d_getS {S : V → Prop} {a : Addr} {kvs : List (Key × V)} {x : Str} {v : V} (h : H a = some (.dK kvs)) (e : valV kvs (.inr x) = some v) (q : S v) : ∃ a' v', V.ref a = .ref a' ∧ DGet H a' (.str x) (some v') ∧ S v' := d_get (k := .inr x) h e q
theorem putF_len (f : Str) (v : V) : ∀ fs : List (Str × V), (putF f v fs).length ≤ fs.length + 1
  | [] => by simp [putF]
  | (g, x) :: r => by
    have ih := putF_len f v r
    simp only [putF]
    split <;> simp <;> omega
theorem d_put {S : Addr → Addr → Addr → List (Str × V) → Prop} {p C dx : Addr} {fs : List (Str × V)} {f : Str} (hp : H p = some (.ins C dx fs)) (cl : Cls K C) (na : NoAttr K C f) (e : fs.length < 1000) (q : S p C dx fs) :
    ∃ a C dx fs, V.ref p = .ref a ∧ H a = some (.ins C dx fs) ∧ Cls K C ∧ NoAttr K C f ∧ fs.length < 1000 ∧ S a C dx fs := ⟨p, C, dx, fs, rfl, hp, cl, na, e, q⟩
/-- a target of two names: the pair at T is taken apart -/
theorem g_two {T : Addr} {u v : V} {i j : Nat} {R : L2.St → Hp → Prop} (h : H T = some (.tup [u, v])) (q : R ((σ.set i (some u)).set j (some v)) H) : gTup K 2 (gCons (gName i) (gCons (gName j) gNil)) (.ref T) σ H R :=
  ⟨T, [u, v], rfl, SqT.of h, rfl, u, [v], rfl, v, [], rfl, rfl, q⟩
theorem g_three {T : Addr} {u v w : V} {i j k : Nat} {R : L2.St → Hp → Prop} (h : H T = some (.tup [u, v, w])) (q : R (((σ.set i (some u)).set j (some v)).set k (some w)) H) : gTup K 3 (gCons (gName i) (gCons (gName j) (gCons (gName k) gNil))) (.ref T) σ H R :=
  ⟨T, [u, v, w], rfl, SqT.of h, rfl, u, [v, w], rfl, v, [w], rfl, w, [], rfl, rfl, q⟩
theorem i_rt {N : L2.St → Hp → Prop} {R : VK} {B C : L2.St → Hp → Prop} {v : V} (h : R v H) : (Ends.mk N R B C).rt v H := h
theorem i_nx {N : L2.St → Hp → Prop} {R : VK} {B C : L2.St → Hp → Prop} (h : N σ H) : (Ends.mk N R B C).nx σ H := h
theorem i_bk {N : L2.St → Hp → Prop} {R : VK} {B C : L2.St → Hp → Prop} (h : B σ H) : (Ends.mk N R B C).bk σ H := h
theorem i_ct {N : L2.St → Hp → Prop} {R : VK} {B C : L2.St → Hp → Prop} (h : C σ H) : (Ends.mk N R B C).ct σ H := h
theorem i_wipe {a b : L2.St} {A : Prop} (e : a = b) (h : A) : a = b ∧ A := ⟨e, h⟩
/-- a list that is read stands as written; it is the same list -/
theorem SqL.stands {p : Addr} {xs : List V} (h : H p = some (.lst xs)) : SqL K H p xs := SqL.of h
end
end Lr
set_option Elab.async false
set_option linter.all false
set_option maxRecDepth 100000
set_option maxHeartbeats 4000000
namespace Lr
open PySem PySem.Spec
      PyProof.Rows L2
def top (i : Nat) : Stmt := PySem.Challenge.pw_leastredo_k81_whole_rule_texts.main.body.getD i (.Pass ⟨0, 0, 0, 0⟩)
local macro_rules | `(tactic| walk_at "ne") => `(tactic| (first | assumption | (refine ne_sym ?_; assumption) | (exact ne_of_none (by assumption) (by assumption)) | (exact ne_sym (ne_of_none (by assumption) (by assumption)))))
local macro_rules | `(tactic| walk_at "h") => `(tactic| (first | assumption | exact upd_same | (refine h_new ?_ (by assumption); walk_at "h") | (refine h_ne (by walk_at "ne") ?_; walk_at "h")))
local macro_rules | `(tactic| walk_at "v1") => `(tactic| (with_reducible first
  | refine i_seq ?_ | refine i_asg ?_ | refine i_ret ?_ | refine i_next ?_ | refine i_drop ?_ | refine i_ifS ?_ | refine i_if ?_ | refine i_and ?_ | refine i_or ?_ | refine i_not ?_ | refine i_test ?_ | refine i_tB ?_ | refine i_bl ?_ | refine i_yes ?_
  | refine i_op ?_ | refine i_un ?_ | refine i_chain ?_ | refine i_andV ?_ | refine i_orV ?_ | refine i_notV ?_ | refine i_cb ?_ | refine i_cons ?_ | refine i_nil ?_ | refine i_bm ?_ | refine i_bm0 ?_ | refine i_c ?_ | refine i_name ?_ | refine i_sub ?_
  | refine i_call ?_ | refine i_lst ?_ | refine i_tup ?_ | refine i_par ?_ | refine i_par2 ?_ | refine i_sl ?_ | refine i_np ?_ | refine i_pt ?_ | refine i_int ?_ | refine i_m0 ?_ | refine i_m1 ?_ | refine i_isS ?_
  | refine i_rI0 ?_ | refine i_inSign ?_ | refine i_notInSign ?_ | refine i_int1 ?_ | refine i_tru ?_ | refine i_isN ?_ | refine i_notN ?_ | refine iteT ?_ | refine iteF ?_ | refine i_brk ?_ | refine i_rt ?_ | refine i_nx ?_ | refine i_bk ?_ | refine i_ct ?_ | refine i_for ?_ | refine i_lc ?_ | refine i_dc ?_ | refine i_iL ?_ | refine i_iT ?_ | refine i_iR1 ?_ | refine i_iR2 ?_ | refine i_iS ?_ | refine i_iE ?_ | refine i_iEK ?_ | refine i_iEQ ?_ | refine i_iZS ?_ | refine i_dget ?_ | refine i_fld ?_ | refine i_sfld ?_ | refine i_dput ?_ | refine i_meth ?_ | refine i_rU ?_ | refine i_cont ?_ | refine i_make ?_))
local macro_rules | `(tactic| walk_at "v2") => `(tactic| (first
  | ((with_reducible refine' i_var ?k1 ?_); (case k1 => exact rfl))
  | ((with_reducible refine' i_eq ?k1 ?_); (case k1 => exact rfl))
  | ((with_reducible refine' i_ne ?k1 ?_); (case k1 => exact rfl))
  | ((with_reducible refine' i_ixL ?k1 ?k2 ?_); (case k1 => walk_at "h"); (case k2 => exact rfl))
  | ((with_reducible refine' i_ixT ?k1 ?k2 ?_); (case k1 => walk_at "h"); (case k2 => exact rfl))
  | ((with_reducible refine' i_lenL ?k1 ?_); (case k1 => walk_at "h"))
  | ((with_reducible refine' i_lenT ?k1 ?_); (case k1 => walk_at "h"))
  | (refine i_wipe (show wipe _ _ = wipe _ _ from rfl) ?_)
  | ((with_reducible refine' i_setL ?k1 ?k2 ?_); (case k1 => walk_at "h"); (case k2 => exact rfl))
  | ((with_reducible refine' i_tyl ?k1 ?_); (case k1 => walk_at "h"))))
local macro_rules | `(tactic| walk_at "v") => `(tactic| repeat (first | walk_at "v1" | walk_at "v2"))

variable {P : Program} {w : World} {K :
      PySem.W.Frag} {mg : Str → Option Value} {base : Heap}
abbrev s_law_start : Stmt := top 38
abbrev N_law_start : List Str := ["script"]
abbrev P_law_start : List Str := ["script"]
theorem sc_law_start : FnScope N_law_start P_law_start (defScope s_law_start) := ⟨rfl, rfl, rfl, by decide +kernel, rfl, by decide +kernel, by decide +kernel⟩
abbrev s_law_below : Stmt := top 39
abbrev N_law_below : List Str := ["stream", "many", "cell", "digit", "mixed"]
abbrev P_law_below : List Str := ["stream", "many"]
theorem sc_law_below : FnScope N_law_below P_law_below (defScope s_law_below) := ⟨rfl, rfl, rfl, by decide +kernel, rfl, by decide +kernel, by decide +kernel⟩
def spStart : Sp := fun vs H Q _ => ∃ (s : Addr) (ns : List Int), vs = [.ref s] ∧ SqL K H s (ns.map V.int) ∧ ns.length ≤ 1000 ∧
  ∀ a b H', H a = none → H b = none → StreamAt a b 0 H' → Same H H' → Q (.ref a) H'
theorem ok_start (d : Fd K mg "_law_start" s_law_start P_law_start) (B : Blt mg) : FnOk P w K mg base CX0 1 d.f d.fd P_law_start (spStart (K := K)) := by
  refine d.F.ok sc_law_start (fun vs H Q E h => ?_) (fun cdv A outer s H vs Q E hr h => ?_)
  · obtain ⟨s, ns, rfl, _⟩ := h
    rfl
  · obtain ⟨s, ns, rfl, hS, hl, k⟩ := h
    refine ⟨_, (pss_one (ps_ret (pe_lst (pa_cons (pe_callTy (c_list K) (by rfl) B.list (by decide +kernel) (pa_cons (pv 0) pa_nil)) (pa_cons pe_int (pa_cons pe_int (pa_cons pe_int pa_nil))))))), ?_⟩
    refine ⟨_, rfl, _, _, rfl, .inl hS, fun b hb => ⟨(by show 4 ≤ sizeLine; decide), fun a ha => ?_⟩⟩
    have hn : a ≠ b := fun z => by rw [z, upd_same] at ha; cases ha
    have ha' : H a = none := by rw [upd_ne hn] at ha; exact ha
    refine k a b _ ha' hb ⟨hn, ns, 0, 0, 43, upd_same, ?_, by omega, by omega, by omega, by omega, by omega, hl⟩ ?_
    · rw [upd_ne hn.symm, upd_same]
    · intro q o e
      rw [upd_ne (ne_of_none e ha'), upd_ne (ne_of_none e hb)]; exact e

def spBelow (a b : Addr) : Sp := fun vs H Q _ => ∃ (n : Nat) (many : Int), vs = [.ref a, .int many] ∧ 0 < many ∧ many ≤ 1000000 ∧ StreamAt a b n H ∧ n < 2 ^ 40 ∧
  ∀ (d : Int) H', 0 ≤ d → d < many → StreamAt a b (n + 1) H' → Keep [a, b] H H' → Q (.int d) H'
theorem ok_below {a b : Addr} (d : Fd K mg "_law_below" s_law_below P_law_below) (B : Blt mg) : FnOk P w K mg base CX0 1 d.f d.fd P_law_below (spBelow a b) := by
  refine d.F.ok sc_law_below (fun vs H Q E h => ?_) (fun cdv A outer s H vs Q E hr h => ?_)
  · obtain ⟨n, many, rfl, _⟩ := h
    rfl
  · obtain ⟨n, many, rfl, hm, hM, hS, hn, k⟩ := h
    refine ⟨_, (pss_cons (ps_asg (pe_op op_add (pe_ix (x_list K) (pv 0) pe_int (fun _ _ => rfl)) pe_int) (pg_sub (pv 0) pe_int set_list))
      (pss_cons (ps_while PassesOwn.never (PW.pt (pw_and (pt_cmpR op_eq (pe_ix (x_list K) (pv 0) pe_int (fun _ _ => rfl)) pe_int (nomark _)) (pw_and1 (pt_cmpR (o_neD K hr.units) (pe_ix (x_list K) (pv 0) pe_int (fun _ _ => rfl)) (pe_lst pa_nil) (nomark _)))))
      (pss_cons (ps_set (i := 2) sc_law_below.nd rfl (by first | exact Or.inl rfl | exact Or.inr rfl) (e_bm K PySem.F.plainAttrs_list PySem.F.slot_list_pop PySem.F.type_list_pop mt_popAt (pe_ix (x_list K) (pv 0) pe_int (fun _ _ => rfl)) (pa_cons pe_int pa_nil)))
      (pss_cons (ps_asg (pe_op op_modN (pe_callTy c_int1 (by rfl) B.int (by decide +kernel) (pa_cons (pe_op op_add (pe_op op_add (pe_op op_mul (pe_ix (x_list K) (pv 0) pe_int (fun _ _ => rfl)) pe_int) (pv 2)) pe_int) pa_nil)) pe_int) (pg_sub (pv 0) pe_int set_list))
      (pss_one (ps_asg (pe_ifExp (pt_cmpR op_ge (pv 2) (pe_op op_pow pe_int pe_int) (nomark _)) (pv 2) pe_int) (pg_sub (pv 0) pe_int set_list))))))
      (pss_cons (ps_if (pt_cmpR op_gt (pe_ix (x_list K) (pv 0) pe_int (fun _ _ => rfl)) pe_int (nomark _)) (pss_cons (ps_set (i := 3) sc_law_below.nd rfl (by first | exact Or.inl rfl | exact Or.inr rfl) (pe_op op_modN (pe_callTy c_int1 (by rfl) B.int (by decide +kernel) (pa_cons (pe_ix (x_list K) (pv 0) pe_int (fun _ _ => rfl)) pa_nil)) (pv 1)))
      (pss_cons (ps_asg (pe_op op_fdivN (pe_ix (x_list K) (pv 0) pe_int (fun _ _ => rfl)) (pv 1)) (pg_sub (pv 0) pe_int set_list))
      (pss_one (ps_ret (pv 3))))) pss_nil)
      (pss_cons (ps_set (i := 4) sc_law_below.nd rfl (by first | exact Or.inl rfl | exact Or.inr rfl) (pe_op op_modN (pe_callTy c_int1 (by rfl) B.int (by decide +kernel) (pa_cons (pe_op op_pow (pe_op op_add (pe_op op_add (pe_ix (x_list K) (pv 0) pe_int (fun _ _ => rfl)) (pe_op op_mul pe_int (pe_ix (x_list K) (pv 0) pe_int (fun _ _ => rfl)))) pe_int) pe_int) pa_nil)) pe_int))
      (pss_one (ps_ret (pe_op op_modN (pe_op op_modN (pe_callTy c_int1 (by rfl) B.int (by decide +kernel) (pa_cons (pe_op op_pow (pe_op op_add (pe_op op_add (pe_op op_mul (pv 4) pe_int) (pe_op op_mul pe_int (pe_ix (x_list K) (pv 0) pe_int (fun _ _ => rfl)))) pe_int) pe_int) pa_nil)) pe_int) (pv 1)))))))), ?_⟩
    obtain ⟨ne, cells, x, c, m, h1, h2, x0, c0, cn, m0, mM, cl⟩ := hS
    have ne' := ne.symm
    walk_at "v"
    refine while_to (fun σ H' => ∃ (cells : List Int) (x m : Int) (v2 : Option V), σ = [some (.ref a), some (.int many), v2, none, none] ∧ H' a = some (.lst [.ref b, .int x, .int (c + 1), .int m]) ∧ H' b = some (.lst (cells.map V.int)) ∧
      0 ≤ x ∧ 0 ≤ m ∧ m < 2147483647 ∧ cells.length ≤ 1000 ∧ Keep [a, b] H H')
      (fun σ H' => ∃ (cells : List Int) (x m : Int) (v2 : Option V), σ = [some (.ref a), some (.int many), v2, none, none] ∧ H' a = some (.lst [.ref b, .int x, .int (c + 1), .int m]) ∧ H' b = some (.lst (cells.map V.int)) ∧
      0 ≤ x ∧ 0 ≤ m ∧ m < 2147483647 ∧ cells.length ≤ 1000 ∧ Keep [a, b] H H')
      (fun _ H' => match H' b with | some (.lst xs) => xs.length | _ => 0) ⟨cells, x, m, none, rfl, by walk_at "h", by walk_at "h", x0, m0, mM, cl, (Keep.refl _ _).put (by simp)⟩ ?_
      (mo_and (mo_test (mo_op mo_eq (mo_op mo_ixL (mo_var _) (mo_c _)) (mo_c _))) (mo_test (mo_op mo_neD (mo_op mo_ixL (mo_var _) (mo_c _)) mo_lst0))) ?_
    · rintro σ H' ⟨cells, x, m, v2, rfl, h1, h2, x0, m0, mM, cl, kp⟩
      walk_at "v"
      refine ifd (fun hx => ?_) (fun hx => iteF ⟨cells, x, m, v2, rfl, h1, h2, x0, m0, mM, cl, kp⟩)
      walk_at "v"
      refine ⟨Nat.zero_le _, fun p hp => ?_⟩
      have npa : a ≠ p := ne_of_none h1 hp
      have npb : b ≠ p := ne_of_none h2 hp
      refine i_neD (dp_ints (h_ne npb h2)) (dp_ints (ns := []) upd_same) (shaped_ints _) rfl ?_
      rw [show ([] : List Int).map PyData.int = [] from rfl, eqv_ints_nil]
      refine i_bl (ifn (fun hc => ?_) (fun hc => ⟨cells, x, m, v2, rfl, by walk_at "h", by walk_at "h", x0, m0, mM, cl, kp.new hp⟩))
      obtain ⟨cell, rest, rfl⟩ : ∃ y r, cells = y :: r := by
        cases cells with
        | nil => exact absurd rfl hc
        | cons y r => exact ⟨y, r, rfl⟩
      walk_at "v"
      refine i_popAt (k := 0) (y := .int cell) (by walk_at "h") (by decide) (by decide) ?_ rfl ?_
      · simp [seqIndex?]
      walk_at "v"
      refine i_mulL (by omega) (by omega) ?_
      walk_at "v"
      refine i_mod (by decide) ?_
      have e1 := Int.fmod_nonneg_of_pos (m * 69031 + cell + 13) (show (0 : Int) < 2147483647 by decide)
      have e2 := Int.fmod_lt_of_pos (m * 69031 + cell + 13) (show (0 : Int) < 2147483647 by decide)
      generalize (m * 69031 + cell + 13).fmod 2147483647 = m' at *
      walk_at "v"
      refine i_pow (by decide) (by decide) (by decide) ?_
      walk_at "v"
      refine ifd (fun hb => ?_) (fun hb => ?_)
      · have hb' : (10 : Int) ^ 18 ≤ cell := hb
        walk_at "v"
        refine ⟨⟨rest, cell, m', _, rfl, upd_same, ?_, by omega, e1, e2, Nat.le_of_succ_le cl, ?_⟩, ?_⟩
        · walk_at "h"
        · exact (((kp.new hp).put (by simp)).put (by simp)).put (by simp)
        · rw [h2]; show (match upd _ a _ b with | some (.lst xs) => xs.length | _ => 0) < _
          rw [upd_ne ne', upd_ne ne', upd_same]; simp
      · walk_at "v"
        refine ⟨⟨rest, 0, m', _, rfl, upd_same, ?_, by omega, e1, e2, Nat.le_of_succ_le cl, ?_⟩, ?_⟩
        · walk_at "h"
        · exact (((kp.new hp).put (by simp)).put (by simp)).put (by simp)
        · rw [h2]; show (match upd _ a _ b with | some (.lst xs) => xs.length | _ => 0) < _
          rw [upd_ne ne', upd_ne ne', upd_same]; simp
    · rintro σ H' ⟨cells, x, m, v2, rfl, h1, h2, x0, m0, mM, cl, kp⟩
      have hn' : (n : Int) < 1099511627776 := by omega
      have big : ∀ z : Int, 0 ≤ z → z < 2 ^ 63 → z.natAbs < 2 ^ 64 := fun z a b => by omega
      walk_at "v"
      refine ifd (fun hx => ?_) (fun hx => ?_)
      · walk_at "v"
        refine i_mod (by omega) ?_
        walk_at "v"
        refine i_fdiv (by omega) (by omega) ?_
        walk_at "v"
        refine k _ _ (Int.fmod_nonneg_of_pos _ hm) (Int.fmod_lt_of_pos _ hm) ⟨ne, cells, x.fdiv many, c + 1, m, upd_same, by walk_at "h", ?_, by omega, by omega, m0, mM, cl⟩ (kp.put (by simp))
        rw [Int.fdiv_eq_ediv_of_nonneg _ (by omega)]
        exact Int.ediv_nonneg x0 (by omega)
      · walk_at "v"
        refine i_mulL (by decide) (by decide) ?_
        walk_at "v"
        refine i_pow (by decide) (by decide) (big _ (by omega) (by omega)) ?_
        walk_at "v"
        refine i_mod (by decide) ?_
        have e1 := Int.fmod_nonneg_of_pos ((m + 9049 * (c + 1) + 130073) ^ (5 : Int).toNat) (show (0 : Int) < 2147483629 by decide)
        have e2 := Int.fmod_lt_of_pos ((m + 9049 * (c + 1) + 130073) ^ (5 : Int).toNat) (show (0 : Int) < 2147483629 by decide)
        generalize ((m + 9049 * (c + 1) + 130073) ^ (5 : Int).toNat).fmod 2147483629 = z at *
        walk_at "v"
        refine i_mulL (by omega) (by omega) ?_
        walk_at "v"
        refine i_mulL (by decide) (by decide) ?_
        walk_at "v"
        refine i_pow (by decide) (by decide) (big _ (by omega) (by omega)) ?_
        walk_at "v"
        refine i_mod (by decide) ?_
        walk_at "v"
        refine i_mod (by omega) ?_
        exact k _ _ (Int.fmod_nonneg_of_pos _ hm) (Int.fmod_lt_of_pos _ hm) ⟨ne, cells, x, c + 1, m, h1, h2, x0, by omega, by omega, m0, mM, cl⟩ kp
end Lr
set_option Elab.async false
set_option linter.all false
set_option maxRecDepth 100000
set_option maxHeartbeats 4000000
namespace Lr
open PySem PySem.Spec
      PyProof.Rows L2
local macro_rules | `(tactic| walk_at "ne") => `(tactic| (first | assumption | (refine ne_sym ?_; assumption) | (exact ne_of_none (by assumption) (by assumption)) | (exact ne_sym (ne_of_none (by assumption) (by assumption)))))
local macro_rules | `(tactic| walk_at "h") => `(tactic| (first | assumption | exact upd_same | (refine h_new ?_ (by assumption); walk_at "h") | (refine h_ne (by walk_at "ne") ?_; walk_at "h")))
local macro_rules | `(tactic| walk_at "v1") => `(tactic| (with_reducible first
  | refine i_seq ?_ | refine i_asg ?_ | refine i_ret ?_ | refine i_next ?_ | refine i_drop ?_ | refine i_ifS ?_ | refine i_if ?_ | refine i_and ?_ | refine i_or ?_ | refine i_not ?_ | refine i_test ?_ | refine i_tB ?_ | refine i_bl ?_ | refine i_yes ?_
  | refine i_op ?_ | refine i_un ?_ | refine i_chain ?_ | refine i_andV ?_ | refine i_orV ?_ | refine i_notV ?_ | refine i_cb ?_ | refine i_cons ?_ | refine i_nil ?_ | refine i_bm ?_ | refine i_bm0 ?_ | refine i_c ?_ | refine i_name ?_ | refine i_sub ?_
  | refine i_call ?_ | refine i_lst ?_ | refine i_tup ?_ | refine i_par ?_ | refine i_par2 ?_ | refine i_sl ?_ | refine i_np ?_ | refine i_pt ?_ | refine i_int ?_ | refine i_m0 ?_ | refine i_m1 ?_ | refine i_isS ?_
  | refine i_rI0 ?_ | refine i_inSign ?_ | refine i_notInSign ?_ | refine i_int1 ?_ | refine i_tru ?_ | refine i_isN ?_ | refine i_notN ?_ | refine iteT ?_ | refine iteF ?_ | refine i_brk ?_ | refine i_rt ?_ | refine i_nx ?_ | refine i_bk ?_ | refine i_ct ?_ | refine i_for ?_ | refine i_lc ?_ | refine i_dc ?_ | refine i_iL ?_ | refine i_iT ?_ | refine i_iR1 ?_ | refine i_iR2 ?_ | refine i_iS ?_ | refine i_iE ?_ | refine i_iEK ?_ | refine i_iEQ ?_ | refine i_iZS ?_ | refine i_dget ?_ | refine i_fld ?_ | refine i_sfld ?_ | refine i_dput ?_ | refine i_meth ?_ | refine i_rU ?_ | refine i_cont ?_ | refine i_make ?_))
local macro_rules | `(tactic| walk_at "v2") => `(tactic| (first
  | ((with_reducible refine' i_var ?k1 ?_); (case k1 => exact rfl))
  | ((with_reducible refine' i_eq ?k1 ?_); (case k1 => exact rfl))
  | ((with_reducible refine' i_ne ?k1 ?_); (case k1 => exact rfl))
  | ((with_reducible refine' i_ixL ?k1 ?k2 ?_); (case k1 => walk_at "h"); (case k2 => exact rfl))
  | ((with_reducible refine' i_ixT ?k1 ?k2 ?_); (case k1 => walk_at "h"); (case k2 => exact rfl))
  | ((with_reducible refine' i_lenL ?k1 ?_); (case k1 => walk_at "h"))
  | ((with_reducible refine' i_lenT ?k1 ?_); (case k1 => walk_at "h"))
  | (refine i_wipe (show wipe _ _ = wipe _ _ from rfl) ?_)
  | ((with_reducible refine' i_setL ?k1 ?k2 ?_); (case k1 => walk_at "h"); (case k2 => exact rfl))
  | ((with_reducible refine' i_tyl ?k1 ?_); (case k1 => walk_at "h"))))
local macro_rules | `(tactic| walk_at "v") => `(tactic| repeat (first | walk_at "v1" | walk_at "v2"))

variable {P : Program} {w : World} {K :
      PySem.W.Frag} {mg : Str → Option Value} {base : Heap}
abbrev s_law_chance : Stmt := top 40
abbrev N_law_chance : List Str := ["stream", "many"]
abbrev P_law_chance : List Str := ["stream", "many"]
theorem sc_law_chance : FnScope N_law_chance P_law_chance (defScope s_law_chance) := ⟨rfl, rfl, rfl, by decide +kernel, rfl, by decide +kernel, by decide +kernel⟩
abbrev s_law_pick : Stmt := top 41
abbrev N_law_pick : List Str := ["stream", "some"]
abbrev P_law_pick : List Str := ["stream", "some"]
theorem sc_law_pick : FnScope N_law_pick P_law_pick (defScope s_law_pick) := ⟨rfl, rfl, rfl, by decide +kernel, rfl, by decide +kernel, by decide +kernel⟩
abbrev s_law_mixed : Stmt := top 42
abbrev N_law_mixed : List Str := ["stream", "some", "left", "k"]
abbrev P_law_mixed : List Str := ["stream", "some"]
theorem sc_law_mixed : FnScope N_law_mixed P_law_mixed (defScope s_law_mixed) := ⟨rfl, rfl, rfl, by decide +kernel, rfl, by decide +kernel, by decide +kernel⟩
abbrev s_law_lot : Stmt := top 43
abbrev N_law_lot : List Str := ["stream", "some", "share", "thing"]
abbrev P_law_lot : List Str := ["stream", "some", "share"]
theorem sc_law_lot : FnScope N_law_lot P_law_lot (defScope s_law_lot) := ⟨rfl, rfl, rfl, by decide +kernel, rfl, by decide +kernel, by decide +kernel⟩
abbrev FdB (K : PySem.W.Frag) (mg : Str → Option Value) := Fd K mg "_law_below" s_law_below P_law_below
def spChance (a b : Addr) : Sp := fun vs H Q _ => ∃ (n : Nat) (many : Int), vs = [.ref a, .int many] ∧ 0 < many ∧ many ≤ 1000000 ∧ StreamAt a b n H ∧ n < 2 ^ 40 ∧
  ∀ (d : Bool) H', StreamAt a b (n + 1) H' → Keep [a, b] H H' → Q (.bl d) H'
theorem ok_chance {a b : Addr} (d : Fd K mg "_law_chance" s_law_chance P_law_chance) (d_law_below : FdB K mg) (B : Blt mg) : FnOk P w K mg base CX0 2 d.f d.fd P_law_chance (spChance a b) := by
  have G_law_below : FnOk P w K mg base CX0 1 d_law_below.f d_law_below.fd P_law_below (spBelow a b) := ok_below d_law_below B
  refine d.F.ok sc_law_chance (fun vs H Q E h => ?_) (fun cdv A outer s H vs Q E hr h => ?_)
  · obtain ⟨n, many, rfl, _⟩ := h
    rfl
  · obtain ⟨n, many, rfl, hm, hM, hS, hn, k⟩ := h
    refine ⟨_, (pss_one (ps_ret (pe_cmpR op_eq (pe_call G_law_below (hr.mono (by decide)) (by rfl) d_law_below.g d_law_below.F.kp d_law_below.b .nil pass0 (pa_cons (pv 0) (pa_cons (pv 1) pa_nil))) pe_int (nomark _)))), ?_⟩
    walk_at "v"
    refine ⟨n, many, rfl, hm, hM, hS, hn, fun d H' h1 h2 h3 h4 => ?_⟩
    walk_at "v"
    exact k _ _ h3 h4
def spPick (a b : Addr) : Sp := fun vs H Q _ => ∃ (n : Nat) (p : Addr) (xs : List V), vs = [.ref a, .ref p] ∧ H p = some (.lst xs) ∧ p ∉ [a, b] ∧ 0 < xs.length ∧ xs.length ≤ 1000000 ∧ StreamAt a b n H ∧ n < 2 ^ 40 ∧
  ∀ (x : V) (i : Nat) H', xs[i]? = some x → StreamAt a b (n + 1) H' → Keep [a, b] H H' → Q x H'
theorem atI_of {xs : List V} {d : Int} (h : 0 ≤ d) (h' : d < xs.length) : ∃ x, xs[d.toNat]? = some x ∧ atI xs d = some x := by
  have e : d.toNat < xs.length := by omega
  refine ⟨xs[d.toNat], by simp [e], ?_⟩
  have q := atI_nat (xs := xs) (j := d.toNat) (v := xs[d.toNat]) (by simp [e])
  rwa [Int.toNat_of_nonneg h] at q
theorem ok_pick {a b : Addr} (d : Fd K mg "_law_pick" s_law_pick P_law_pick) (d_law_below : FdB K mg) (B : Blt mg) : FnOk P w K mg base CX0 2 d.f d.fd P_law_pick (spPick a b) := by
  have G_law_below : FnOk P w K mg base CX0 1 d_law_below.f d_law_below.fd P_law_below (spBelow a b) := ok_below d_law_below B
  refine d.F.ok sc_law_pick (fun vs H Q E h => ?_) (fun cdv A outer s H vs Q E hr h => ?_)
  · obtain ⟨n, many, xs, rfl, _⟩ := h
    rfl
  · obtain ⟨n, p, xs, rfl, hp, np, hm, hM, hS, hn, k⟩ := h
    refine ⟨_, (pss_one (ps_ret (pe_ix (x_list K) (pv 1) (pe_call G_law_below (hr.mono (by decide)) (by rfl) d_law_below.g d_law_below.F.kp d_law_below.b .nil pass0 (pa_cons (pv 0) (pa_cons (pe_callB (c_len K) (by rfl) B.len (by decide +kernel) (pa_cons (pv 1) pa_nil)) pa_nil))) (fun _ _ => rfl)))), ?_⟩
    walk_at "v"
    refine ⟨n, xs.length, rfl, by omega, by omega, hS, hn, fun d H' h1 h2 h3 h4 => ?_⟩
    obtain ⟨x, e1, e2⟩ := atI_of h1 h2
    refine i_ixL (h4 _ _ np hp) e2 ?_
    exact k _ _ _ e1 h3 h4
/-- a list or a tuple stands at p -/
def Seq (H : Hp) (p : Addr) (xs : List V) : Prop := H p = some (.lst xs) ∨ H p = some (.tup xs)
theorem Seq.sq {K : PySem.W.Frag} {H : Hp} {p : Addr} {xs : List V} (h : Seq H p xs) : SqL K H p xs ∨ SqT K H p xs := h.imp SqL.of SqT.of
def spMixed (a b : Addr) : Sp := fun vs H Q _ => ∃ (n : Nat) (p : Addr) (xs : List V), vs = [.ref a, .ref p] ∧ Seq H p xs ∧ xs.length ≤ 1000 ∧ StreamAt a b n H ∧ n < 2 ^ 39 ∧
  ∀ (q : Addr) (ys : List V) H', ys.Perm xs → H q = none → H' q = some (.lst ys) → StreamAt a b (n + xs.length) H' → Keep [a, b] H H' → Q (.ref q) H'
theorem perm_erase {α : Type} : ∀ {zs : List α} {j : Nat} {x : α}, zs[j]? = some x → List.Perm ([x] ++ zs.eraseIdx j) zs
  | [], _, _, h => by simp at h
  | z :: zs, 0, x, h => by simp at h; subst h; exact List.Perm.refl _
  | z :: zs, j + 1, x, h => by
    have ih := perm_erase (zs := zs) (j := j) (x := x) (by simpa using h)
    show List.Perm (x :: z :: zs.eraseIdx j) (z :: zs)
    exact (List.Perm.swap _ _ _).trans (List.Perm.cons _ ih)
theorem ok_mixed {a b : Addr} (d : Fd K mg "_law_mixed" s_law_mixed P_law_mixed) (d_law_below : FdB K mg) (B : Blt mg) : FnOk P w K mg base CX0 2 d.f d.fd P_law_mixed (spMixed a b) := by
  have G_law_below : FnOk P w K mg base CX0 1 d_law_below.f d_law_below.fd P_law_below (spBelow a b) := ok_below d_law_below B
  refine d.F.ok sc_law_mixed (fun vs H Q E h => ?_) (fun cdv A outer s H vs Q E hr h => ?_)
  · obtain ⟨n, many, xs, rfl, _⟩ := h
    rfl
  · obtain ⟨n, p, xs, rfl, hp, hM, hS, hn, k⟩ := h
    refine ⟨_, (pss_cons (ps_set (i := 2) sc_law_mixed.nd rfl (by first | exact Or.inl rfl | exact Or.inr rfl) (pe_callTy (c_list K) (by rfl) B.list (by decide +kernel) (pa_cons (pv 1) pa_nil)))
      (pss_one (ps_ret (pe_lc (own := [("k", 3)]) (g := gName 3) (tt := tYes) rfl sc_law_mixed.nd (pi_range1 (by rfl) B.range (pa_cons (pe_callB (c_len K) (by rfl) B.len (by decide +kernel) (pa_cons (pv 2) pa_nil)) pa_nil)) (blkOk_by (own := [("k", 3)]) (N := N_law_mixed) (sc := defScope s_law_mixed) (by decide +kernel)) (fun _ _ _ _ _ => by exact (pg_name (i := 3) sc_law_mixed.nd rfl (by first | exact Or.inl rfl | exact Or.inr rfl))) (fun _ _ _ _ _ => pts_nil) (fun _ _ _ _ _ => by exact (e_bm K PySem.F.plainAttrs_list PySem.F.slot_list_pop PySem.F.type_list_pop mt_popAt (pv 2) (pa_cons (pe_call G_law_below (hr.mono (by decide)) (by rfl) d_law_below.g d_law_below.F.kp d_law_below.b .nil pass0 (pa_cons (pv 0) (pa_cons (pe_callB (c_len K) (by rfl) B.len (by decide +kernel) (pa_cons (pv 2) pa_nil)) pa_nil))) pa_nil))))))), ?_⟩
    walk_at "v"
    refine ⟨p, xs, rfl, hp.sq, fun l hl => ?_⟩
    walk_at "v"
    refine w_rg1 (n := xs.length) (by omega) ?_
    refine lc_by walk_range fun D hD => ⟨fun i H' => ∃ ys zs : List V, H' D = some (.lst ys) ∧ H' l = some (.lst zs) ∧ ys.length = i ∧ zs.length + i = xs.length ∧ (ys ++ zs).Perm xs ∧ StreamAt a b (n + i) H' ∧ Keep [a, b] H H', ?_, fun _ _ _ _ => trivial, ?_, ?_⟩
    · have nlD : l ≠ D := fun z => by rw [z, upd_same] at hD; cases hD
      exact ⟨[], xs, upd_same, by walk_at "h", rfl, rfl, List.Perm.refl _, (hS.new hl).new hD, ((Keep.refl _ _).new' hl).new hD⟩
    · rintro i x H1 H2 hi ⟨ys, zs, h1, h2, e1, e2, pm, st, kp⟩ ⟨rfl, rfl⟩
      have nlD : l ≠ D := fun z => by rw [z, upd_same] at hD; cases hD
      have na := (hS.new hl).na hD
      have nl := hS.na hl
      have nD : D ∉ [a, b] := by simp [na.1, na.2]
      have nL : l ∉ [a, b] := by simp [nl.1, nl.2]
      walk_at "v"
      refine ⟨n + i, zs.length, rfl, by omega, by omega, st, by omega, fun d H3 d0 d1 st3 kp3 => ?_⟩
      walk_at "v"
      obtain ⟨x, _, g2⟩ := atI_of d0 d1
      obtain ⟨j, g0, g1, d2, _⟩ := atI_get g2
      have h3 := kp3 _ _ nL h2
      have h4 := kp3 _ _ nD h1
      refine i_popAt (k := j) h3 (by omega) (by omega) g0 g1 ?_
      refine ⟨ys, h_ne nlD.symm h4, by rw [e1]; exact small1000 (by omega), ys ++ [x], zs.eraseIdx j, upd_same, h_ne nlD upd_same, by simp [e1], ?_, ?_, ?_, ?_⟩
      · rw [List.length_eraseIdx_of_lt d2]; omega
      · refine List.Perm.trans ?_ pm
        rw [List.append_assoc]
        refine
              List.Perm.append_left _ ?_
        exact perm_erase g1
      · have st4 := st3.put (o := .lst (zs.eraseIdx j)) nl.1 nl.2
        exact st4.put na.1 na.2
      · exact ((kp.trans kp3).new' hl).new' (by rw [upd_ne nlD.symm] at hD; exact hD)
    · rintro H' ⟨ys, zs, h1, h2, e1, e2, pm, st, kp⟩
      have hz : zs = [] := List.length_eq_zero_iff.mp (by omega)
      subst hz
      rw [List.append_nil] at pm
      walk_at "v"
      have hD' : H D = none := by
        have nlD : l ≠ D := fun z => by rw [z, upd_same] at hD; cases hD
        rw [upd_ne nlD.symm] at hD; exact hD
      exact k D ys H' pm hD' h1 st kp
def spLot (a b : Addr) : Sp := fun vs H Q _ => ∃ (n : Nat) (p : Addr) (xs : List V) (many : Int), vs = [.ref a, .ref p, .int many] ∧ H p = some (.lst xs) ∧ p ∉ [a, b] ∧ 0 < many ∧ many ≤ 1000000 ∧ xs.length ≤ 1000 ∧ StreamAt a b n H ∧ n < 2 ^ 39 ∧
  ∀ (q : Addr) (ys : List V) H', ys.Sublist xs → H q = none → H' q = some (.lst ys) → StreamAt a b (n + xs.length) H' → Keep [a, b] H H' → Q (.ref q) H'
theorem ok_lot {a b : Addr} (d : Fd K mg "_law_lot" s_law_lot P_law_lot) (d_law_below : FdB K mg) (B : Blt mg) : FnOk P w K mg base CX0 2 d.f d.fd P_law_lot (spLot a b) := by
  have G_law_below : FnOk P w K mg base CX0 1 d_law_below.f d_law_below.fd P_law_below (spBelow a b) := ok_below d_law_below B
  refine d.F.ok sc_law_lot (fun vs H Q E h => ?_) (fun cdv A outer s H vs Q E hr h => ?_)
  · obtain ⟨n, many, xs, _, rfl, _⟩ := h
    rfl
  · obtain ⟨n, p, xs, many, rfl, hp, np, hm0, hm1, hM, hS, hn, k⟩ := h
    refine ⟨_, (pss_one (ps_ret (pe_lc (own := [("thing", 3)]) (g := gName 3) rfl sc_law_lot.nd (w_list K (pv 1)) (blkOk_by (own := [("thing", 3)]) (N := N_law_lot) (sc := defScope s_law_lot) (by decide +kernel)) (fun _ _ _ _ _ => by exact (pg_name (i := 3) sc_law_lot.nd rfl (by first | exact Or.inl rfl | exact Or.inr rfl))) (fun _ _ _ _ _ => by exact (pts_one (pt_cmpR op_eq (pe_call G_law_below (hr.mono (by decide)) (by rfl) d_law_below.g d_law_below.F.kp d_law_below.b .nil pass0 (pa_cons (pv 0) (pa_cons (pv 2) pa_nil))) pe_int (nomark _)))) (fun _ _ _ _ _ => by exact (pv 3))))), ?_⟩
    walk_at "v"
    refine w_lst hp ?_
    refine lc_by (walk_list (xs := xs)) fun D hD => ⟨fun i H' => ∃ ys : List V, H' D = some (.lst ys) ∧ ys.Sublist (xs.take i) ∧ StreamAt a b (n + i) H' ∧ Keep [a, b] H H', ?_, fun i H' _ ⟨ys, _, _, _, kp⟩ => SqL.of (kp _ _ np hp), ?_, ?_⟩
    · exact ⟨[], upd_same, List.nil_sublist _, hS.new hD, (Keep.refl _ _).new' hD⟩
    · rintro i x H1 H2 hi ⟨ys, h1, sb, st, kp⟩ ⟨rfl, hx⟩
      have na := hS.na hD
      have nD : D ∉ [a, b] := by simp [na.1, na.2]
      have ht : xs.take (i + 1) = xs.take i ++ [x] := by rw [List.take_succ, hx]; rfl
      walk_at "v"
      refine ⟨n + i, many, rfl, by omega, by omega, st, by omega, fun d H3 d0 d1 st3 kp3 => ?_⟩
      have h4 := kp3 _ _ nD h1
      walk_at "v"
      refine ifd (fun hc => ?_) (fun hc => ?_)
      · walk_at "v"
        have e3 := sb.length_le
        rw [List.length_take] at e3
        refine ⟨ys, h4, small1000 (by omega), ys ++ [x], upd_same, by rw [ht]; exact sb.append (List.Sublist.refl _), st3.put na.1 na.2, (kp.trans kp3).new' hD⟩
      · exact ⟨ys, h4, by rw [ht]; exact sb.trans (List.sublist_append_left _ _), st3, kp.trans kp3⟩
    · rintro H' ⟨ys, h1, sb, st, kp⟩
      rw [List.take_length] at sb
      walk_at "v"
      exact k D ys H' sb hD h1 st kp
abbrev FdLot (K : PySem.W.Frag) (mg : Str → Option Value) := Fd K mg "_law_lot" s_law_lot P_law_lot
end Lr
set_option Elab.async false
set_option linter.all false
set_option maxRecDepth 100000
set_option maxHeartbeats 4000000
/-! Ve: for n, x in enumerate(list, start=k): the count apart from the place. -/
namespace Lr
open PySem PySem.Spec
      PyProof.Rows L2
/-- the list at a as it stands at each turn, each item in a new pair behind the count k + i -/
def ItK (K : PySem.W.Frag) (k : Int) (a : Addr) : It where
  go := fun i H => ∃ (ys : List V) (y : V), SqL K H a ys ∧ ys[i]? = some y
  yld := fun i H v H' => ∃ T y, v = .ref T ∧ H T = none ∧ H' = upd H T (.tup [.int (k + i), y]) ∧ ∀ ys, SqL K H a ys → ys[i]? = some y
  stop := fun i H => ∃ ys : List V, SqL K H a ys ∧ ys.length = i
theorem turn_enumK {P : Program} {w : World} {K : PySem.W.Frag} {elts : List Expr} {kk : Nat} {tpos : Pos} (k : Int) (a e it : Addr) :
    Turn P w K (.Tuple elts kk tpos) (ItK K k a) [e, it] e (fun i h => (∃ old, IsEnum h e it (k + i) old) ∧ h.IsListIter it a i ∧ e ≠ it ∧ a ≠ it ∧ a ≠ e) := by
  refine ⟨by simp, ?_, ?_, ?_, ?_, ?_⟩
  · intro i h st b hb
    obtain ⟨⟨old, he⟩, ⟨o,
          ho, hc, hd⟩, _⟩ := st
    have z : b = e ∨ b = it := by simpa using hb
    rcases z with rfl | rfl
    · exact ⟨_, he, fun v q => nomatch q⟩
    · exact ⟨o, ho, fun v q => by rw [hd] at q; cases q⟩
  · intro i h h' st kp
    obtain ⟨⟨old, he⟩, hi, r⟩ := st
    exact ⟨⟨old, kp e (by simp) _ he⟩, hi.at (fun o q => kp it (by simp) o q), r⟩
  · intro X hP hw hK hc i pins s σ H E I hf st hg
    subst hP hw hK
    obtain ⟨⟨old, he⟩, hit, hne, hai, hae⟩ := st
    obtain ⟨ys, y, hq, hy⟩ := hg
    obtain ⟨its, rv, p,
          hz⟩ := I.list hq
    obtain ⟨u, hu, ru⟩ := rv.get hy
    have lt1 : e < s.heap.objs.size := Heap.lt_size he
    have lt2 : it < s.heap.objs.size := by obtain ⟨_, q, _⟩ := hit; exact Heap.lt_size q
    have Dr := Draws.list (prog := X.prog) (w := X.w) (A := X.A.in1) (I.ok.hd hc) it a hai its.toArray
    have hlt : i < its.toArray.size := by
      have := (List.getElem?_eq_some_iff.mp hu).1
      simpa using this
    refine wpAny_pyNext_enum_itemC Dr he ⟨hit, p.isList⟩ hlt hne (by simp [hne]; exact fun z => hae z.symm) fun x h' tk hx ho hst hT hsz hk => ?_
    have ex : x = u := by
      have : its[i]? = some x := by simpa using hx
      rw [hu] at this; cases this; rfl
    subst ex
    refine ⟨_, rfl, wpAny_letOwnedTupleGo_enum (s := { s with heap := h', toks := tk + 1 }) ho fun h'' he' sb => ?_⟩
    have hT2 := (sb.2 s.heap.objs.size (Nat.ne_of_gt lt1)).trans hT
    have new : ObjOk X.prog X.w (upd H s.heap.objs.size (.tup [.int (k + i), y])) h'' s.heap.objs.size (.tup [.int (k + i), y]) :=
      ⟨by show 2 ≤ sizeLine; decide, [.int (k + i) tk, x], .cons ⟨_, rfl⟩ (.cons ru .nil), ⟨_, hT2, rfl, _, rfl⟩⟩
    have J : Inv X pins σ (upd H s.heap.objs.size (.tup [.int (k + i), y])) { s with heap := h'', toks := tk + 1 } := by
      refine I.turnedNew (ch := [e, it]) (fun b ob hb q => ?_) hf (Nat.le_refl _) new
      have b1 : b ≠ e := fun z => hb (by simp [z])
      have b2 : b ≠ it := fun z => hb (by simp [z])
      exact (sb.2 b b1).trans (hk b ob b1 b2 q)
    refine ⟨.ref s.heap.objs.size, _, J, rfl, ⟨_, y, rfl, I.hok.fresh (Nat.le_refl _), rfl, fun zs hzs => by rw [I.list_inj hzs hq]; exact hy⟩, ⟨⟨x, ?_⟩, hst.1.at (fun o q => (sb.2 it (Ne.symm hne)).trans q), hne, hai, hae⟩, fun b hb => ?_⟩
    · have ec : k + ((i + 1 : Nat) : Int) = k + i + 1 := by omega
      rw [ec]; exact he'
    · have z : b = e ∨ b = it := by simpa using hb
      have lt : b < s.heap.objs.size := by
        rcases z with rfl | rfl
        · exact lt1
        · exact lt2
      rw [upd_ne (Nat.ne_of_lt lt)]
      exact (hf b hb).1
  · intro X hP hw hK hc i pins s σ H E I hf st hg
    subst hP hw hK
    obtain ⟨⟨old, he⟩, hit, hne, hai, hae⟩ := st
    obtain ⟨ys, hq, hy⟩ := hg
    obtain ⟨its, rv, p,
          hz⟩ := I.list hq
    obtain ⟨f0, f1, f2, f3,
          f4, f5⟩ := hf it (by simp)
    have hl := rv.length
    have Dr := Draws.list (prog := X.prog) (w := X.w) (A := X.A.in1) (I.ok.hd hc) it a hai its.toArray
    have hn : its.toArray.size = i := by simp; omega
    exact wpAny_pyNext_enum_endD Dr he (by rw [hn]; exact ⟨hit, p.isList⟩) fun h' eb => ⟨rfl, I.turned (t' := s.toks) (fun b o hb q => eb b o hb q) f0 f1 f3 f4 f5⟩
  · exact fun A i s Q E st h => let ⟨⟨_, he⟩, _⟩ := st; wpAny_pyIter_enum he h
theorem isTupIter_at {h h' : Heap} {a t : Addr} {i : Nat} (x : h.IsTupleIter a t i) (k : ∀ o, h.get? a = some o → h'.get? a = some o) : h'.IsTupleIter a t i :=
  let ⟨o, ho, r⟩
        := x; ⟨o, k o ho, r⟩
/-- the tuple at a as it stands at each turn, each item in a new pair behind the count k + i -/
def ItKT (K : PySem.W.Frag) (k : Int) (a : Addr) : It where
  go := fun i H => ∃ (ys : List V) (y : V), SqT K H a ys ∧ ys[i]? = some y
  yld := fun i H v H' => ∃ T y, v = .ref T ∧ H T = none ∧ H' = upd H T (.tup [.int (k + i), y]) ∧ ∀ ys, SqT K H a ys → ys[i]? = some y
  stop := fun i H => ∃ ys : List V, SqT K H a ys ∧ ys.length = i
theorem turn_enumT {P : Program} {w : World} {K : PySem.W.Frag} {elts : List Expr} {kk : Nat} {tpos : Pos} (k : Int) (a e it : Addr) :
    Turn P w K (.Tuple elts kk tpos) (ItKT K k a) [e, it] e (fun i h => (∃ old, IsEnum h e it (k + i) old) ∧ h.IsTupleIter it a i ∧ e ≠ it ∧ a ≠ it ∧ a ≠ e) := by
  refine ⟨by simp, ?_, ?_, ?_, ?_, ?_⟩
  · intro i h st b hb
    obtain ⟨⟨old, he⟩, ⟨o,
          ho, hc, hd⟩, _⟩ := st
    have z : b = e ∨ b = it := by simpa using hb
    rcases z with rfl | rfl
    · exact ⟨_, he, fun v q => nomatch q⟩
    · exact ⟨o, ho, fun v q => by rw [hd] at q; cases q⟩
  · intro i h h' st kp
    obtain ⟨⟨old, he⟩, hi, r⟩ := st
    exact ⟨⟨old, kp e (by simp) _ he⟩, hi.at (fun o q => kp it (by simp) o q), r⟩
  · intro X hP hw hK hc i pins s σ H E I hf st hg
    subst hP hw hK
    obtain ⟨⟨old, he⟩, hit, hne, hai, hae⟩ := st
    obtain ⟨ys, y, hq, hy⟩ := hg
    obtain ⟨its, rv, p,
          hz⟩ := I.tuple hq
    obtain ⟨u, hu, ru⟩ := rv.get hy
    have lt1 : e < s.heap.objs.size := Heap.lt_size he
    have lt2 : it < s.heap.objs.size := by obtain ⟨_, q, _⟩ := hit; exact Heap.lt_size q
    have Dr := Draws.tuple (prog := X.prog) (w := X.w) (A := X.A.in1) (I.ok.hd hc) it a hai its.toArray
    have hlt : i < its.toArray.size := by
      have := (List.getElem?_eq_some_iff.mp hu).1
      simpa using this
    refine wpAny_pyNext_enum_itemC Dr he ⟨hit, p⟩ hlt hne (by simp [hne]; exact fun z => hae z.symm) fun x h' tk hx ho hst hT hsz hk => ?_
    have ex : x = u := by
      have : its[i]? = some x := by simpa using hx
      rw [hu] at this; cases this; rfl
    subst ex
    refine ⟨_, rfl, wpAny_letOwnedTupleGo_enum (s := { s with heap := h', toks := tk + 1 }) ho fun h'' he' sb => ?_⟩
    have hT2 := (sb.2 s.heap.objs.size (Nat.ne_of_gt lt1)).trans hT
    have new : ObjOk X.prog X.w (upd H s.heap.objs.size (.tup [.int (k + i), y])) h'' s.heap.objs.size (.tup [.int (k + i), y]) :=
      ⟨by show 2 ≤ sizeLine; decide, [.int (k + i) tk, x], .cons ⟨_, rfl⟩ (.cons ru .nil), ⟨_, hT2, rfl, _, rfl⟩⟩
    have J : Inv X pins σ (upd H s.heap.objs.size (.tup [.int (k + i), y])) { s with heap := h'', toks := tk + 1 } := by
      refine I.turnedNew (ch := [e, it]) (fun b ob hb q => ?_) hf (Nat.le_refl _) new
      have b1 : b ≠ e := fun z => hb (by simp [z])
      have b2 : b ≠ it := fun z => hb (by simp [z])
      exact (sb.2 b b1).trans (hk b ob b1 b2 q)
    refine ⟨.ref s.heap.objs.size, _, J, rfl, ⟨_, y, rfl, I.hok.fresh (Nat.le_refl _), rfl, fun zs hzs => by rw [I.tuple_inj hzs hq]; exact hy⟩, ⟨⟨x, ?_⟩, isTupIter_at hst.1 (fun o q => (sb.2 it (Ne.symm hne)).trans q), hne, hai, hae⟩, fun b hb => ?_⟩
    · have ec : k + ((i + 1 : Nat) : Int) = k + i + 1 := by omega
      rw [ec]; exact he'
    · have z : b = e ∨ b = it := by simpa using hb
      have lt : b < s.heap.objs.size := by
        rcases z with rfl | rfl
        · exact lt1
        · exact lt2
      rw [upd_ne (Nat.ne_of_lt lt)]
      exact (hf b hb).1
  · intro X hP hw hK hc i pins s σ H E I hf st hg
    subst hP hw hK
    obtain ⟨⟨old, he⟩, hit, hne, hai, hae⟩ := st
    obtain ⟨ys, hq, hy⟩ := hg
    obtain ⟨its, rv, p,
          hz⟩ := I.tuple hq
    obtain ⟨f0, f1, f2, f3,
          f4, f5⟩ := hf it (by simp)
    have hl := rv.length
    have Dr := Draws.tuple (prog := X.prog) (w := X.w) (A := X.A.in1) (I.ok.hd hc) it a hai its.toArray
    have hn : its.toArray.size = i := by simp; omega
    exact wpAny_pyNext_enum_endD Dr he (by rw [hn]; exact ⟨hit, p⟩) fun h' eb => ⟨rfl, I.turned (t' := s.toks) (fun b o hb q => eb b o hb q) f0 f1 f3 f4 f5⟩
  · exact fun A i s Q E st h => let ⟨⟨_, he⟩, _⟩ := st; wpAny_pyIter_enum he h
theorem callWith_typeK {M : Model} {A : Around} {E : Value → Shared → Prop} {s : Shared} {env : Env} {pos : Pos} {T : String} {e : Expr} {kws : List Keyword} {Q : Value → Shared → Prop}
    (h : wpAny M A (spliced (backTo pos (starEach [e] env))) (fun vs s₁ => wpAny M A (evalAll ((backToKw pos (keywordEach kws env)).map (·.2)))
      (fun ks s₂ => wpAny M A (call (.type T) vs (((backToKw pos (keywordEach kws env)).filterMap (·.1)).zip ks)) Q E s₂) E s₁) E s)
    (he : backTo pos (starEach [e] env) = (false, eval e env) :: backTo pos (starEach [] env)) (hpl : (backTo pos (starEach [e] env)).any (·.1) = false)
    (hall : (backToKw pos (keywordEach kws env)).all (·.1.isSome) = true) (hkw : (backToKw pos (keywordEach kws env)).any (·.1.isNone) = false) :
    wpAny M A (callWith pos (.type T) [] (backTo pos (starEach [e] env)) (backToKw pos (keywordEach kws env))) Q E s := by
  have z : wpAny M A (evalArgs (.type T) true (backTo pos (starEach [e] env)) (backToKw pos (keywordEach kws env))) (fun a s₁ => wpAny M A (call (.type T) ([] ++ a.pos) a.kw) Q E s₁) E s := by
    rw [he] at h ⊢
    exact evalArgs_kwB hall h
  unfold callWith
  refine wpAny_bind (wpAny_holding (wpAny_mono z (fun a s₁ h₁ => ?_) fun _ _ x => x))
  refine wpAny_bind
        (wpAny_standAt ?_)
  simp only [hpl, hkw, Bool.or_false]
  refine wpAny_bind
        (wpAny_pure ?_)
  refine wpAny_bind (wpAny_mono h₁ (fun r s₂ hr => ?_) fun _ _ x => x)
  exact wpAny_bind (wpAny_holding (wpAny_point (wpAny_pure hr)))
def iEnumK (K : PySem.W.Frag) (k : Int) (ta : TA) : TI := fun σ H R => ta σ H fun vs H1 => ∃ a xs, vs = [.ref a] ∧ SqL K H1 a xs ∧ R (ItK K k a) H1
theorem w_enumK {X : Cx} (K : PySem.W.Frag) {e : Expr} {ta : TA} {p pos tpos kp cp : Pos} {j : Nat} {k : Int} {elts : List Expr} {kk : Nat} (hg : Gl X "enumerate") (hm : X.mg "enumerate" = none) (ha : PA X [e] ta) (hk0 : -(2 ^ 63) ≤ k) (hk1 : k < 2 ^ 63)
    (hs : starEach [e] X.env = [(false, eval e X.env)] := by rfl) (hK : X.K = K := by rfl) :
    PI X (.Tuple elts kk tpos) (.Call (.Name "enumerate" p) [e] [⟨some "start", .Constant (.int k) j cp, kp⟩] pos) (iEnumK K k ta) := by
  subst hK
  refine ⟨fun pins
        s σ H R I h => ?_⟩
  refine wpAny_Call_Name_kw (ld_blt I hg hm boot_enumerate ?_)
  refine callWith_typeK (thn (ha.run pos pins s σ H _ I h) fun us s1 ⟨vs, H1, I1, r1, q1⟩ => ?_) (by rw [hs]; rfl) (by rw [hs]; rfl) rfl rfl
  obtain ⟨a, xs,
        ex, hq, q⟩ := q1
  subst ex
  refine kws_cons (wpAny_Constant_int (kws_nil ?_))
  cases r1 with
  | cons r rr =>
    cases rr
    cases r
    obtain ⟨its, rv, p',
          hz⟩ := I1.list hq
    have hal : a < s1.heap.objs.size := by obtain ⟨o, ho, _⟩ := p'.isList; exact Heap.lt_size ho
    refine enum_begins_start (s := { s1 with toks := s1.toks + 1 }) (begins_list a its.toArray) p'.isList hk0 hk1 fun h' he hit hsz hk => wpAny_pyIter_enum he ?_
    have I2 : Inv X pins σ H1 { s1 with heap := h', toks := s1.toks + 1 } := I1.kept (t' := s1.toks + 1) hk
    refine ⟨s1.heap.objs.size + 1, [s1.heap.objs.size + 1, s1.heap.objs.size], _, _, H1, rfl, I2, turn_enumK k a (s1.heap.objs.size + 1) s1.heap.objs.size, ⟨⟨.none, by simpa using he⟩, ⟨_, hit, rfl, rfl⟩, Nat.succ_ne_self _, Nat.ne_of_lt hal, Nat.ne_of_lt (Nat.lt_succ_of_lt hal)⟩, fun b hb => ?_, q⟩
    have z : b = s1.heap.objs.size + 1 ∨ b = s1.heap.objs.size := by simpa using hb
    have le : s1.heap.objs.size ≤ b := by rcases z with rfl | rfl <;> omega
    exact I1.fpOk le (I1.hok.fresh le)
theorem walk_enumK {K : PySem.W.Frag} {k : Int} {a : Addr} {xs : List V} : Walk (ItK K k a) xs.length (fun H => SqL K H a xs) (YPair (fun i => some (.int (k + (i : Nat)))) (fun i => xs[i]?)) := by
  refine ⟨fun i _ hi q => ⟨xs, xs[i], q, by simp [hi]⟩, fun _ q => ⟨xs, q, rfl⟩, fun i H v H' _ q y => ?_⟩
  obtain ⟨T, x, h1,
        h2, h3, h4⟩ := y
  exact ⟨T, _, x, h1, h2, h3, rfl, h4 xs q⟩
section
variable {K : PySem.W.Frag} {σ : L2.St} {H : Hp} {tl : TA} {R : It → Hp → Prop}
theorem i_iEK {k : Int} (h : tl σ H fun vs H1 => ∃ a xs, vs = [.ref a] ∧ SqL K H1 a xs ∧ R (ItK K k a) H1) : iEnumK K k tl σ H R := h
end
theorem walk_enumT {K : PySem.W.Frag} {k : Int} {a : Addr} {xs : List V} : Walk (ItKT K k a) xs.length (fun H => SqT K H a xs) (YPair (fun i => some (.int (k + (i : Nat)))) (fun i => xs[i]?)) := by
  refine ⟨fun i _ hi q => ⟨xs, xs[i], q, by simp [hi]⟩, fun _ q => ⟨xs, q, rfl⟩, fun i H v H' _ q y => ?_⟩
  obtain ⟨T, x, h1,
        h2, h3, h4⟩ := y
  exact ⟨T, _, x, h1, h2, h3, rfl, h4 xs q⟩
/-- enumerate(v) begins: its two new cells -/
theorem meets_enum1 {v : Value} {o : Obj} {H : Heap → Prop} (B : Begins v o H) :
    Meets (Builtin.«enumerate.__new__» ⟨[.type "enumerate", v], []⟩) (fun _ R s => H s.heap ∧
      R (.ok (.ret (.ref (s.heap.push o).objs.size))) { s with heap := (s.heap.push o).push { cls := .type "enumerate", data := .fields #[.none, .bool false, .ref s.heap.objs.size, rawInt 0, .none, .none] } }) :=
  .of_wp fun prog
        w A R s h => by
    obtain ⟨hp, g,
          d, tk, os⟩ := s
    obtain ⟨h1, h⟩ := h
    have sub := sub_enumerate
    have step : ∀ {A' : Around} {E : Value → Shared → Prop} {Q : Value → Shared → Prop}, Q (.ref hp.objs.size) ⟨hp.push o, g, d, tk, os⟩ → wpAny (model prog w) A' (pyIter v) Q E ⟨hp, g, d, tk, os⟩ :=
      fun q => B.iter prog w _ _
            ⟨hp, g, d, tk, os⟩ _ h1 q
    wp_walk using step
    refine wpAny_stack_any
          fun st => wpAny_pure ?_
    split
    · rename_i c _ _ _ _ _
      cases (c == Value.type "enumerate") <;> (wp_walk using step; exact ⟨_, rfl, h⟩)
    · wp_walk using step
      exact ⟨_, rfl, h⟩
section
variable {prog : Program} {w : World} {A :
      Around} {E : Value → Shared → Prop} {s : Shared}
theorem enum_begin1 {v : Value} {o : Obj} {H : Heap → Prop} {Q : Value → Shared → Prop} (B : Begins v o H) (h1 : H s.heap)
    (h : ∀ h', IsEnum h' (s.heap.objs.size + 1) s.heap.objs.size 0 .none → h'.get? s.heap.objs.size = some o → (∀ b o, s.heap.get? b = some o → h'.get? b = some o) → Q (.ref (s.heap.objs.size + 1)) { s with heap := h' }) :
    wpAny (model prog w) A (call (.type "enumerate") [v]) Q E s := by
  refine callType_new F.called_enumerate (by decide) (F.typeCall_enumerate_1 _) (F.newCall_enumerate_1 _) (fun obj => F.args_object_init_2 obj _) F.entry_enumerate_new (meets_enum1 B) ⟨h1, ?_⟩
  have sz : (s.heap.push o).objs.size = s.heap.objs.size + 1 := Heap.size_push ..
  show _ ∧ _
  rw [sz]
  have he : IsEnum ((s.heap.push o).push { cls := .type "enumerate", data := .fields #[.none, .bool false, .ref s.heap.objs.size, rawInt 0, .none, .none] }) (s.heap.objs.size + 1) s.heap.objs.size 0 .none := by
    have q := Heap.get?_push_size (s.heap.push o) (o := { cls := .type "enumerate", data := .fields #[.none, .bool false, .ref s.heap.objs.size, rawInt 0, .none, .none] }) rfl
    rw [sz] at q
    exact q
  exact ⟨⟨_, he, rfl⟩, h _ he (Heap.get?_push_of_some _ (Heap.get?_push_size _ B.free)) fun b o x => Heap.get?_push_of_some _ (Heap.get?_push_of_some _ x)⟩
end
def iEnumQ (K : PySem.W.Frag) (ta : TA) : TI := fun σ H R => ta σ H fun vs H1 => ∃ (a : Addr) (xs : List V) (o : HO), vs = [.ref a] ∧ (o = .lst xs ∨ o = .tup xs) ∧ H1 a = some o ∧
  ∀ J, Walk J xs.length (fun H => H a = some o) (YPair (fun i => some (.int ((0 : Int) + (i : Nat)))) (fun i => xs[i]?)) → R J H1
theorem w_enumQ {X : Cx} (K : PySem.W.Frag) {e : Expr} {ta : TA} {p pos tpos : Pos} {elts : List Expr} {kk : Nat} (hg : Gl X "enumerate") (hm : X.mg "enumerate" = none) (ha : PA X [e] ta)
    (hs : starEach [e] X.env = [(false, eval e X.env)] := by rfl) (hK : X.K = K := by rfl) :
    PI X (.Tuple elts kk tpos) (.Call (.Name "enumerate" p) [e] [] pos) (iEnumQ K ta) := by
  subst hK
  refine ⟨fun pins
        s σ H R I h => ?_⟩
  refine Call_ (ld_blt I hg hm boot_enumerate (PyProof.Rows.callWith_type1 (thn
        (ha.run pos pins s σ H _ I h) fun us s1 ⟨vs, H1, I1, r1, q1⟩ => ?_) hs rfl))
  obtain ⟨a, xs, ob, ex, hob, hat, qf⟩ := q1
  subst ex
  have q1 : (SqL X.K H1 a xs ∧ R (ItK X.K 0 a) H1) ∨ (SqT X.K H1 a xs ∧ R (ItKT X.K 0 a) H1) := by
    rcases hob with rfl | rfl
    · exact .inl ⟨SqL.of hat, qf _ (walk_enumK.mono (fun _ z => SqL.of z) fun _ _ _ _ _ _ y => y)⟩
    · exact .inr ⟨SqT.of hat, qf _ (walk_enumT.mono (fun _ z => SqT.of z) fun _ _ _ _ _ _ y => y)⟩
  cases r1 with
  | cons r rr =>
    cases rr
    cases r
    have new : ∀ b ∈ [s1.heap.objs.size + 1, s1.heap.objs.size], s1.heap.objs.size ≤ b := fun b hb => by
      have z : b = s1.heap.objs.size + 1 ∨ b = s1.heap.objs.size := by simpa using hb
      rcases z with rfl | rfl <;> omega
    rcases q1 with ⟨hq, q⟩ | ⟨hq, q⟩
    · obtain ⟨its, rv, pl, hz⟩ := I1.list hq
      have lt : a < s1.heap.objs.size := by obtain ⟨o, ho, _⟩ := pl.isList; exact Heap.lt_size ho
      refine enum_begin1 (begins_list a its.toArray) pl.isList fun h' he hit hk => wpAny_pyIter_enum he ?_
      have J : Inv X pins σ H1 { s1 with heap := h' } := I1.kept (t' := s1.toks) hk
      exact ⟨s1.heap.objs.size + 1, [s1.heap.objs.size + 1, s1.heap.objs.size], _, _, H1, rfl, J, turn_enumK 0 a (s1.heap.objs.size + 1) s1.heap.objs.size,
        ⟨⟨.none, by simpa using he⟩, ⟨_, hit, rfl, rfl⟩, Nat.succ_ne_self _, Nat.ne_of_lt lt, Nat.ne_of_lt (Nat.lt_succ_of_lt lt)⟩, fun b hb => I1.fpOk (new b hb) (I1.hok.fresh (new b hb)), q⟩
    · obtain ⟨its, rv, pl, hz⟩ := I1.tuple hq
      have lt : a < s1.heap.objs.size := by obtain ⟨o, ho, _⟩ := pl; exact Heap.lt_size ho
      refine enum_begin1 (begins_tuple a its.toArray) pl fun h' he hit hk => wpAny_pyIter_enum he ?_
      have J : Inv X pins σ H1 { s1 with heap := h' } := I1.kept (t' := s1.toks) hk
      exact ⟨s1.heap.objs.size + 1, [s1.heap.objs.size + 1, s1.heap.objs.size], _, _, H1, rfl, J, turn_enumT 0 a (s1.heap.objs.size + 1) s1.heap.objs.size,
        ⟨⟨.none, by simpa using he⟩, ⟨_, hit, rfl, rfl⟩, Nat.succ_ne_self _, Nat.ne_of_lt lt, Nat.ne_of_lt (Nat.lt_succ_of_lt lt)⟩, fun b hb => I1.fpOk (new b hb) (I1.hok.fresh (new b hb)), q⟩
section
variable {K : PySem.W.Frag} {σ : L2.St} {H : Hp} {tl : TA} {R : It → Hp → Prop}
theorem i_iEQ (h : tl σ H fun vs H1 => ∃ (a : Addr) (xs : List V) (o : HO), vs = [.ref a] ∧ (o = .lst xs ∨ o = .tup xs) ∧ H1 a = some o ∧ ∀ J, Walk J xs.length (fun H => H a = some o) (YPair (fun i => some (.int ((0 : Int) + (i : Nat)))) (fun i => xs[i]?)) → R J H1) : iEnumQ K tl σ H R := h
end
end Lr
set_option Elab.async false
set_option linter.all false
set_option maxRecDepth 100000
set_option maxHeartbeats 4000000
/-! Vk: what kind a datum is; names. -/
namespace Lr
open PySem PySem.Spec
      PyProof.Rows L2
def ptype : PyData → String
  | .none => "NoneType" | .bool _ => "bool" | .int _ => "int" | .str _
        => "str" | .list _ => "list" | .tuple _ => "tuple" | .dict _ => "dict"
def isK (c : String) (d : PyData) : Bool := ptype d == c || (c == "int" && ptype d == "bool")
section
variable {K : PySem.W.Frag} {S : List Addr} {H : Hp} {Q : VK}
theorem Dt.tyx : ∀ {d : PyData} {v : V}, Dt S H d v → TyX K H v (.type (ptype d))
  | .none, _, h => by unfold Dt at h; subst h; exact .base .non
  | .bool b, _, h => by unfold Dt at h; subst h; exact .base (.bl b)
  | .int i, _, h => by unfold Dt at h; subst h; exact .base (.int i)
  | .str x, _, h => by unfold Dt at h; subst h; exact .base (.str x)
  | .list ds, _, h => by
    unfold Dt at h
    obtain ⟨a, xs, rfl, n, q, z⟩ := h
    exact .base (.lst q)
  | .tuple ds, _, h => by
    unfold Dt at h
    obtain ⟨a, xs, rfl, n, q, z⟩ := h
    exact .base (.tup q)
  | .dict _, _, h => by unfold Dt at h; exact h.elim
theorem kit_all : ∀ t ∈ ["NoneType", "bool", "int", "str", "list", "tuple", "dict"], ∀ c ∈ ["int", "bool", "str", "list", "tuple", "dict"], kitB t c = some (t == c || (c == "int" && t == "bool")) := by decide +kernel
theorem ptype_mem (d : PyData) : ptype d ∈ ["NoneType", "bool", "int", "str", "list", "tuple", "dict"] := by cases d <;> simp [ptype]
theorem kit_isK (c : String) (hc : c ∈ ["int", "bool", "str", "list", "tuple", "dict"]) (d : PyData) : kitB (ptype d) c = some (isK c d) := kit_all _ (ptype_mem d) c hc
theorem i_isi {d : PyData} {v : V} {c : String} (h : Dt S H d v) (hc : c ∈ ["int", "bool", "str", "list", "tuple", "dict"]) (q : Q (.bl (isK c d)) H) : rIsi K [v, .ty c] H Q :=
  ⟨v, .ty c, .type (ptype d), .type c, isK c d, rfl, .ty c, h.tyx, kit_ty (kit_isK c hc d), q⟩
theorem i_isLT {d : PyData} {v : V} {tp : Addr} (h : Dt S H d v) (ht : H tp = some (.tup [.ty "list", .ty "tuple"])) (q : Q (.bl (isK "list" d || isK "tuple" d)) H) : rIsiT K [v, .ref tp] H Q := by
  refine ⟨v, tp, [.ty "list", .ty "tuple"], .type (ptype d), [.type "list", .type "tuple"], isK "list" d || isK "tuple" d, rfl, ht, .cons (.ty _) (.cons (.ty _) .nil), h.tyx, ?_, q⟩
  have e1 : PySem.W.kitOne K (.type (ptype d)) (.type "list") = some (isK "list" d) := kit_ty (kit_isK "list" (by simp) d)
  have e2 : PySem.W.kitOne K (.type (ptype d)) (.type "tuple") = some (isK "tuple" d) := kit_ty (kit_isK "tuple" (by simp) d)
  cases a1 : isK "list" d <;> cases a2 : isK "tuple" d <;> simp [PySem.W.kitAny, e1, e2, a1, a2]
end
/-! ### names -/
abbrev LET : Str := "abcdefghijklmnopqrstuvwxyz"
abbrev FIG : Str := "0123456789"
def letB (c : Nat) : Bool := decide (c ∈ LET.cps.toList)
def figB (c : Nat) : Bool := decide (c ∈ FIG.cps.toList)
def nameB (z : Str) : Bool := decide (1 ≤ z.length) && decide (z.length ≤ 8) && z.cps.toList.all (fun c => letB c || figB c) && (match z.cps.toList with | [] => false | c :: _ => letB c)
def nameD : PyData → Bool
  | .str z => nameB z
  | _ => false
def strD : PyData → Str
  | .str z => z
  | _ => Str.empty
theorem nameD_str {d : PyData} (h : nameD d = true) : d = .str (strD d) := by
  cases d <;> simp [nameD, strD] at h ⊢
/-- the texts of a row of names, if it is one -/
def namesD : PyData → Option (List Str)
  | .list ds => if ds.all nameD = true ∧ (ds.map strD).Nodup then some (ds.map strD) else none
  | .tuple ds => if ds.all nameD = true ∧ (ds.map strD).Nodup then some (ds.map strD) else none
  | _ => none
theorem nameB_len {z : Str} (h : nameB z = true) : 1 ≤ z.length ∧ z.length ≤ 8 := by
  simp only [nameB, Bool.and_eq_true, decide_eq_true_eq] at h
  exact ⟨h.1.1.1, h.1.1.2⟩
end Lr
set_option Elab.async false
set_option linter.all false
set_option maxRecDepth 100000
set_option maxHeartbeats 4000000
namespace Lr
open PySem PySem.Spec
      PyProof.Rows L2
local macro_rules | `(tactic| walk_at "ne") => `(tactic| (first | assumption | (refine ne_sym ?_; assumption) | (exact ne_of_none (by assumption) (by assumption)) | (exact ne_sym (ne_of_none (by assumption) (by assumption)))))
local macro_rules | `(tactic| walk_at "h") => `(tactic| (first | assumption | exact upd_same | (refine h_new ?_ (by assumption); walk_at "h") | (refine h_ne (by walk_at "ne") ?_; walk_at "h")))
local macro_rules | `(tactic| walk_at "v1") => `(tactic| (with_reducible first
  | refine i_seq ?_ | refine i_asg ?_ | refine i_ret ?_ | refine i_next ?_ | refine i_drop ?_ | refine i_ifS ?_ | refine i_if ?_ | refine i_and ?_ | refine i_or ?_ | refine i_not ?_ | refine i_test ?_ | refine i_tB ?_ | refine i_bl ?_ | refine i_yes ?_
  | refine i_op ?_ | refine i_un ?_ | refine i_chain ?_ | refine i_andV ?_ | refine i_orV ?_ | refine i_notV ?_ | refine i_cb ?_ | refine i_cons ?_ | refine i_nil ?_ | refine i_bm ?_ | refine i_bm0 ?_ | refine i_c ?_ | refine i_name ?_ | refine i_sub ?_
  | refine i_call ?_ | refine i_lst ?_ | refine i_tup ?_ | refine i_par ?_ | refine i_par2 ?_ | refine i_sl ?_ | refine i_np ?_ | refine i_pt ?_ | refine i_int ?_ | refine i_m0 ?_ | refine i_m1 ?_ | refine i_isS ?_
  | refine i_rI0 ?_ | refine i_inSign ?_ | refine i_notInSign ?_ | refine i_int1 ?_ | refine i_tru ?_ | refine i_isN ?_ | refine i_notN ?_ | refine iteT ?_ | refine iteF ?_ | refine i_brk ?_ | refine i_rt ?_ | refine i_nx ?_ | refine i_bk ?_ | refine i_ct ?_ | refine i_for ?_ | refine i_lc ?_ | refine i_dc ?_ | refine i_iL ?_ | refine i_iT ?_ | refine i_iR1 ?_ | refine i_iR2 ?_ | refine i_iS ?_ | refine i_iE ?_ | refine i_iEK ?_ | refine i_iEQ ?_ | refine i_iZS ?_ | refine i_dget ?_ | refine i_fld ?_ | refine i_sfld ?_ | refine i_dput ?_ | refine i_meth ?_ | refine i_rU ?_ | refine i_cont ?_ | refine i_make ?_))
local macro_rules | `(tactic| walk_at "v2") => `(tactic| (first
  | ((with_reducible refine' i_var ?k1 ?_); (case k1 => exact rfl))
  | ((with_reducible refine' i_eq ?k1 ?_); (case k1 => exact rfl))
  | ((with_reducible refine' i_ne ?k1 ?_); (case k1 => exact rfl))
  | ((with_reducible refine' i_ixL ?k1 ?k2 ?_); (case k1 => walk_at "h"); (case k2 => exact rfl))
  | ((with_reducible refine' i_ixT ?k1 ?k2 ?_); (case k1 => walk_at "h"); (case k2 => exact rfl))
  | ((with_reducible refine' i_lenL ?k1 ?_); (case k1 => walk_at "h"))
  | ((with_reducible refine' i_lenT ?k1 ?_); (case k1 => walk_at "h"))
  | (refine i_wipe (show wipe _ _ = wipe _ _ from rfl) ?_)
  | ((with_reducible refine' i_setL ?k1 ?k2 ?_); (case k1 => walk_at "h"); (case k2 => exact rfl))
  | ((with_reducible refine' i_tyl ?k1 ?_); (case k1 => walk_at "h"))))
local macro_rules | `(tactic| walk_at "v") => `(tactic| repeat (first | walk_at "v1" | walk_at "v2"))

variable {P : Program} {w : World} {K :
      PySem.W.Frag} {mg : Str → Option Value} {base : Heap}
abbrev sis_name : Stmt := top 9
abbrev Nis_name : List Str := ["thing", "sign"]
abbrev Pis_name : List Str := ["thing"]
theorem scis_name : FnScope Nis_name Pis_name (defScope sis_name) := ⟨rfl, rfl, rfl, by decide +kernel, rfl, by decide +kernel, by decide +kernel⟩
abbrev snames_of : Stmt := top 10
abbrev Nnames_of : List Str := ["thing", "found", "one"]
abbrev Pnames_of : List Str := ["thing"]
theorem scnames_of : FnScope Nnames_of Pnames_of (defScope snames_of) := ⟨rfl, rfl, rfl, by decide +kernel, rfl, by decide +kernel, by decide +kernel⟩
def betweenD (d : PyData) (lo hi : Int) : Bool := match d with | .int i => decide (lo ≤ i) && decide (i ≤ hi) | _ => false
def spBetween : Sp := fun vs H Q _ => ∃ (S : List Addr) (d : PyData) (v : V) (lo hi : Int), vs = [v, .int lo, .int hi] ∧ Dt S H d v ∧ Q (.bl (betweenD d lo hi)) H
def spIsName : Sp := fun vs H Q _ => ∃ (S : List Addr) (d : PyData) (v : V), vs = [v] ∧ Dt S H d v ∧ (strD d).length ≤ 1000000 ∧ Q (.bl (nameD d)) H
theorem size_le {z : Str} (h : z.length ≤ 1000000) : z.length ≤ sizeLine := Nat.le_trans h (by decide)
theorem ok_isname (d : Fd K mg "is_name" sis_name Pis_name) (B : Blt mg) : FnOk P w K mg base CX0 1 d.f d.fd Pis_name spIsName := by
  refine d.F.ok scis_name (fun vs H Q E h => ?_) (fun cdv A outer s H vs Q E hr h => ?_)
  · obtain ⟨S, d, v, rfl, _⟩ := h
    rfl
  · obtain ⟨S, d, v, rfl, hd, hz, k⟩ := h
    refine ⟨_, (pss_cons (ps_if (PW.pt (pw_or (pt_not (pt_val (pe_callB (c_isi K) (by rfl) B.isinstance (by decide +kernel) (pa_cons (pv 0) (pa_cons (e_ty "str" B.str (by decide +kernel)) pa_nil))))) (pw_or1 (pt_not (pt_chain op_le op_le pe_int (pe_callB c_lenS (by rfl) B.len (by decide +kernel) (pa_cons (pv 0) pa_nil)) pe_int))))) (pss_one (ps_ret pe_bl)) pss_nil)
      (pss_cons (ps_for PassesOwn.never rfl (pi_str (pv 0)) (pg_name (i := 1) scis_name.nd rfl (by first | exact Or.inl rfl | exact Or.inr rfl))
      (pss_one (ps_if (PW.pt (pw_and (pt_cmpR o_notInSign (pv 1) (e_glob B.gLETTERS) (by rfl)) (pw_and1 (pt_cmpR o_notInSign (pv 1) (e_glob B.gFIGURES) (by rfl))))) (pss_one (ps_ret pe_bl)) pss_nil)))
      (pss_one (ps_ret (pe_cmpR o_inSign (pe_ix ix_str (pv 0) pe_int (fun _ _ => rfl)) (e_glob B.gLETTERS) (by rfl)))))), ?_⟩
    walk_at "v"
    refine i_isi hd (by simp) ?_
    walk_at "v"
    by_cases hs : isK "str" d = true
    · obtain ⟨z, rfl⟩ : ∃ z, d = .str z := by cases d <;> simp [isK, ptype] at hs ⊢
      unfold Dt at hd; subst hd
      have hz' : z.length ≤ 1000000 := hz
      rw [hs]
      refine iteF ?_
      walk_at "v"
      refine i_lenS (size_le hz') ?_
      walk_at "v"
      have nn : nameD (.str z) = nameB z := rfl
      refine ifd (fun h1 => ?_) (fun h1 => ?_)
      · walk_at "v"
        refine ifn (fun h2 => ?_) (fun h2 => ?_)
        · walk_at "v"
          rw [nn] at k
          have e : nameB z = false := by simp [nameB]; intro _ h; omega
          rw [e] at k; exact k
        · walk_at "v"
          refine w_str ?_
          refine for_by walk_str ⟨fun i σ H' => (∃ v, σ = [some (.str z), v]) ∧ H' = H ∧ ∀ j c, j < i → z.cps[j]? = some c → (letB c || figB c) = true, ?_, fun _ _ _ _ _ => trivial, ?_, ?_⟩
          · exact ⟨⟨none, rfl⟩, rfl, fun j c h => absurd h (Nat.not_lt_zero _)⟩
          · rintro i x σ H1 H2 hi ⟨⟨v, rfl⟩, rfl, ok⟩ ⟨rfl, c, hc, rfl⟩
            walk_at "v"
            refine ifn (fun h3 => ?_) (fun h3 => ?_)
            · walk_at "v"
              refine ifn (fun h4 => ?_) (fun h4 => ?_)
              · walk_at "v"
                rw [nn] at k
                have e : nameB z = false := by
                  have hm : c ∈ z.cps.toList := List.mem_of_getElem? (by simpa using hc)
                  have hb : (letB c || figB c) = false := by simp [letB, figB, h3, h4]
                  have ha : z.cps.toList.all (fun c => letB c || figB c) = false := by
                    rw [List.all_eq_false]; exact ⟨c, hm, by simp [hb]⟩
                  simp [nameB, ha]
                rw [e] at k; exact k
              · walk_at "v"
                refine ⟨⟨_, rfl⟩, rfl, fun j d hj hd => ?_⟩
                rcases Nat.lt_or_ge
                      j i with h | h
                · exact ok j d h hd
                · have ej : j = i := by omega
                  subst ej; rw [hc] at hd; cases hd
                  simp [figB, h4]
            · walk_at "v"
              refine ⟨⟨_, rfl⟩, rfl, fun j d hj hd => ?_⟩
              rcases Nat.lt_or_ge
                    j i with h | h
              · exact ok j d h hd
              · have ej : j = i := by omega
                subst ej; rw [hc] at hd; cases hd
                simp [letB, h3]
          · rintro σ H1 ⟨⟨v, rfl⟩, rfl, ok⟩
            have ha : z.cps.toList.all (fun c => letB c || figB c) = true := by
              rw [List.all_eq_true]
              intro c hc
              obtain ⟨j, hj, e⟩ := List.getElem_of_mem hc
              exact ok j c (by simpa using hj) (by rw [← e]; simp)
            obtain ⟨c, r, ec⟩ : ∃ c r, z.cps.toList = c :: r := by
              cases e : z.cps.toList with
              | nil => have : z.length = 0 := by show z.cps.size = 0; rw [← Array.length_toList, e]; rfl
                       omega
              | cons c r => exact ⟨c, r, rfl⟩
            walk_at "v"
            refine i_ixS (c := c) (size_le hz') (by rw [ec]; exact atI_nat (j := 0) rfl) ?_
            walk_at "v"
            rw [nn] at k
            have e : nameB z = decide (c ∈ LET.cps.toList) := by
              unfold nameB; rw [ha, ec]; simp [letB]; omega
            rw [e] at k; exact k
      · walk_at "v"
        rw [nn] at k
        have e : nameB z = false := by simp [nameB]; omega
        rw [e] at k; exact k
    · have e : nameD d = false := by cases d <;> simp [isK, ptype, nameD] at hs ⊢
      simp only [Bool.not_eq_true] at hs
      rw [hs]
      refine iteT ?_
      walk_at "v"
      rw [e] at k; exact k
abbrev FdIsName (K : PySem.W.Frag) (mg : Str → Option Value) := Fd K mg "is_name" sis_name Pis_name
def kids : PyData → List PyData
  | .list ds => ds
  | .tuple ds => ds
  | _ => []
def spNamesOf : Sp := fun vs H Q _ => ∃ (S : List Addr) (d : PyData) (v : V), vs = [v] ∧ Dt S H d v ∧ (∀ z ∈ kids d, (strD z).length ≤ 1000000) ∧ (kids d).length < 64 ∧
  (namesD d = none → ∀ H', Same H H' → Q .non H') ∧ (∀ xs, namesD d = some xs → ∀ (ys : List Str) p H', ys.Perm xs → sortedS ys = true → H p = none → H' p = some (.lst (ys.map V.str)) → Same H H' → Q (.ref p) H')
theorem inV_strs {x : Str} : ∀ {l : List Str}, inV (.str x) (l.map V.str) = decide (x ∈ l)
  | [] => rfl
  | y :: r => by
    have ih := inV_strs (x := x) (l := r)
    simp only [inV, List.map_cons, List.any_cons] at ih ⊢
    rw [ih]
    by_cases h : y = x
    · subst h; simp [eqV]
    · have : ¬ x = y := fun z => h z.symm
      simp [eqV, h, this]
theorem flat_strs : ∀ (l : List Str), (l.map V.str).all flatV = true
  | [] => rfl
  | _ :: r => by simpa [flatV] using flat_strs r
theorem ok_namesof (d : Fd K mg "names_of" snames_of Pnames_of) (dis_name : FdIsName K mg) (B : Blt mg) : FnOk P w K mg base CX0 2 d.f d.fd Pnames_of spNamesOf := by
  have Gis_name : FnOk P w K mg base CX0 1 dis_name.f dis_name.fd Pis_name spIsName := ok_isname dis_name B
  refine d.F.ok scnames_of (fun vs H Q E h => ?_) (fun cdv A outer s H vs Q E hr h => ?_)
  · obtain ⟨S, d, v, rfl, _⟩ := h
    rfl
  · obtain ⟨S, d, v, rfl, hd, hz, hl, k0, k1⟩ := h
    refine ⟨_, (pss_cons (ps_if (pt_not (pt_val (pe_callB (c_isiT K) (by rfl) B.isinstance (by decide +kernel) (pa_cons (pv 0) (pa_cons (pe_tup (pa_cons (e_ty "list" B.list (by decide +kernel)) (pa_cons (e_ty "tuple" B.tuple (by decide +kernel)) pa_nil))) pa_nil))))) (pss_one (ps_ret pe_non)) pss_nil)
      (pss_cons (ps_set (i := 1) scnames_of.nd rfl (by first | exact Or.inl rfl | exact Or.inr rfl) (pe_lst pa_nil))
      (pss_cons (ps_for PassesOwn.never rfl (w_seq K (pv 0)) (pg_name (i := 2) scnames_of.nd rfl (by first | exact Or.inl rfl | exact Or.inr rfl))
      (pss_cons (ps_if (PW.pt (pw_or (pt_not (pt_val (pe_call Gis_name (hr.mono (by decide)) (by rfl) dis_name.g dis_name.F.kp dis_name.b .nil pass0 (pa_cons (pv 2) pa_nil)))) (pw_or1 (pt_cmpR (o_in K) (pv 2) (pv 1) (by rfl))))) (pss_one (ps_ret pe_non)) pss_nil)
      (pss_one (ps_expr (e_bm K PySem.F.plainAttrs_list PySem.F.slot_list_append PySem.F.type_list_append mt_append (pv 1) (pa_cons (pv 2) pa_nil))))))
      (pss_one (ps_ret (pe_callB (c_sortS K) (by rfl) B.sorted (by decide +kernel) (pa_cons (pv 1) pa_nil))))))), ?_⟩
    walk_at "v"
    refine ⟨by decide, fun tp htp => ?_⟩
    have s1 : Same H (upd H tp (.tup [.ty "list", .ty "tuple"])) := fun q o e => by rw [upd_ne (ne_of_none e htp)]; exact e
    walk_at "v"
    refine i_isLT (Dt.keep (Keep.of_same s1) _ _ hd) upd_same ?_
    walk_at "v"
    by_cases hs : (isK "list" d || isK "tuple" d) = true
    · rw [hs]
      refine iteF ?_
      walk_at "v"
      refine ⟨by decide, fun l hl0 => ?_⟩
      walk_at "v"
      obtain ⟨p, o, xs, ho, rfl, hp, np, hx, hk⟩ : ∃ (p : Addr) (o : HO) (xs : List V), (o = .lst xs ∨ o = .tup xs) ∧ v = .ref p ∧ H p = some o ∧ p ∉ S ∧ DtAll S H (kids d) xs ∧ namesD d = if (kids d).all nameD = true ∧ ((kids d).map strD).Nodup then some ((kids d).map strD) else none := by
        cases d with
        | list ds => unfold Dt at hd; obtain ⟨a, xs, rfl, n, q, z⟩ := hd; exact ⟨a, _, xs, .inl rfl, rfl, q, n, z, rfl⟩
        | tuple ds => unfold Dt at hd; obtain ⟨a, xs, rfl, n, q, z⟩ := hd; exact ⟨a, _, xs, .inr rfl, rfl, q, n, z, rfl⟩
        | _ => simp [isK, ptype] at hs
      have hlx := hx.length
      have s2 : Same H (upd (upd H tp (.tup [.ty "list", .ty "tuple"])) l (.lst [])) := fun q o e => by rw [upd_ne (ne_of_none (s1 _ _ e) hl0)]; exact s1 _ _ e
      have hlH : H l = none := s1.free hl0
      refine w_sqv rfl ho (by walk_at "h") (fun J wk => ?_)
      refine for_by wk ⟨fun i σ H' => (∃ v2, σ = [some (.ref p), some (.ref l), v2]) ∧ ((kids d).take i).all nameD = true ∧ (((kids d).take i).map strD).Nodup ∧ H' l = some (.lst ((((kids d).take i).map strD).map V.str)) ∧ Same H H', ?_, fun i σ H' _ ⟨_, _, _, _, z⟩ => z _ _ hp, ?_, ?_⟩
      · exact ⟨⟨none, rfl⟩, by simp, by simp, by simpa using upd_same, s2⟩
      · rintro i x σ H1 H2 hi ⟨⟨v2, rfl⟩, h1, h2, h3, h4⟩ ⟨rfl, hxi⟩
        obtain ⟨di, hdi, hdx⟩ := hx.get' hxi
        have et : (kids d).take (i + 1) = (kids d).take i ++ [di] := by rw [List.take_succ, hdi]; rfl
        have hmem : di ∈ kids d := List.mem_of_getElem? hdi
        walk_at "v"
        refine ⟨S, di, x, rfl, Dt.keep (Keep.of_same h4) _ _ hdx, hz _ hmem, ?_⟩
        walk_at "v"
        cases hn : nameD di with
        | false =>
          refine iteT ?_
          walk_at "v"
          refine k0 ?_ _ h4
          rw [hk, if_neg]
          rintro ⟨a, _⟩
          rw [List.all_eq_true] at a
          rw [a di hmem] at hn; cases hn
        | true =>
          refine iteF ?_
          obtain ⟨z, rfl⟩ : ∃ z, di = .str z := ⟨_, nameD_str hn⟩
          have hx' := hdx
          unfold Dt at hx'; subst hx'
          walk_at "v"
          refine ⟨l, _, rfl, .inl (SqL.of h3), rfl, flat_strs _, ?_⟩
          walk_at "v"
          rw [if_neg Bool.false_ne_true, inV_strs]
          refine ifd (fun hin => ?_) (fun hin => ?_)
          · walk_at "v"
            refine k0 ?_ _ h4
            rw [hk, if_neg]
            rintro ⟨_, b⟩
            have b' : (((kids d).take (i + 1)).map strD).Nodup := b.sublist ((List.take_sublist _ _).map _)
            rw [et, List.map_append, List.nodup_append] at b'
            exact b'.2.2 z hin z (by simp [strD]) rfl
          · walk_at "v"
            refine i_app h3 ?_ ?_
            · rw [List.length_map, List.length_map, List.length_take]; exact small1000 (by omega)
            refine ⟨⟨_, rfl⟩, ?_, ?_, ?_, ?_⟩
            · rw [et, List.all_append, h1]; simp [nameD] at hn ⊢; exact hn
            · rw [et, List.map_append, List.nodup_append]
              refine ⟨h2, by simp, fun a ha b hb e => ?_⟩
              simp [strD] at hb; subst hb; subst e; exact hin ha
            · rw [et, List.map_append, List.map_append]; exact upd_same
            · intro q o e
              rw [upd_ne (ne_of_none e hlH)]; exact h4 _ _ e
      · rintro σ H1 ⟨⟨v2, rfl⟩, h1, h2, h3, h4⟩
        rw [hlx, List.take_length] at h1 h2 h3
        walk_at "v"
        refine ⟨l, _, rfl, SqL.of h3, by rw [List.length_map]; exact hl, fun ys q pm so hq => ?_⟩
        walk_at "v"
        refine k1 _ (by rw [hk, if_pos ⟨h1, h2⟩]) ys q _ pm so (h4.free hq) upd_same (fun a o e => ?_)
        rw [upd_ne (ne_of_none (h4 _ _ e) hq)]; exact h4 _ _ e
    · have e : namesD d = none := by cases d <;> simp [isK, ptype, namesD] at hs ⊢
      simp only [Bool.not_eq_true] at hs
      rw [hs]
      refine iteT ?_
      walk_at "v"
      exact k0 e _ s1
end Lr
set_option Elab.async false
set_option linter.all false
set_option maxRecDepth 100000
set_option maxHeartbeats 4000000
namespace Lr
open PySem PySem.Spec
      PyProof.Rows L2
local macro_rules | `(tactic| walk_at "ne") => `(tactic| (first | assumption | (refine ne_sym ?_; assumption) | (exact ne_of_none (by assumption) (by assumption)) | (exact ne_sym (ne_of_none (by assumption) (by assumption)))))
local macro_rules | `(tactic| walk_at "h") => `(tactic| (first | assumption | exact upd_same | (refine h_new ?_ (by assumption); walk_at "h") | (refine h_ne (by walk_at "ne") ?_; walk_at "h")))
local macro_rules | `(tactic| walk_at "v1") => `(tactic| (with_reducible first
  | refine i_seq ?_ | refine i_asg ?_ | refine i_ret ?_ | refine i_next ?_ | refine i_drop ?_ | refine i_ifS ?_ | refine i_if ?_ | refine i_and ?_ | refine i_or ?_ | refine i_not ?_ | refine i_test ?_ | refine i_tB ?_ | refine i_bl ?_ | refine i_yes ?_
  | refine i_op ?_ | refine i_un ?_ | refine i_chain ?_ | refine i_andV ?_ | refine i_orV ?_ | refine i_notV ?_ | refine i_cb ?_ | refine i_cons ?_ | refine i_nil ?_ | refine i_bm ?_ | refine i_bm0 ?_ | refine i_c ?_ | refine i_name ?_ | refine i_sub ?_
  | refine i_call ?_ | refine i_lst ?_ | refine i_tup ?_ | refine i_par ?_ | refine i_par2 ?_ | refine i_sl ?_ | refine i_np ?_ | refine i_pt ?_ | refine i_int ?_ | refine i_m0 ?_ | refine i_m1 ?_ | refine i_isS ?_
  | refine i_rI0 ?_ | refine i_inSign ?_ | refine i_notInSign ?_ | refine i_int1 ?_ | refine i_tru ?_ | refine i_isN ?_ | refine i_notN ?_ | refine iteT ?_ | refine iteF ?_ | refine i_brk ?_ | refine i_rt ?_ | refine i_nx ?_ | refine i_bk ?_ | refine i_ct ?_ | refine i_for ?_ | refine i_lc ?_ | refine i_dc ?_ | refine i_iL ?_ | refine i_iT ?_ | refine i_iR1 ?_ | refine i_iR2 ?_ | refine i_iS ?_ | refine i_iE ?_ | refine i_iEK ?_ | refine i_iEQ ?_ | refine i_iZS ?_ | refine i_dget ?_ | refine i_fld ?_ | refine i_sfld ?_ | refine i_dput ?_ | refine i_meth ?_ | refine i_rU ?_ | refine i_cont ?_ | refine i_make ?_))
local macro_rules | `(tactic| walk_at "v2") => `(tactic| (first
  | ((with_reducible refine' i_var ?k1 ?_); (case k1 => exact rfl))
  | ((with_reducible refine' i_eq ?k1 ?_); (case k1 => exact rfl))
  | ((with_reducible refine' i_ne ?k1 ?_); (case k1 => exact rfl))
  | ((with_reducible refine' i_ixL ?k1 ?k2 ?_); (case k1 => walk_at "h"); (case k2 => exact rfl))
  | ((with_reducible refine' i_ixT ?k1 ?k2 ?_); (case k1 => walk_at "h"); (case k2 => exact rfl))
  | ((with_reducible refine' i_lenL ?k1 ?_); (case k1 => walk_at "h"))
  | ((with_reducible refine' i_lenT ?k1 ?_); (case k1 => walk_at "h"))
  | (refine i_wipe (show wipe _ _ = wipe _ _ from rfl) ?_)
  | ((with_reducible refine' i_setL ?k1 ?k2 ?_); (case k1 => walk_at "h"); (case k2 => exact rfl))
  | ((with_reducible refine' i_tyl ?k1 ?_); (case k1 => walk_at "h"))))
local macro_rules | `(tactic| walk_at "v") => `(tactic| repeat (first | walk_at "v1" | walk_at "v2"))

variable {P : Program} {w : World} {K :
      PySem.W.Frag} {mg : Str → Option Value} {base : Heap}
abbrev slot_among : Stmt := top 11
abbrev Nlot_among : List Str := ["thing", "names", "found", "one"]
abbrev Plot_among : List Str := ["thing", "names"]
theorem sclot_among : FnScope Nlot_among Plot_among (defScope slot_among) := ⟨rfl, rfl, rfl, by decide +kernel, rfl, by decide +kernel, by decide +kernel⟩
abbrev FdNamesOf (K : PySem.W.Frag) (mg : Str → Option Value) := Fd K mg "names_of" snames_of Pnames_of
def lotD (d : PyData) (ns : List Str) : Option (List Str) := match namesD d with
  | some xs => if ∀ x ∈ xs, x ∈ ns then some xs else none
  | none => none
/-- a list or a tuple of the texts ns stands at p -/
def SeqO (o : HO) (ns : List Str) : Prop := o = .lst (ns.map V.str) ∨ o = .tup (ns.map V.str)
def spLotAmong : Sp := fun vs H Q _ => ∃ (S : List Addr) (d : PyData) (v : V) (p : Addr) (o : HO) (ns : List Str), vs = [v, .ref p] ∧ Dt S H d v ∧ (∀ z ∈ kids d, (strD z).length ≤ 1000000) ∧ (kids d).length < 64 ∧ H p = some o ∧ SeqO o ns ∧
  (lotD d ns = none → ∀ H', Same H H' → Q .non H') ∧ (∀ xs, lotD d ns = some xs → ∀ (ys : List Str) p H', ys.Perm xs → sortedS ys = true → H p = none → H' p = some (.lst (ys.map V.str)) → Same H H' → Q (.ref p) H')
theorem namesD_len {d : PyData} {xs : List Str} (h : namesD d = some xs) : xs.length = (kids d).length := by
  cases d <;> simp only [namesD] at h <;> try cases h
  all_goals
    split at h
    · cases h; simp [kids]
    · cases h
theorem ok_lotamong (d : Fd K mg "lot_among" slot_among Plot_among) (dnames_of : FdNamesOf K mg) (dis_name : FdIsName K mg) (B : Blt mg) : FnOk P w K mg base CX0 3 d.f d.fd Plot_among spLotAmong := by
  have Gnames_of : FnOk P w K mg base CX0 2 dnames_of.f dnames_of.fd Pnames_of spNamesOf := ok_namesof dnames_of dis_name B
  refine d.F.ok sclot_among (fun vs H Q E h => ?_) (fun cdv A outer s H vs Q E hr h => ?_)
  · obtain ⟨S, d, v, p, o, ns, rfl, _⟩ := h
    rfl
  · obtain ⟨S, d, v, p, o, ns, rfl, hd, hz, hl, hp, ho, k0, k1⟩ := h
    refine ⟨_, (pss_cons (ps_set (i := 2) sclot_among.nd rfl (by first | exact Or.inl rfl | exact Or.inr rfl) (pe_call Gnames_of (hr.mono (by decide)) (by rfl) dnames_of.g dnames_of.F.kp dnames_of.b .nil pass0 (pa_cons (pv 0) pa_nil)))
      (pss_cons (ps_if (pt_cmpR o_isN (pv 2) pe_non (nomark _)) (pss_one (ps_ret pe_non)) pss_nil)
      (pss_cons (ps_for PassesOwn.never rfl (w_list K (pv 2)) (pg_name (i := 3) sclot_among.nd rfl (by first | exact Or.inl rfl | exact Or.inr rfl))
      (pss_one (ps_if (pt_cmpR (o_notIn K) (pv 3) (pv 1) (by rfl)) (pss_one (ps_ret pe_non)) pss_nil)))
      (pss_one (ps_ret (pv 2)))))), ?_⟩
    walk_at "v"
    refine ⟨S, d, v, rfl, hd, hz, hl, fun e H' s1 => ?_, fun xs e ys q H' pm so nq hq s1 => ?_⟩
    · walk_at "v"
      refine ifd (fun _ => ?_) (fun z => absurd rfl z)
      walk_at "v"
      exact k0 (by unfold lotD; rw [e]) _ s1
    · walk_at "v"
      refine ifd (fun z => by cases z) (fun _ => ?_)
      walk_at "v"
      refine w_lst hq ?_
      refine for_by (walk_list (xs := ys.map V.str)) ⟨fun i σ H1 => (∃ v3, σ = [some v, some (.ref p), some (.ref q), v3]) ∧ H1 = H' ∧ ∀ x ∈ ys.take i, x ∈ ns, ?_, fun i σ H1 _ ⟨_, z, _⟩ => by rw [z]; exact SqL.of hq, ?_, ?_⟩
      · exact ⟨⟨none, rfl⟩, rfl, by simp⟩
      · rintro i x σ H1 H2 hi ⟨⟨v3, rfl⟩, rfl, ih⟩ ⟨rfl, hx⟩
        rw [List.getElem?_map] at hx
        obtain ⟨y, hy, rfl⟩ := Option.map_eq_some_iff.mp hx
        walk_at "v"
        refine ⟨p, ns.map V.str, rfl, ho.imp (fun z => SqL.of (by rw [s1 _ _ hp, z])) (fun z => SqT.of (by rw [s1 _ _ hp, z])), rfl, flat_strs _, ?_⟩
        walk_at "v"
        rw [if_pos rfl, inV_strs]
        refine ifn (fun hn => ?_) (fun hn => ?_)
        · walk_at "v"
          refine k0 ?_ _ s1
          unfold lotD; rw [e]; show (if _ then _ else _) = _
          rw [if_neg]
          intro z
          exact hn (z y (pm.subset (List.mem_of_getElem? hy)))
        · walk_at "v"
          refine ⟨⟨_, rfl⟩, rfl, ?_⟩
          intro x hx
          rw [List.take_succ, hy] at hx
          rcases List.mem_append.mp hx with z | z
          · exact ih x z
          · simp at z; subst z; exact hn
      · rintro σ H1 ⟨⟨v3, rfl⟩, rfl, ih⟩
        rw [List.length_map, List.take_length] at ih
        walk_at "v"
        refine k1 xs ?_ ys q _ pm so nq hq s1
        unfold lotD; rw [e]; show (if _ then _ else _) = _
        rw [if_pos (fun x hx => ih x (pm.symm.subset hx))]
abbrev FdLotAmong (K : PySem.W.Frag) (mg : Str → Option Value) := Fd K mg "lot_among" slot_among Plot_among
def rowD (r : List Str × List Str) : PyData := .tuple [.tuple (r.1.map .str), .tuple (r.2.map .str)]
def spRecordOf : Sp := fun vs H Q _ => ∃ (S : List Addr) (d da db : PyData) (v : V) (p : Addr) (ns r w : List Str), vs = [v, .ref p] ∧ Dt S H d v ∧ (isK "list" d || isK "tuple" d) = true ∧ kids d = [da, db] ∧
  (∀ z ∈ kids da, (strD z).length ≤ 1000000) ∧ (kids da).length < 64 ∧ (∀ z ∈ kids db, (strD z).length ≤ 1000000) ∧ (kids db).length < 64 ∧ H p = some (.lst (ns.map V.str)) ∧ lotD da ns = some r ∧ lotD db ns = some w ∧ w ≠ [] ∧
  (∀ (r' w' : List Str) q H', r'.Perm r → sortedS r' = true → w'.Perm w → sortedS w' = true → New H H' (rowD (r', w')) (.ref q) → Same H H' → Q (.ref q) H')
/-- a list or tuple as it stands -/
theorem Dt.row {S : List Addr} {H : Hp} {d : PyData} {v : V} (h : Dt S H d v) (hs : (isK "list" d || isK "tuple" d) = true) :
    ∃ (p : Addr) (o : HO) (xs : List V), (o = .lst xs ∨ o = .tup xs) ∧ v = .ref p ∧ H p = some o ∧ p ∉ S ∧ DtAll S H (kids d) xs := by
  cases d with
  | list ds => unfold Dt at h; obtain ⟨a, xs, rfl, n, q, z⟩ := h; exact ⟨a, _, xs, .inl rfl, rfl, q, n, z⟩
  | tuple ds => unfold Dt at h; obtain ⟨a, xs, rfl, n, q, z⟩ := h; exact ⟨a, _, xs, .inr rfl, rfl, q, n, z⟩
  | _ => simp [isK, ptype] at hs
theorem i_lenO {K : PySem.W.Frag} {H : Hp} {Q : VK} {p : Addr} {o : HO} {xs : List V} (ho : o = .lst xs ∨ o = .tup xs) (h : H p = some o) (q : Q (.int xs.length) H) : rLen K [V.ref p] H Q := by
  rcases ho with rfl | rfl
  · exact i_lenL h q
  · exact i_lenT h q
theorem i_ixO {K : PySem.W.Frag} {H : Hp} {Q : VK} {p : Addr} {o : HO} {xs : List V} {i : Int} {v : V} (ho : o = .lst xs ∨ o = .tup xs) (h : H p = some o) (e : atI xs i = some v) (q : Q v H) : rIx K (.ref p) (.int i) H Q := by
  rcases ho with rfl | rfl
  · exact .inl ⟨p, xs, i, v, rfl, rfl, SqL.of h, e, q⟩
  · exact .inr (.inl ⟨p, xs, i, v, rfl, rfl, SqT.of h, e, q⟩)
end Lr
set_option Elab.async false
set_option linter.all false
set_option maxRecDepth 100000
set_option maxHeartbeats 4000000
namespace Lr
open PySem PySem.Spec
      PyProof.Rows L2
local macro_rules | `(tactic| walk_at "ne") => `(tactic| (first | assumption | (refine ne_sym ?_; assumption) | (exact ne_of_none (by assumption) (by assumption)) | (exact ne_sym (ne_of_none (by assumption) (by assumption)))))
local macro_rules | `(tactic| walk_at "h") => `(tactic| (first | assumption | exact upd_same | (refine h_new ?_ (by assumption); walk_at "h") | (refine h_ne (by walk_at "ne") ?_; walk_at "h")))
local macro_rules | `(tactic| walk_at "v1") => `(tactic| (with_reducible first
  | refine i_seq ?_ | refine i_asg ?_ | refine i_ret ?_ | refine i_next ?_ | refine i_drop ?_ | refine i_ifS ?_ | refine i_if ?_ | refine i_and ?_ | refine i_or ?_ | refine i_not ?_ | refine i_test ?_ | refine i_tB ?_ | refine i_bl ?_ | refine i_yes ?_
  | refine i_op ?_ | refine i_un ?_ | refine i_chain ?_ | refine i_andV ?_ | refine i_orV ?_ | refine i_notV ?_ | refine i_cb ?_ | refine i_cons ?_ | refine i_nil ?_ | refine i_bm ?_ | refine i_bm0 ?_ | refine i_c ?_ | refine i_name ?_ | refine i_sub ?_
  | refine i_call ?_ | refine i_lst ?_ | refine i_tup ?_ | refine i_par ?_ | refine i_par2 ?_ | refine i_sl ?_ | refine i_np ?_ | refine i_pt ?_ | refine i_int ?_ | refine i_m0 ?_ | refine i_m1 ?_ | refine i_isS ?_
  | refine i_rI0 ?_ | refine i_inSign ?_ | refine i_notInSign ?_ | refine i_int1 ?_ | refine i_tru ?_ | refine i_isN ?_ | refine i_notN ?_ | refine iteT ?_ | refine iteF ?_ | refine i_brk ?_ | refine i_rt ?_ | refine i_nx ?_ | refine i_bk ?_ | refine i_ct ?_ | refine i_for ?_ | refine i_lc ?_ | refine i_dc ?_ | refine i_iL ?_ | refine i_iT ?_ | refine i_iR1 ?_ | refine i_iR2 ?_ | refine i_iS ?_ | refine i_iE ?_ | refine i_iEK ?_ | refine i_iEQ ?_ | refine i_iZS ?_ | refine i_dget ?_ | refine i_fld ?_ | refine i_sfld ?_ | refine i_dput ?_ | refine i_meth ?_ | refine i_rU ?_ | refine i_cont ?_ | refine i_make ?_))
local macro_rules | `(tactic| walk_at "v2") => `(tactic| (first
  | ((with_reducible refine' i_var ?k1 ?_); (case k1 => exact rfl))
  | ((with_reducible refine' i_eq ?k1 ?_); (case k1 => exact rfl))
  | ((with_reducible refine' i_ne ?k1 ?_); (case k1 => exact rfl))
  | ((with_reducible refine' i_ixL ?k1 ?k2 ?_); (case k1 => walk_at "h"); (case k2 => exact rfl))
  | ((with_reducible refine' i_ixT ?k1 ?k2 ?_); (case k1 => walk_at "h"); (case k2 => exact rfl))
  | ((with_reducible refine' i_lenL ?k1 ?_); (case k1 => walk_at "h"))
  | ((with_reducible refine' i_lenT ?k1 ?_); (case k1 => walk_at "h"))
  | (refine i_wipe (show wipe _ _ = wipe _ _ from rfl) ?_)
  | ((with_reducible refine' i_setL ?k1 ?k2 ?_); (case k1 => walk_at "h"); (case k2 => exact rfl))
  | ((with_reducible refine' i_tyl ?k1 ?_); (case k1 => walk_at "h"))))
local macro_rules | `(tactic| walk_at "v") => `(tactic| repeat (first | walk_at "v1" | walk_at "v2"))

variable {P : Program} {w : World} {K :
      PySem.W.Frag} {mg : Str → Option Value} {base : Heap}
abbrev s_law_name : Stmt := top 46
abbrev N_law_name : List Str := ["stream", "signs", "name", "turn"]
abbrev P_law_name : List Str := ["stream"]
theorem sc_law_name : FnScope N_law_name P_law_name (defScope s_law_name) := ⟨rfl, rfl, rfl, by decide +kernel, rfl, by decide +kernel, by decide +kernel⟩
abbrev s_law_names : Stmt := top 47
abbrev N_law_names : List Str := ["stream", "many", "found", "turn", "free", "k", "name"]
abbrev P_law_names : List Str := ["stream", "many"]
theorem sc_law_names : FnScope N_law_names P_law_names (defScope s_law_names) := ⟨rfl, rfl, rfl, by decide +kernel, rfl, by decide +kernel, by decide +kernel⟩
abbrev SG : Str := "abcdefghijklmnopqrstuvwxyz0123456789"
theorem sg_all : ∀ i < 36, (SG.cps.toList[i]?).any (fun c => letB c || figB c) = true := by decide +kernel
theorem sg_let : ∀ i < 26, (SG.cps.toList[i]?).any letB = true := by decide +kernel
theorem sg_at {n : Nat} {f : Nat → Bool} (h : ∀ i < n, (SG.cps.toList[i]?).any f = true) {d : Int} (h0 : 0 ≤ d) (h1 : d < n) : ∃ c, atI SG.cps.toList d = some c ∧ f c = true := by
  have e := h d.toNat (by omega)
  cases q : SG.cps.toList[d.toNat]? with
  | none => rw [q]
        at e; cases e
  | some c =>
    rw [q] at e
    have z := atI_nat q
    rw [Int.toNat_of_nonneg h0] at z
    exact ⟨c, z, e⟩
theorem nameB_one {c : Nat} (h : letB c = true) : nameB ⟨#[c]⟩ = true := by simp [nameB, Str.length, h]
theorem toL_app (x y : Str) : (x ++ y).cps.toList = x.cps.toList ++ y.cps.toList := by
  show (x.cps ++ y.cps).toList = _
  simp
theorem len_app (x y : Str) : (x ++ y).length = x.length + y.length := by
  show (x.cps ++ y.cps).size = _
  simp [Str.length]
theorem nameB_snoc {z : Str} {c : Nat} (h : nameB z = true) (l : z.length < 8) (hc : (letB c || figB c) = true) : nameB (z ++ ⟨#[c]⟩) = true := by
  obtain ⟨l1, l2⟩ := nameB_len h
  simp only [nameB, Bool.and_eq_true, decide_eq_true_eq] at h ⊢
  obtain ⟨⟨⟨_, _⟩, h3⟩, h4⟩ := h
  have e1 : (z ++ (⟨#[c]⟩ : Str)).length = z.length + 1 := len_app _ _
  refine ⟨⟨⟨by omega, by omega⟩, ?_⟩, ?_⟩
  · rw [toL_app, List.all_append, h3]; simpa using hc
  · rw [toL_app]
    cases e : z.cps.toList with
    | nil => rw [e] at h4; cases h4
    | cons a r => rw [e] at h4; simpa using h4
theorem sg_len : SG.length ≤ sizeLine := by decide
def spName (a b : Addr) : Sp := fun vs H Q _ => ∃ n, vs = [.ref a] ∧ StreamAt a b n H ∧ n < 2 ^ 39 ∧ ∀ (z : Str) H', nameB z = true → StreamAt a b (n + 9) H' → Keep [a, b] H H' → Q (.str z) H'
abbrev FdPick (K : PySem.W.Frag) (mg : Str → Option Value) := Fd K mg "_law_pick" s_law_pick P_law_pick
theorem ok_name {a b : Addr} (d : Fd K mg "_law_name" s_law_name P_law_name) (d_law_below : FdB K mg) (d_law_pick : FdPick K mg) (B : Blt mg) : FnOk P w K mg base CX0 3 d.f d.fd P_law_name (spName a b) := by
  have G_law_below : FnOk P w K mg base CX0 1 d_law_below.f d_law_below.fd P_law_below (spBelow a b) := ok_below d_law_below B
  have G_law_pick : FnOk P w K mg base CX0 2 d_law_pick.f d_law_pick.fd P_law_pick (spPick a b) := ok_pick d_law_pick d_law_below B
  refine d.F.ok sc_law_name (fun vs H Q E h => ?_) (fun cdv A outer s H vs Q E hr h => ?_)
  · obtain ⟨n, rfl, _⟩ := h
    rfl
  · obtain ⟨n, rfl, hS, hn, k⟩ := h
    refine ⟨_, (pss_cons (ps_set (i := 1) sc_law_name.nd rfl (by first | exact Or.inl rfl | exact Or.inr rfl) pe_str)
      (pss_cons (ps_set (i := 2) sc_law_name.nd rfl (by first | exact Or.inl rfl | exact Or.inr rfl) (pe_ix ix_str (pv 1) (pe_call G_law_below (hr.mono (by decide)) (by rfl) d_law_below.g d_law_below.F.kp d_law_below.b .nil pass0 (pa_cons (pv 0) (pa_cons pe_int pa_nil))) (fun _ _ => rfl)))
      (pss_cons (ps_for PassesOwn.never rfl (pi_range1 (by rfl) B.range (pa_cons (pe_call G_law_pick (hr.mono (by decide)) (by rfl) d_law_pick.g d_law_pick.F.kp d_law_pick.b .nil pass0 (pa_cons (pv 0) (pa_cons (pe_lst (pa_cons pe_int (pa_cons pe_int (pa_cons pe_int (pa_cons pe_int (pa_cons pe_int (pa_cons pe_int (pa_cons pe_int (pa_cons pe_int (pa_cons pe_int (pa_cons pe_int pa_nil))))))))))) pa_nil))) pa_nil)) (pg_name (i := 3) sc_law_name.nd rfl (by first | exact Or.inl rfl | exact Or.inr rfl))
      (pss_one (ps_set (i := 2) sc_law_name.nd rfl (by first | exact Or.inl rfl | exact Or.inr rfl) (pe_op o_addS (pv 2) (pe_ix ix_str (pv 1) (pe_call G_law_below (hr.mono (by decide)) (by rfl) d_law_below.g d_law_below.F.kp d_law_below.b .nil pass0 (pa_cons (pv 0) (pa_cons pe_int pa_nil))) (fun _ _ => rfl))))))
      (pss_one (ps_ret (pv 2)))))), ?_⟩
    walk_at "v"
    refine ⟨n, 26, rfl, by decide, by decide, hS, by omega, fun d H1 d0 d1 st1 kp1 => ?_⟩
    obtain ⟨c, hc, lc⟩ := sg_at sg_let d0 d1
    refine i_ixS sg_len hc ?_
    walk_at "v"
    refine ⟨by decide, fun l hl => ?_⟩
    walk_at "v"
    refine ⟨n + 1, l, _, rfl, upd_same, (st1.nm hl), by decide, by decide, st1.new hl, by omega, fun x i H2 hx st2 kp2 => ?_⟩
    have hx2 : ∃ m : Nat, m ≤ 7 ∧ x = .int m := by
      have : ∀ i < 10, ∃ m : Nat, m ≤ 7 ∧ ([V.int 0, V.int 0, V.int 1, V.int 1, V.int 2, V.int 3, V.int 4, V.int 5, V.int 6, V.int 7] : List V)[i]? = some (.int (m : Nat)) := by
        intro i hi
        match i, hi with
        | 0, _ => exact ⟨0, by decide, rfl⟩
        | 1, _ => exact ⟨0, by decide, rfl⟩
        | 2, _ => exact ⟨1, by decide, rfl⟩
        | 3, _ => exact ⟨1, by decide, rfl⟩
        | 4, _ => exact ⟨2, by decide, rfl⟩
        | 5, _ => exact ⟨3, by decide, rfl⟩
        | 6, _ => exact ⟨4, by decide, rfl⟩
        | 7, _ => exact ⟨5, by decide, rfl⟩
        | 8, _ => exact ⟨6, by decide, rfl⟩
        | 9, _ => exact ⟨7, by decide, rfl⟩
        | i + 10, h => omega
      have hi : i < 10 := (List.getElem?_eq_some_iff.mp hx).1
      obtain ⟨m, hm, e⟩ := this i hi
      rw [hx] at e
      exact ⟨m, hm, Option.some.inj e⟩
    obtain ⟨m, hm, rfl⟩ := hx2
    walk_at "v"
    refine w_rg1 (by omega) ?_
    refine for_by walk_range ⟨fun i σ H' => ∃ (z : Str) (v3 : Option V), σ = [some (.ref a), some (.str SG), some (.str z), v3] ∧ nameB z = true ∧ z.length = 1 + i ∧ StreamAt a b (n + 2 + i) H' ∧ Keep [a, b] H H', ?_, fun _ _ _ _ _ => trivial, ?_, ?_⟩
    · exact ⟨⟨#[c]⟩, none, rfl, nameB_one lc, rfl, st2, (kp1.new hl).trans kp2⟩
    · rintro i x σ H3 H4 hi ⟨z, v3, rfl, nz, lz, st, kp⟩ ⟨rfl, rfl⟩
      have hi' : i < m := by simpa using hi
      walk_at "v"
      refine ⟨n + 2 + i, 36, rfl, by decide, by decide, st, by omega, fun d H5 d0 d1 st5 kp5 => ?_⟩
      obtain ⟨c, hc, lc⟩ := sg_at sg_all d0 d1
      refine i_ixS sg_len hc ?_
      have l8 := (nameB_len nz).2
      refine i_adds (Nat.le_trans (Nat.add_le_add l8 (Nat.le_refl _)) (by show 8 + 1 ≤ sizeLine; decide)) ?_
      walk_at "v"
      refine ⟨z ++ ⟨#[c]⟩, _, rfl, nameB_snoc nz (by omega) lc, ?_, st5.mono (by omega), kp.trans kp5⟩
      rw [len_app, lz]; show 1 + i + 1 = _; omega
    · rintro σ H3 ⟨z, v3, rfl, nz, lz, st, kp⟩
      walk_at "v"
      refine k z _ nz (st.mono ?_) kp
      have : ((m : Int)).toNat = m := by simp
      rw [this]; omega
end Lr
set_option Elab.async false
set_option linter.all false
set_option maxRecDepth 100000
set_option maxHeartbeats 4000000
namespace Lr
open PySem PySem.Spec
      PyProof.Rows L2
local macro_rules | `(tactic| walk_at "ne") => `(tactic| (first | assumption | (refine ne_sym ?_; assumption) | (exact ne_of_none (by assumption) (by assumption)) | (exact ne_sym (ne_of_none (by assumption) (by assumption)))))
local macro_rules | `(tactic| walk_at "h") => `(tactic| (first | assumption | exact upd_same | (refine h_new ?_ (by assumption); walk_at "h") | (refine h_ne (by walk_at "ne") ?_; walk_at "h")))
local macro_rules | `(tactic| walk_at "v1") => `(tactic| (with_reducible first
  | refine i_seq ?_ | refine i_asg ?_ | refine i_ret ?_ | refine i_next ?_ | refine i_drop ?_ | refine i_ifS ?_ | refine i_if ?_ | refine i_and ?_ | refine i_or ?_ | refine i_not ?_ | refine i_test ?_ | refine i_tB ?_ | refine i_bl ?_ | refine i_yes ?_
  | refine i_op ?_ | refine i_un ?_ | refine i_chain ?_ | refine i_andV ?_ | refine i_orV ?_ | refine i_notV ?_ | refine i_cb ?_ | refine i_cons ?_ | refine i_nil ?_ | refine i_bm ?_ | refine i_bm0 ?_ | refine i_c ?_ | refine i_name ?_ | refine i_sub ?_
  | refine i_call ?_ | refine i_lst ?_ | refine i_tup ?_ | refine i_par ?_ | refine i_par2 ?_ | refine i_sl ?_ | refine i_np ?_ | refine i_pt ?_ | refine i_int ?_ | refine i_m0 ?_ | refine i_m1 ?_ | refine i_isS ?_
  | refine i_rI0 ?_ | refine i_inSign ?_ | refine i_notInSign ?_ | refine i_int1 ?_ | refine i_tru ?_ | refine i_isN ?_ | refine i_notN ?_ | refine iteT ?_ | refine iteF ?_ | refine i_brk ?_ | refine i_rt ?_ | refine i_nx ?_ | refine i_bk ?_ | refine i_ct ?_ | refine i_for ?_ | refine i_lc ?_ | refine i_dc ?_ | refine i_iL ?_ | refine i_iT ?_ | refine i_iR1 ?_ | refine i_iR2 ?_ | refine i_iS ?_ | refine i_iE ?_ | refine i_iEK ?_ | refine i_iEQ ?_ | refine i_iZS ?_ | refine i_dget ?_ | refine i_fld ?_ | refine i_sfld ?_ | refine i_dput ?_ | refine i_meth ?_ | refine i_rU ?_ | refine i_cont ?_ | refine i_make ?_))
local macro_rules | `(tactic| walk_at "v2") => `(tactic| (first
  | ((with_reducible refine' i_var ?k1 ?_); (case k1 => exact rfl))
  | ((with_reducible refine' i_eq ?k1 ?_); (case k1 => exact rfl))
  | ((with_reducible refine' i_ne ?k1 ?_); (case k1 => exact rfl))
  | ((with_reducible refine' i_ixL ?k1 ?k2 ?_); (case k1 => walk_at "h"); (case k2 => exact rfl))
  | ((with_reducible refine' i_ixT ?k1 ?k2 ?_); (case k1 => walk_at "h"); (case k2 => exact rfl))
  | ((with_reducible refine' i_lenL ?k1 ?_); (case k1 => walk_at "h"))
  | ((with_reducible refine' i_lenT ?k1 ?_); (case k1 => walk_at "h"))
  | (refine i_wipe (show wipe _ _ = wipe _ _ from rfl) ?_)
  | ((with_reducible refine' i_setL ?k1 ?k2 ?_); (case k1 => walk_at "h"); (case k2 => exact rfl))
  | ((with_reducible refine' i_tyl ?k1 ?_); (case k1 => walk_at "h"))))
local macro_rules | `(tactic| walk_at "v") => `(tactic| repeat (first | walk_at "v1" | walk_at "v2"))

variable {P : Program} {w : World} {K :
      PySem.W.Frag} {mg : Str → Option Value} {base : Heap}
abbrev FdName (K : PySem.W.Frag) (mg : Str → Option Value) := Fd K mg "_law_name" s_law_name P_law_name
def vn : List Str := (List.range 13).map fun (k : Nat) => ("v" : Str) ++ ((toString (k : Int) : String) : Str)
theorem vn_nd : vn.Nodup := by decide +kernel
theorem vn_name : ∀ x ∈ vn, nameB x = true := by decide +kernel
theorem vn_len : vn.length = 13 := by simp [vn]
theorem vn_short : ∀ i : Nat, i < 13 → (("v" : Str).length + ((toString (i : Int) : String) : Str).length) ≤ 100 := by decide +kernel
theorem nodup_sub : ∀ {vs fs : List Str}, vs.Nodup → (∀ x ∈ vs, x ∈ fs) → vs.length ≤ fs.length
  | [], _, _, _ => by simp
  | v :: vs, fs, nd, h => by
    have hv := h v (by simp)
    rw [List.nodup_cons] at nd
    have ih := nodup_sub (vs := vs) (fs := fs.erase v) nd.2 (fun x hx => (List.mem_erase_of_ne (show x ≠ v from fun e => nd.1 (by rw [← e]; exact hx))).mpr (h x (by simp [hx])))
    rw [List.length_erase_of_mem hv] at ih
    have : 0 < fs.length := List.length_pos_of_mem hv
    simp; omega
theorem pigeon {vs fs : List Str} (nd : vs.Nodup) (h : fs.length < vs.length) : ∃ v ∈ vs, v ∉ fs := by
  apply Classical.byContradiction
  intro z
  have : vs.length ≤ fs.length := nodup_sub nd (fun x hx => Classical.byContradiction fun n => z ⟨x, hx, n⟩)
  omega
def spNames (a b : Addr) : Sp := fun vs H Q _ => ∃ (n many : Nat), vs = [.ref a, .int many] ∧ many ≤ 12 ∧ StreamAt a b n H ∧ n < 2 ^ 38 ∧
  ∀ (ys : List Str) q H', sortedS ys = true → ys.Nodup → (∀ x ∈ ys, nameB x = true) → ys.length = many → H q = none → H' q = some (.lst (ys.map V.str)) → StreamAt a b (n + 9 * many) H' → Keep [a, b] H H' → Q (.ref q) H'
theorem ok_names {a b : Addr} (d : Fd K mg "_law_names" s_law_names P_law_names) (d_law_name : FdName K mg) (d_law_below : FdB K mg) (d_law_pick : FdPick K mg) (B : Blt mg) : FnOk P w K mg base CX0 4 d.f d.fd P_law_names (spNames a b) := by
  have G_law_name : FnOk P w K mg base CX0 3 d_law_name.f d_law_name.fd P_law_name (spName a b) := ok_name d_law_name d_law_below d_law_pick B
  refine d.F.ok sc_law_names (fun vs H Q E h => ?_) (fun cdv A outer s H vs Q E hr h => ?_)
  · obtain ⟨n, many, rfl, _⟩ := h
    rfl
  · obtain ⟨n, many, rfl, hm, hS, hn, k⟩ := h
    refine ⟨_, (pss_cons (ps_set (i := 2) sc_law_names.nd rfl (by first | exact Or.inl rfl | exact Or.inr rfl) (pe_lst pa_nil))
      (pss_cons (ps_for PassesOwn.never rfl (pi_range1 (by rfl) B.range (pa_cons (pv 1) pa_nil)) (pg_name (i := 3) sc_law_names.nd rfl (by first | exact Or.inl rfl | exact Or.inr rfl))
      (pss_cons (ps_set (i := 4) sc_law_names.nd rfl (by first | exact Or.inl rfl | exact Or.inr rfl) (pe_op op_cat (pe_lst (pa_cons (pe_call G_law_name (hr.mono (by decide)) (by rfl) d_law_name.g d_law_name.F.kp d_law_name.b .nil pass0 (pa_cons (pv 0) pa_nil)) pa_nil)) (pe_lc (own := [("k", 5)]) (g := gName 5) (tt := tYes) rfl sc_law_names.nd (pi_range1 (by rfl) B.range (pa_cons pe_int pa_nil)) (blkOk_by (own := [("k", 5)]) (N := N_law_names) (sc := defScope s_law_names) (by decide +kernel)) (fun _ _ _ _ _ => by exact (pg_name (i := 5) sc_law_names.nd rfl (by first | exact Or.inl rfl | exact Or.inr rfl))) (fun _ _ _ _ _ => pts_nil) (fun _ _ _ _ _ => by exact (pe_op o_addS pe_str (pe_callTy c_strI (by rfl) B.str (by decide +kernel) (pa_cons (pv 5) pa_nil)))))))
      (pss_one (ps_expr (e_bm K PySem.F.plainAttrs_list PySem.F.slot_list_append PySem.F.type_list_append mt_append (pv 2) (pa_cons (pe_ix (x_list K) (pe_lc (own := [("name", 6)]) (g := gName 6) rfl sc_law_names.nd (w_list K (pv 4)) (blkOk_by (own := [("name", 6)]) (N := N_law_names) (sc := defScope s_law_names) (by decide +kernel)) (fun _ _ _ _ _ => by exact (pg_name (i := 6) sc_law_names.nd rfl (by first | exact Or.inl rfl | exact Or.inr rfl))) (fun _ _ _ _ _ => by exact (pts_one (pt_cmpR (o_notIn K) (pv 6) (pv 2) (by rfl)))) (fun _ _ _ _ _ => by exact (pv 6))) pe_int (fun _ _ => rfl)) pa_nil))))))
      (pss_one (ps_ret (pe_callB (c_sortS K) (by rfl) B.sorted (by decide +kernel) (pa_cons (pv 2) pa_nil)))))), ?_⟩
    walk_at "v"
    refine ⟨by decide, fun f hf => ?_⟩
    walk_at "v"
    refine w_rg1 (by omega) ?_
    have fm := hS.nm hf
    refine for_by walk_range ⟨fun i σ H' => ∃ (fs : List Str) (v3 v4 v5 v6 : Option V), σ = [some (.ref a), some (.int many), some (.ref f), v3, v4, v5, v6] ∧ fs.Nodup ∧ (∀ x ∈ fs, nameB x = true) ∧ fs.length = i ∧ H' f = some (.lst (fs.map V.str)) ∧ StreamAt a b (n + 9 * i) H' ∧ Keep [a, b] H H', ?_, fun _ _ _ _ _ => trivial, ?_, ?_⟩
    · exact ⟨[], none, none, none, none, rfl, by simp, by simp, rfl, upd_same, hS.new hf, (Keep.refl _ _).new hf⟩
    · rintro i x σ H1 H2 hi ⟨fs, v3, v4, v5, v6, rfl, nd, nm, lf, hf1, st, kp⟩ ⟨rfl, rfl⟩
      have hi' : i < many := by simpa using hi
      walk_at "v"
      refine ⟨n + 9 * i, rfl, st, by omega, fun z H3 nz st3 kp3 => ?_⟩
      have hf3 := kp3 _ _ fm hf1
      walk_at "v"
      refine ⟨show 1 ≤ sizeLine by decide, fun l hl => ?_⟩
      have hf4 : upd H3 l (.lst [.str z]) f = some (.lst (fs.map V.str)) := h_new hf3 hl
      have sm4 : Same H3 (upd H3 l (.lst [.str z])) := (Same.refl H3).new hl
      obtain ⟨H4, eH4⟩ : ∃ H4, H4 = upd H3 l (.lst [.str z]) := ⟨_, rfl⟩
      have hl4 : H4 l = some (.lst [.str z]) := by rw [eH4]; exact upd_same
      rw [← eH4] at hf4 sm4 ⊢
      clear eH4
      walk_at "v"
      refine w_rg1 (n := 13) (by omega) ?_
      refine lc_by walk_range fun D hD => ⟨fun j H' => H' D = some (.lst ((vn.take j).map V.str)) ∧ Same H4 H', ?_, fun _ _ _ _ => trivial, ?_, ?_⟩
      · exact ⟨upd_same, (Same.refl H4).new hD⟩
      · rintro j x H5 H6 hj ⟨h5, sm5⟩ ⟨rfl, rfl⟩
        have hj' : j < 13 := by simpa using hj
        walk_at "v"
        refine i_strI (by have : ∀ i < 13, ((0 : Int) + (i : Nat)).natAbs.log2 < 1920 := by decide
                          exact this j hj') ?_
        have e0 : (0 : Int) + (j : Nat) = (j : Nat) := by omega
        rw [e0]
        refine i_adds (Nat.le_trans (vn_short j hj') (by decide)) ?_
        refine ⟨_, h5, by rw [List.length_map, List.length_take, vn_len]; exact small1000 (by omega), ?_, sm5.put hD⟩
        have : vn[j]? = some (("v" : Str) ++ ((toString (j : Int) : String) : Str)) := by simp [vn, hj']
        rw [List.take_succ, this, List.map_append]
        exact upd_same
      · rintro H5 ⟨h5, sm5⟩
        have e13 : vn.take (((13 : Nat) : Int)).toNat = vn := by
          rw [List.take_of_length_le]; rw [vn_len]; decide
        rw [e13] at h5
        refine i_cat (sm5 _ _ hl4) h5 (by rw [List.length_map, vn_len]; show 1 + 13 ≤ sizeLine; decide) (fun r hr0 => ?_)
        have sm6 : Same H4 (upd H5 r (.lst ([.str z] ++ vn.map V.str))) := sm5.new hr0
        obtain ⟨H6, eH6⟩ : ∃ H6, H6 = upd H5 r (.lst ([.str z] ++ vn.map V.str)) := ⟨_, rfl⟩
        have hr6 : H6 r = some (.lst ((z :: vn).map V.str)) := by rw [eH6]; exact upd_same
        rw [← eH6] at sm6 ⊢
        clear eH6
        have hf6 := sm6 _ _ hf4
        walk_at "v"
        refine w_lst hr6 ?_
        refine lc_by (walk_list (xs := (z :: vn).map V.str)) fun E hE => ⟨fun j H' => H' E = some (.lst ((((z :: vn).take j).filter (fun x => decide (x ∉ fs))).map V.str)) ∧ Same H6 H', ?_, fun j H' _ ⟨_, s⟩ => SqL.of (s _ _ hr6), ?_, ?_⟩
        · exact ⟨upd_same, (Same.refl H6).new hE⟩
        · rintro j x H7 H8 hj ⟨h7, sm7⟩ ⟨rfl, hx⟩
          rw [List.getElem?_map] at hx
          obtain ⟨x, hxj, rfl⟩ := Option.map_eq_some_iff.mp hx
          have et : ((z :: vn).take (j + 1)) = (z :: vn).take j ++ [x] := by rw [List.take_succ, hxj]; rfl
          walk_at "v"
          refine ⟨f, _, rfl, .inl (SqL.of (sm7 _ _ hf6)), rfl, flat_strs _, ?_⟩
          walk_at "v"
          rw [if_pos rfl, inV_strs]
          refine ifn (fun hn => ?_) (fun hn => ?_)
          · walk_at "v"
            refine ⟨_, h7, ?_, ?_, sm7.put hE⟩
            · rw [List.length_map]
              refine small1000 (Nat.le_trans (List.length_filter_le _ _) ?_)
              rw [List.length_take]
              have : (z :: vn).length = 14 := by simp [vn_len]
              omega
            · rw [et, List.filter_append, List.map_append]
              simp only [List.filter_cons, List.filter_nil, hn, not_false_eq_true, decide_true, if_true]
              exact upd_same
          · refine ⟨?_, sm7⟩
            rw [et, List.filter_append]
            simp only [List.filter_cons, List.filter_nil, hn, not_true_eq_false, decide_false]
            simpa using h7
        · rintro H7 ⟨h7, sm7⟩
          rw [List.length_map, List.take_length] at h7
          obtain ⟨v, hv, nv⟩ := pigeon (vs := vn) (fs := fs) vn_nd (by rw [vn_len]; omega)
          cases ef : (z :: vn).filter (fun x => decide (x ∉ fs)) with
          | nil =>
            have : v ∈ (z :: vn).filter (fun x => decide (x ∉ fs)) := by rw [List.mem_filter]; exact ⟨List.mem_cons_of_mem _ hv, by simpa using nv⟩
            rw [ef] at this; cases this
          | cons y r =>
            have hy : y ∈ (z :: vn).filter (fun x => decide (x ∉ fs)) := by rw [ef]; simp
            rw [List.mem_filter] at hy
            rw [ef] at h7
            have hyf : y ∉ fs := by simpa using hy.2
            walk_at "v"
            refine i_ixL h7 (atI_nat (j := 0) rfl) ?_
            walk_at "v"
            have hf7 := sm7 _ _ hf6
            refine i_app hf7 (by rw [List.length_map]; exact small1000 (by omega)) ?_
            have sm37 : Same H3 H7 := (sm4.trans sm6).trans sm7
            have fab := hS.na hf
            refine ⟨fs ++ [y], _, _, _, _, rfl, ?_, ?_, by simp [lf], by rw [List.map_append]; exact upd_same, ?_, ?_⟩
            · rw [List.nodup_append]
              refine ⟨nd, by simp, fun c hc d hd e => ?_⟩
              simp at hd; subst hd; subst e; exact hyf hc
            · intro c hc
              rcases List.mem_append.mp
                    hc with hc | hc
              · exact nm c hc
              · simp at hc; subst hc
                rcases List.mem_cons.mp hy.1 with e | e
                · rw [e]; exact nz
                · exact vn_name _ e
            · have st7 : StreamAt a b (n + 9 * i + 9) H7 := by
                obtain ⟨ne, cells, x, c, k, h1, h2, r⟩ := st3
                exact ⟨ne, cells, x, c, k, sm37 _ _ h1, sm37 _ _ h2, r⟩
              exact (st7.put fab.1 fab.2).mono (by omega)
            · exact ((kp.trans kp3).trans (Keep.of_same sm37)).new' hf
    · rintro σ H1 ⟨fs, v3, v4, v5, v6, rfl, nd, nm, lf, hf1, st, kp⟩
      have lm : fs.length = many := by rw [lf]; simp
      walk_at "v"
      refine ⟨f, _, rfl, SqL.of hf1, by rw [lm]; omega, fun ys q pm so hq => ?_⟩
      walk_at "v"
      refine k ys q _ so (pm.nodup_iff.mpr nd) (fun x hx => nm x (pm.subset hx)) (by rw [pm.length_eq, lm]) (kp.free hq) upd_same ((st.mono ?_).new hq) (kp.new hq)
      rw [← lm]; omega
end Lr
set_option Elab.async false
set_option linter.all false
set_option maxRecDepth 100000
set_option maxHeartbeats 4000000
/-! Vp: ==, in and count over data of any texts, none of it a dict. -/
namespace Lr
open PySem PySem.Spec
      PyProof.Rows L2
section
variable {S : List Addr} {H : Hp}
mutual
theorem Dt.plain : ∀ (d : PyData) (v : V), Dt S H d v → d.plain = true
  | .none, _, _ => rfl
  | .bool _, _, _ => rfl
  | .int _, _, _ => rfl
  | .str _, _, _ => rfl
  | .list ds, _, h => by
    unfold Dt at h
    obtain ⟨a, xs, _, _, _, z⟩ := h
    show PyData.plainAll ds = true
    exact DtAll.plain ds xs z
  | .tuple ds, _, h => by
    unfold Dt at h
    obtain ⟨a, xs, _, _, _, z⟩ := h
    show PyData.plainAll ds = true
    exact DtAll.plain ds xs z
  | .dict _, _, h => by unfold Dt at h; exact h.elim
theorem DtAll.plain : ∀ (ds : List PyData) (xs : List V), DtAll S H ds xs → PyData.plainAll ds = true
  | [], _, _ => rfl
  | d :: ds, _, h => by
    obtain ⟨x, r, _, h1, h2⟩ := DtAll.cons_iff.mp h
    simp only [PyData.plainAll, Dt.plain d x h1, DtAll.plain ds r h2, Bool.and_self]
end
end
section
variable {X : Cx} (K : PySem.W.Frag)
def rEqP (K : PySem.W.Frag) : R2 := fun x y H Q => ∃ d e, Dp K H x d ∧ Dp K H y e ∧ d.plain = true ∧ e.plain = true ∧ (d.depth ≤ 60 ∨ e.depth ≤ 60) ∧ Q (.bl (PyData.eqv d e)) H
def rNeP (K : PySem.W.Frag) : R2 := fun x y H Q => ∃ d e, Dp K H x d ∧ Dp K H y e ∧ d.plain = true ∧ e.plain = true ∧ (d.depth ≤ 60 ∨ e.depth ≤ 60) ∧ Q (.bl (!PyData.eqv d e)) H
def rInP (K : PySem.W.Frag) (neg : Bool) : R2 := fun x c H Q => ∃ d xs, Dp K H x d ∧ (Dp K H c (.list xs) ∨ Dp K H c (.tuple xs)) ∧ PyData.plainAll xs = true ∧ d.plain = true ∧ d.depth ≤ 60 ∧ Q (.bl (if neg = true then !(xs.any fun y => PyData.eqv y d) else xs.any fun y => PyData.eqv y d)) H
theorem o_eqP (hu : X.A.units + 64 < cLine) (hK : X.K = K := by rfl) : OpR X (compareOp .Eq) (rEqP K) := by
  subst hK
  intro pins s σ H x
        y v u Q I rx ry h
  obtain ⟨d, e, hd, he, sd, se, dp, q⟩ := h
  obtain ⟨as, r1⟩
        := Dp.reads I d x v hd rx
  obtain ⟨bs, r2⟩
        := Dp.reads I e y u he ry
  refine SeqAt.eq_plain r1 r2 sd se ?_ ⟨.bl _, H, I, rfl, q⟩
  have : min d.depth e.depth ≤ 60 := by rcases dp with z | z <;> omega
  omega
theorem o_neP (hu : X.A.units + 64 < cLine) (hK : X.K = K := by rfl) : OpR X (compareOp .NotEq) (rNeP K) := by
  subst hK
  intro pins s σ H x
        y v u Q I rx ry h
  obtain ⟨d, e, hd, he, sd, se, dp, q⟩ := h
  obtain ⟨as, r1⟩
        := Dp.reads I d x v hd rx
  obtain ⟨bs, r2⟩
        := Dp.reads I e y u he ry
  refine SeqAt.ne_plain r1 r2 sd se ?_ ⟨.bl _, H, I, rfl, q⟩
  have : min d.depth e.depth ≤ 60 := by rcases dp with z | z <;> omega
  omega
theorem o_inP (hu : X.A.units + 64 < cLine) (hK : X.K = K := by rfl) : OpR X (compareOp .In) (rInP K false) := by
  subst hK
  intro pins s σ H x
        y v u Q I rx ry h
  obtain ⟨d, xs, hd, hc, sx, sd, dp, q⟩ := h
  obtain ⟨as, r1⟩
        := Dp.reads I d x v hd rx
  rcases hc with hc | hc
  · obtain ⟨bs, r2⟩ := Dp.reads I _ y u hc ry
    exact SeqAt.in_list_data r2 r1 sx sd (by omega) ⟨.bl _, H, I, rfl, by simpa using q⟩
  · obtain ⟨bs, r2⟩ := Dp.reads I _ y u hc ry
    exact SeqAt.in_tuple_data r2 r1 sx sd (by omega) ⟨.bl _, H, I, rfl, by simpa using q⟩
theorem o_ninP (hu : X.A.units + 64 < cLine) (hK : X.K = K := by rfl) : OpR X (compareOp .NotIn) (rInP K true) := by
  subst hK
  intro pins s σ H x
        y v u Q I rx ry h
  obtain ⟨d, xs, hd, hc, sx, sd, dp, q⟩ := h
  obtain ⟨as, r1⟩
        := Dp.reads I d x v hd rx
  rcases hc with hc | hc
  · obtain ⟨bs, r2⟩ := Dp.reads I _ y u hc ry
    exact SeqAt.notIn_list_data r2 r1 sx sd (by omega) ⟨.bl _, H, I, rfl, by simpa using q⟩
  · obtain ⟨bs, r2⟩ := Dp.reads I _ y u hc ry
    exact SeqAt.notIn_tuple_data r2 r1 sx sd (by omega) ⟨.bl _, H, I, rfl, by simpa using q⟩
def rCntP (K : PySem.W.Frag) : V → List V → Hp → VK → Prop := fun x xs H Q => ∃ (p : Addr) (ys : List V) (ds : List PyData) (y : V) (d : PyData), x = .ref p ∧ xs = [y] ∧ SqL K H p ys ∧ DpAll K H ys ds ∧ Dp K H y d ∧ PyData.plainAll ds = true ∧ d.plain = true ∧ d.depth ≤ 60 ∧ Q (.int ((ds.countP fun z => PyData.eqv z d : Nat) : Int)) H
theorem mt_cntP (hu : X.A.units + 64 < cLine) (hK : X.K = K := by rfl) : MtR X "list.count" (rCntP K) := by
  subst hK
  intro pins s σ H x
        xs v us Q I rx rxs h
  obtain ⟨p, ys, ds, y, d, rfl, rfl, hs, hds, hy, pds, pd, dd, q⟩ := h
  cases rx
  obtain ⟨u, rfl,
        ru⟩ := rxs.one
  obtain ⟨its, rv, ⟨o, n, ho, hc, hdn, hd⟩, hlen⟩ := I.list hs
  obtain ⟨as, r1⟩ := Dp.readsAll I ds ys its hds rv
  obtain ⟨bs, r2⟩ := Dp.reads I d y u hy ru
  exact SeqAt.count_list_data ⟨o, ho, hc, n, hd⟩ (by simpa using r1) r2 pds pd (by omega) ⟨.int _, H, I.tok _, ⟨s.toks, rfl⟩, q⟩
end
section
variable {K : PySem.W.Frag} {S T : List Addr} {H : Hp} {Q : VK}
theorem i_make {σ : L2.St} {C : Addr} {sp : Sp} {dvs : List V} {E : XK} {t : TA} (h : t σ H fun vs H1 => ∀ x dx, H1 x = none → H1 dx = none → dx ≠ x → sp (.ref x :: (vs ++ dvs)) (upd (upd H1 dx (.own x)) x (.ins C dx [])) (fun v H2 => v = .non ∧ Q (.ref x) H2) E) : tMake C sp dvs E t σ H Q := h
theorem i_eqP {x y : V} {d e : PyData} (h1 : Dt S H d x) (h2 : Dt T H e y) (dp : d.depth ≤ 60 ∨ e.depth ≤ 60) (q : Q (.bl (PyData.eqv d e)) H) : rEqP K x y H Q := ⟨d, e, Dt.dp d x h1, Dt.dp e y h2, Dt.plain d x h1, Dt.plain e y h2, dp, q⟩
theorem i_neP {x y : V} {d e : PyData} (h1 : Dt S H d x) (h2 : Dt T H e y) (dp : d.depth ≤ 60 ∨ e.depth ≤ 60) (q : Q (.bl (!PyData.eqv d e)) H) : rNeP K x y H Q := ⟨d, e, Dt.dp d x h1, Dt.dp e y h2, Dt.plain d x h1, Dt.plain e y h2, dp, q⟩
theorem dt_list {p : Addr} {ds : List PyData} {xs : List V} (h : H p = some (.lst xs)) (z : DtAll S H ds xs) (n : p ∉ S) : Dt S H (.list ds) (.ref p) := by
  unfold Dt; exact ⟨p, xs, rfl, n, h, z⟩
theorem dt_tup {p : Addr} {ds : List PyData} {xs : List V} (h : H p = some (.tup xs)) (z : DtAll S H ds xs) (n : p ∉ S) : Dt S H (.tuple ds) (.ref p) := by
  unfold Dt; exact ⟨p, xs, rfl, n, h, z⟩
theorem dt_strs {p : Addr} {l : List Str} (h : H p = some (.lst (l.map V.str))) : Dt [] H (.list (l.map .str)) (.ref p) := dt_list h (DtAll.strs l) (by simp)
theorem dt_nil {p : Addr} (h : H p = some (.lst [])) : Dt [] H (.list []) (.ref p) := dt_list h DtAll.nil (by simp)
theorem dt_s {x : Str} : Dt S H (.str x) (.str x) := by unfold Dt; rfl
theorem dt_i {x : Int} : Dt S H (.int x) (.int x) := by unfold Dt; rfl
theorem dt_n : Dt S H .none .non := by unfold Dt; rfl
theorem dt_b {x : Bool} : Dt S H (.bool x) (.bl x) := by unfold Dt; rfl
theorem depth_strs : ∀ (l : List Str), PyData.depthAll (l.map .str) = 0
  | [] => rfl
  | x :: r => by show max 0 _ = 0; rw [depth_strs r]; rfl
theorem eqvAll_strs : ∀ (l m : List Str), PyData.eqvAll (l.map .str) (m.map .str) = decide (l = m)
  | [], [] => rfl
  | [], _ :: _ => rfl
  | _ :: _, [] => rfl
  | x :: l, y :: m => by
    have e1 : PyData.eqv (.str x) (.str y) = (x == y) := rfl
    show (PyData.eqv (.str x) (.str y) && PyData.eqvAll (l.map .str) (m.map .str)) = _
    rw [eqvAll_strs l m, e1]
    by_cases h : x = y <;> by_cases h' : l = m <;> simp [h, h']
theorem eqv_strs (l m : List Str) : PyData.eqv (.list (l.map .str)) (.list (m.map .str)) = decide (l = m) := eqvAll_strs l m
end
end Lr
set_option Elab.async false
set_option linter.all false
set_option maxRecDepth 100000
set_option maxHeartbeats 4000000
namespace Lr
open PySem PySem.Spec
      PyProof.Rows L2
local macro_rules | `(tactic| walk_at "ne") => `(tactic| (first | assumption | (refine ne_sym ?_; assumption) | (exact ne_of_none (by assumption) (by assumption)) | (exact ne_sym (ne_of_none (by assumption) (by assumption)))))
local macro_rules | `(tactic| walk_at "h") => `(tactic| (first | assumption | exact upd_same | (refine h_new ?_ (by assumption); walk_at "h") | (refine h_ne (by walk_at "ne") ?_; walk_at "h")))
local macro_rules | `(tactic| walk_at "v1") => `(tactic| (with_reducible first
  | refine i_seq ?_ | refine i_asg ?_ | refine i_ret ?_ | refine i_next ?_ | refine i_drop ?_ | refine i_ifS ?_ | refine i_if ?_ | refine i_and ?_ | refine i_or ?_ | refine i_not ?_ | refine i_test ?_ | refine i_tB ?_ | refine i_bl ?_ | refine i_yes ?_
  | refine i_op ?_ | refine i_un ?_ | refine i_chain ?_ | refine i_andV ?_ | refine i_orV ?_ | refine i_notV ?_ | refine i_cb ?_ | refine i_cons ?_ | refine i_nil ?_ | refine i_bm ?_ | refine i_bm0 ?_ | refine i_c ?_ | refine i_name ?_ | refine i_sub ?_
  | refine i_call ?_ | refine i_lst ?_ | refine i_tup ?_ | refine i_par ?_ | refine i_par2 ?_ | refine i_sl ?_ | refine i_np ?_ | refine i_pt ?_ | refine i_int ?_ | refine i_m0 ?_ | refine i_m1 ?_ | refine i_isS ?_
  | refine i_rI0 ?_ | refine i_inSign ?_ | refine i_notInSign ?_ | refine i_int1 ?_ | refine i_tru ?_ | refine i_isN ?_ | refine i_notN ?_ | refine iteT ?_ | refine iteF ?_ | refine i_brk ?_ | refine i_rt ?_ | refine i_nx ?_ | refine i_bk ?_ | refine i_ct ?_ | refine i_for ?_ | refine i_lc ?_ | refine i_dc ?_ | refine i_iL ?_ | refine i_iT ?_ | refine i_iR1 ?_ | refine i_iR2 ?_ | refine i_iS ?_ | refine i_iE ?_ | refine i_iEK ?_ | refine i_iEQ ?_ | refine i_iZS ?_ | refine i_dget ?_ | refine i_fld ?_ | refine i_sfld ?_ | refine i_dput ?_ | refine i_meth ?_ | refine i_rU ?_ | refine i_cont ?_ | refine i_make ?_))
local macro_rules | `(tactic| walk_at "v2") => `(tactic| (first
  | ((with_reducible refine' i_var ?k1 ?_); (case k1 => exact rfl))
  | ((with_reducible refine' i_eq ?k1 ?_); (case k1 => exact rfl))
  | ((with_reducible refine' i_ne ?k1 ?_); (case k1 => exact rfl))
  | ((with_reducible refine' i_ixL ?k1 ?k2 ?_); (case k1 => walk_at "h"); (case k2 => exact rfl))
  | ((with_reducible refine' i_ixT ?k1 ?k2 ?_); (case k1 => walk_at "h"); (case k2 => exact rfl))
  | ((with_reducible refine' i_lenL ?k1 ?_); (case k1 => walk_at "h"))
  | ((with_reducible refine' i_lenT ?k1 ?_); (case k1 => walk_at "h"))
  | (refine i_wipe (show wipe _ _ = wipe _ _ from rfl) ?_)
  | ((with_reducible refine' i_setL ?k1 ?k2 ?_); (case k1 => walk_at "h"); (case k2 => exact rfl))
  | ((with_reducible refine' i_tyl ?k1 ?_); (case k1 => walk_at "h"))))
local macro_rules | `(tactic| walk_at "v") => `(tactic| repeat (first | walk_at "v1" | walk_at "v2"))

variable {P : Program} {w : World} {K :
      PySem.W.Frag} {mg : Str → Option Value} {base : Heap}
abbrev s_law_same : Stmt := top 44
abbrev N_law_same : List Str := ["found", "due", "x", "y"]
abbrev P_law_same : List Str := ["found", "due"]
theorem sc_law_same : FnScope N_law_same P_law_same (defScope s_law_same) := ⟨rfl, rfl, rfl, by decide +kernel, rfl, by decide +kernel, by decide +kernel⟩
/-- at most k - 1 deep, no row beyond a thousand -/
def Fit : Nat → PyData → Prop
  | 0, _ => False
  | _ + 1, .none => True
  | _ + 1, .bool _ => True
  | _ + 1, .int _ => True
  | _ + 1, .str _ => True
  | k + 1, .list ds => ds.length ≤ 1000 ∧ ∀ d ∈ ds, Fit k d
  | k + 1, .tuple ds => ds.length ≤ 1000 ∧ ∀ d ∈ ds, Fit k d
  | _ + 1, .dict _ => False
theorem w_zipv {K : PySem.W.Frag} {σ : L2.St} {H : Hp} {R : It → Hp → Prop} {i j : Nat} {a b : Addr} {o1 o2 : HO} {xs ys : List V} (e1 : σ[i]? = some (some (.ref a))) (e2 : σ[j]? = some (some (.ref b)))
    (ho : (o1 = .lst xs ∧ o2 = .lst ys) ∨ (o1 = .tup xs ∧ o2 = .tup ys)) (hn : xs.length = ys.length) (h1 : H a = some o1) (h2 : H b = some o2)
    (f : ∀ J, Walk J xs.length (fun H => H a = some o1 ∧ H b = some o2) (YPair (fun i => xs[i]?) (fun i => ys[i]?)) → R J H) : RZ.iZipA K (tCons (tVar i) (tCons (tVar j) tNil)) σ H R := by
  refine ⟨_, e1, _, e2, a, b, xs, ys, rfl, ?_⟩
  rcases ho with ⟨rfl, rfl⟩ | ⟨rfl, rfl⟩
  · exact .inl ⟨SqL.of h1, SqL.of h2, f _ ((walk_zip (by omega)).mono (fun _ z => ⟨SqL.of z.1, SqL.of z.2⟩) fun _ _ _ _ _ _ y => y)⟩
  · refine .inr ⟨SqT.of h1, SqT.of h2, f _ ⟨fun i H hi q => ?_, fun H q => ⟨xs, ys, SqT.of q.1, SqT.of q.2, by omega⟩, fun i H v H' _ q y => ?_⟩⟩
    · exact ⟨xs, ys, xs[i], ys[i]'(by omega), SqT.of q.1, SqT.of q.2, by simp [hi], by simp [show i < ys.length by omega]⟩
    · obtain ⟨T, x, z, h1,
          h2, h3, h4, h5⟩ := y
      exact ⟨T, x, z, h1, h2, h3, h4 xs (SqT.of q.1), h5 ys (SqT.of q.2)⟩
/-- both as they stand -/
theorem Dt.rows {S T : List Addr} {H : Hp} {d : PyData} {u v : V} (h1 : Dt S H d u) (h2 : Dt T H d v) (hs : (isK "list" d || isK "tuple" d) = true) :
    ∃ (p q : Addr) (o1 o2 : HO) (xs ys : List V), ((o1 = .lst xs ∧ o2 = .lst ys) ∨ (o1 = .tup xs ∧ o2 = .tup ys)) ∧ u = .ref p ∧ v = .ref q ∧ H p = some o1 ∧ H q = some o2 ∧ DtAll S H (kids d) xs ∧ DtAll T H (kids d) ys := by
  cases d with
  | list ds =>
    unfold Dt at h1 h2
    obtain ⟨a, xs, rfl, _, q, z⟩ := h1
    obtain ⟨b, ys, rfl, _, q', z'⟩ := h2
    exact ⟨a, b, _, _, xs, ys, .inl ⟨rfl, rfl⟩, rfl, rfl, q, q', z, z'⟩
  | tuple ds =>
    unfold Dt at h1 h2
    obtain ⟨a, xs, rfl, _, q, z⟩ := h1
    obtain ⟨b, ys, rfl, _, q', z'⟩ := h2
    exact ⟨a, b, _, _, xs, ys, .inr ⟨rfl, rfl⟩, rfl, rfl, q, q', z, z'⟩
  | _ => simp [isK, ptype] at hs
theorem Fit.kids {k : Nat} {d : PyData} (h : Fit (k + 1) d) (hs : (isK "list" d || isK "tuple" d) = true) : (kids d).length ≤ 1000 ∧ ∀ z ∈ kids d, Fit k z := by
  cases d with
  | list ds => exact h
  | tuple ds => exact h
  | _ => simp [isK, ptype] at hs
theorem Dt.same {S : List Addr} {H H' : Hp} {d : PyData} {v : V} (h : Dt S H d v) (k : Same H H') : Dt S H' d v := Dt.keep (Keep.of_same k) _ _ h
def spSame (k : Nat) : Sp := fun vs H Q _ => ∃ (S T : List Addr) (d : PyData) (u v : V), vs = [u, v] ∧ Dt S H d u ∧ Dt T H d v ∧ Fit k d ∧ ∀ H', Same H H' → Q (.bl true) H'
theorem ok_same (d_law_same : Fd K mg "_law_same" s_law_same P_law_same) (B : Blt mg) : ∀ k, FnOk P w K mg base CX0 k d_law_same.f d_law_same.fd P_law_same (spSame k) := by
  intro k
  induction k with
  | zero => exact ⟨fun vs H Q E ⟨S, T, d, u, v, _, _, _, f, _⟩ => f.elim, fun A outer s H args us vs Q E hr he hb hv ⟨S, T, d, u, v, _, _, _, f, _⟩ => f.elim⟩
  | succ k ih =>
  have G_law_same := ih
  refine d_law_same.F.ok sc_law_same (fun vs H Q E h => ?_) (fun cdv A outer s H vs Q E hr h => ?_)
  · obtain ⟨S, T, d, u, v, rfl, _⟩ := h
    rfl
  · obtain ⟨S, T, d, u, v, rfl, h1, h2, ft, k'⟩ := h
    refine ⟨_, (pss_cons (ps_if (pt_val (pe_callB (c_isiT K) (by rfl) B.isinstance (by decide +kernel) (pa_cons (pv 1) (pa_cons (pe_tup (pa_cons (e_ty "list" B.list (by decide +kernel)) (pa_cons (e_ty "tuple" B.tuple (by decide +kernel)) pa_nil))) pa_nil)))) (pss_cons (ps_if (PW.pt (pw_or (pt_cmpR op_ne (pe_callB (c_isi K) (by rfl) B.isinstance (by decide +kernel) (pa_cons (pv 0) (pa_cons (e_ty "list" B.list (by decide +kernel)) pa_nil))) (pe_callB (c_isi K) (by rfl) B.isinstance (by decide +kernel) (pa_cons (pv 1) (pa_cons (e_ty "list" B.list (by decide +kernel)) pa_nil))) (nomark _)) (pw_or1 (pt_cmpR op_ne (pe_callB (c_isi K) (by rfl) B.isinstance (by decide +kernel) (pa_cons (pv 0) (pa_cons (e_ty "tuple" B.tuple (by decide +kernel)) pa_nil))) (pe_callB (c_isi K) (by rfl) B.isinstance (by decide +kernel) (pa_cons (pv 1) (pa_cons (e_ty "tuple" B.tuple (by decide +kernel)) pa_nil))) (nomark _))))) (pss_one (ps_ret pe_bl)) pss_nil)
      (pss_one (ps_ret (pe_and (pe_cmpR op_eq (pe_callB (c_len K) (by rfl) B.len (by decide +kernel) (pa_cons (pv 0) pa_nil)) (pe_callB (c_len K) (by rfl) B.len (by decide +kernel) (pa_cons (pv 1) pa_nil)) (nomark _)) (pe_one (pe_callB (c_all K rfl) (by rfl) B.all (by decide +kernel) (pa_cons (pe_lc (own := [("x", 2), ("y", 3)]) (g := _) (tt := tYes) rfl sc_law_same.nd (w_zip K (by rfl) B.zip (pa_cons (pv 0) (pa_cons (pv 1) pa_nil))) (blkOk_by (own := [("x", 2), ("y", 3)]) (N := N_law_same) (sc := defScope s_law_same) (by decide +kernel)) (fun _ _ _ _ _ => by exact (g_tup K (n := 2) rfl (pgs_cons (pg_name (i := 2) sc_law_same.nd rfl (by first | exact Or.inl rfl | exact Or.inr rfl)) (pgs_cons (pg_name (i := 3) sc_law_same.nd rfl (by first | exact Or.inl rfl | exact Or.inr rfl)) pgs_nil)))) (fun _ _ _ _ _ => pts_nil) (fun _ _ _ _ _ => by exact (pe_call G_law_same (hr.mono (by omega)) (by rfl) d_law_same.g d_law_same.F.kp d_law_same.b .nil pass0 (pa_cons (pv 2) (pa_cons (pv 3) pa_nil))))) pa_nil))))))) pss_nil)
      (pss_cons (ps_if (pt_val (pe_callB (c_isi K) (by rfl) B.isinstance (by decide +kernel) (pa_cons (pv 1) (pa_cons (e_ty "dict" B.dict (by decide +kernel)) pa_nil)))) (pss_one ps_never) pss_nil)
      (pss_cons (ps_if (pt_val (pe_callB (c_isi K) (by rfl) B.isinstance (by decide +kernel) (pa_cons (pv 1) (pa_cons (e_ty "int" B.int (by decide +kernel)) pa_nil)))) (pss_one (ps_ret (pe_and (pe_callB (c_isi K) (by rfl) B.isinstance (by decide +kernel) (pa_cons (pv 0) (pa_cons (e_ty "int" B.int (by decide +kernel)) pa_nil))) (pe_and (pe_cmpR op_eq (pe_callB (c_isi K) (by rfl) B.isinstance (by decide +kernel) (pa_cons (pv 0) (pa_cons (e_ty "bool" B.bool (by decide +kernel)) pa_nil))) (pe_callB (c_isi K) (by rfl) B.isinstance (by decide +kernel) (pa_cons (pv 1) (pa_cons (e_ty "bool" B.bool (by decide +kernel)) pa_nil))) (nomark _)) (pe_one (pe_cmpR op_eq (pv 0) (pv 1) (nomark _))))))) pss_nil)
      (pss_cons (ps_if (pt_cmpR o_isN (pv 1) pe_non (nomark _)) (pss_one (ps_ret (pe_cmpR o_isN (pv 0) pe_non (nomark _)))) pss_nil)
      (pss_cons (ps_if (pt_val (pe_callB (c_isi K) (by rfl) B.isinstance (by decide +kernel) (pa_cons (pv 1) (pa_cons (e_ty "str" B.str (by decide +kernel)) pa_nil)))) (pss_one (ps_ret (pe_and (pe_callB (c_isi K) (by rfl) B.isinstance (by decide +kernel) (pa_cons (pv 0) (pa_cons (e_ty "str" B.str (by decide +kernel)) pa_nil))) (pe_one (pe_cmpR op_eq (pv 0) (pv 1) (nomark _)))))) pss_nil)
      (pss_one ps_never)))))), ?_⟩
    walk_at "v"
    refine ⟨show 2 ≤ sizeLine by decide, fun tp htp => ?_⟩
    have s1 : Same H (upd H tp (.tup [.ty "list", .ty "tuple"])) := (Same.refl H).new htp
    walk_at "v"
    refine i_isLT (h2.same s1) upd_same ?_
    obtain ⟨H1, e1⟩ : ∃ H1, H1 = upd H tp (.tup [.ty "list", .ty "tuple"]) := ⟨_, rfl⟩
    rw [← e1] at s1 ⊢
    clear e1
    have h1' := h1.same s1
    have h2' := h2.same s1
    walk_at "v"
    cases hs : (isK "list" d || isK "tuple" d) with
    | true =>
      refine iteT ?_
      walk_at "v"
      refine i_isi h1' (by simp) ?_
      walk_at "v"
      refine i_isi h2' (by simp) ?_
      walk_at "v"
      refine ifn (fun n => absurd rfl n) (fun _ => ?_)
      walk_at "v"
      refine i_isi h1' (by simp) ?_
      walk_at "v"
      refine i_isi h2' (by simp) ?_
      walk_at "v"
      refine ifn (fun n => absurd rfl n) (fun _ => ?_)
      obtain ⟨p, q, o1, o2, xs, ys, ho, rfl, rfl, hp, hq, dx, dy⟩ := Dt.rows h1' h2' hs
      have lx := dx.length
      have ly := dy.length
      obtain ⟨l1000, fk⟩ := ft.kids hs
      walk_at "v"
      refine i_lenO (o := o1) (ho.imp (fun z => z.1) (fun z => z.1)) hp ?_
      walk_at "v"
      refine i_lenO (o := o2) (ho.imp (fun z => z.2) (fun z => z.2)) hq ?_
      walk_at "v"
      refine ifd (fun _ => ?_) (fun z => absurd (by rw [lx, ly]) z)
      walk_at "v"
      refine w_zipv rfl rfl ho (by rw [lx, ly]) hp hq (fun J wk => ?_)
      refine lc_by wk fun D hD => ⟨fun i H' => H' D = some (.lst ((List.replicate i true).map V.bl)) ∧ Same H1 H', ?_, fun i H' _ ⟨_, s⟩ => ⟨s _ _ hp, s _ _ hq⟩, ?_, ?_⟩
      · exact ⟨upd_same, (Same.refl H1).new hD⟩
      · rintro i x H2 H3 hi ⟨hD2, s2⟩ ⟨Z, y0, y, rfl, hZ, rfl, ex, ey⟩
        obtain ⟨d1, g1, z1⟩ := dx.get' ex
        obtain ⟨d2, g2, z2⟩ := dy.get' ey
        rw [g1] at g2
        cases g2
        refine g_two upd_same ?_
        walk_at "v"
        have s3 : Same H1 (upd H2 Z (.tup [y0, y])) := s2.new hZ
        refine ⟨S, T, d1, y0, y, rfl, z1.same s3, z2.same s3, fk _ (List.mem_of_getElem? g1), fun H4 s4 => ?_⟩
        have hD4 := s4 _ _ (h_new (o := .tup [y0, y]) hD2 hZ)
        refine ⟨_, hD4, by rw [List.length_map, List.length_replicate]; exact small1000 (by omega), ?_, (s3.trans s4).put hD⟩
        rw [List.replicate_succ', List.map_append]
        exact upd_same
      · rintro H2 ⟨hD2, s2⟩
        walk_at "v"
        refine ⟨D, _, rfl, SqL.of hD2, ?_⟩
        have e : (List.replicate xs.length true).all id = true := by simp
        rw [e]
        walk_at "v"
        exact k' _ (s1.trans s2)
    | false =>
      refine iteF ?_
      walk_at "v"
      refine i_isi h2' (by simp) ?_
      walk_at "v"
      cases d with
      | none =>
        unfold Dt at h1' h2'
        subst h1' h2'
        refine iteF ?_
        walk_at "v"
        refine i_isi (d := .none) (S := []) dt_n (by simp) ?_
        walk_at "v"
        refine iteF ?_
        walk_at "v"
        refine iteT ?_
        walk_at "v"
        exact k' _ s1
      | bool b =>
        unfold Dt at h1' h2'
        subst h1' h2'
        refine iteF ?_
        walk_at "v"
        refine i_isi (d := .bool b) (S := []) dt_b (by simp) ?_
        walk_at "v"
        refine iteT ?_
        walk_at "v"
        refine i_isi (d := .bool b) (S := []) dt_b (by simp) ?_
        walk_at "v"
        refine iteT ?_
        walk_at "v"
        refine i_isi (d := .bool b) (S := []) dt_b (by simp) ?_
        walk_at "v"
        refine i_isi (d := .bool b) (S := []) dt_b (by simp) ?_
        walk_at "v"
        refine ifd (fun _ => ?_) (fun z => absurd rfl z)
        walk_at "v"
        rw [decide_eq_true (rfl : V.bl b = V.bl b)]
        exact k' _ s1
      | int b =>
        unfold Dt at h1' h2'
        subst h1' h2'
        refine iteF ?_
        walk_at "v"
        refine i_isi (d := .int b) (S := []) dt_i (by simp) ?_
        walk_at "v"
        refine iteT ?_
        walk_at "v"
        refine i_isi (d := .int b) (S := []) dt_i (by simp) ?_
        walk_at "v"
        refine iteT ?_
        walk_at "v"
        refine i_isi (d := .int b) (S := []) dt_i (by simp) ?_
        walk_at "v"
        refine i_isi (d := .int b) (S := []) dt_i (by simp) ?_
        walk_at "v"
        refine ifd (fun _ => ?_) (fun z => absurd rfl z)
        walk_at "v"
        rw [decide_eq_true (rfl : V.int b = V.int b)]
        exact k' _ s1
      | str b =>
        unfold Dt at h1' h2'
        subst h1' h2'
        refine iteF ?_
        walk_at "v"
        refine i_isi (d := .str b) (S := []) dt_s (by simp) ?_
        walk_at "v"
        refine iteF ?_
        walk_at "v"
        refine iteF ?_
        walk_at "v"
        refine i_isi (d := .str b) (S := []) dt_s (by simp) ?_
        walk_at "v"
        refine iteT ?_
        walk_at "v"
        refine i_isi (d := .str b) (S := []) dt_s (by simp) ?_
        walk_at "v"
        refine iteT ?_
        walk_at "v"
        rw [decide_eq_true (rfl : V.str b = V.str b)]
        exact k' _ s1
      | list ds => simp [isK, ptype] at hs
      | tuple ds => simp [isK, ptype] at hs
      | dict kv => exact ft.elim
end Lr
set_option Elab.async false
set_option linter.all false
set_option maxRecDepth 100000
set_option maxHeartbeats 4000000
namespace Lr
open PySem PySem.Spec
      PyProof.Rows L2
local macro_rules | `(tactic| walk_at "ne") => `(tactic| (first | assumption | (refine ne_sym ?_; assumption) | (exact ne_of_none (by assumption) (by assumption)) | (exact ne_sym (ne_of_none (by assumption) (by assumption)))))
local macro_rules | `(tactic| walk_at "h") => `(tactic| (first | assumption | exact upd_same | (refine h_new ?_ (by assumption); walk_at "h") | (refine h_ne (by walk_at "ne") ?_; walk_at "h")))
local macro_rules | `(tactic| walk_at "v1") => `(tactic| (with_reducible first
  | refine i_seq ?_ | refine i_asg ?_ | refine i_ret ?_ | refine i_next ?_ | refine i_drop ?_ | refine i_ifS ?_ | refine i_if ?_ | refine i_and ?_ | refine i_or ?_ | refine i_not ?_ | refine i_test ?_ | refine i_tB ?_ | refine i_bl ?_ | refine i_yes ?_
  | refine i_op ?_ | refine i_un ?_ | refine i_chain ?_ | refine i_andV ?_ | refine i_orV ?_ | refine i_notV ?_ | refine i_cb ?_ | refine i_cons ?_ | refine i_nil ?_ | refine i_bm ?_ | refine i_bm0 ?_ | refine i_c ?_ | refine i_name ?_ | refine i_sub ?_
  | refine i_call ?_ | refine i_lst ?_ | refine i_tup ?_ | refine i_par ?_ | refine i_par2 ?_ | refine i_sl ?_ | refine i_np ?_ | refine i_pt ?_ | refine i_int ?_ | refine i_m0 ?_ | refine i_m1 ?_ | refine i_isS ?_
  | refine i_rI0 ?_ | refine i_inSign ?_ | refine i_notInSign ?_ | refine i_int1 ?_ | refine i_tru ?_ | refine i_isN ?_ | refine i_notN ?_ | refine iteT ?_ | refine iteF ?_ | refine i_brk ?_ | refine i_rt ?_ | refine i_nx ?_ | refine i_bk ?_ | refine i_ct ?_ | refine i_for ?_ | refine i_lc ?_ | refine i_dc ?_ | refine i_iL ?_ | refine i_iT ?_ | refine i_iR1 ?_ | refine i_iR2 ?_ | refine i_iS ?_ | refine i_iE ?_ | refine i_iEK ?_ | refine i_iEQ ?_ | refine i_iZS ?_ | refine i_dget ?_ | refine i_fld ?_ | refine i_sfld ?_ | refine i_dput ?_ | refine i_meth ?_ | refine i_rU ?_ | refine i_cont ?_ | refine i_make ?_))
local macro_rules | `(tactic| walk_at "v2") => `(tactic| (first
  | ((with_reducible refine' i_var ?k1 ?_); (case k1 => exact rfl))
  | ((with_reducible refine' i_eq ?k1 ?_); (case k1 => exact rfl))
  | ((with_reducible refine' i_ne ?k1 ?_); (case k1 => exact rfl))
  | ((with_reducible refine' i_ixL ?k1 ?k2 ?_); (case k1 => walk_at "h"); (case k2 => exact rfl))
  | ((with_reducible refine' i_ixT ?k1 ?k2 ?_); (case k1 => walk_at "h"); (case k2 => exact rfl))
  | ((with_reducible refine' i_lenL ?k1 ?_); (case k1 => walk_at "h"))
  | ((with_reducible refine' i_lenT ?k1 ?_); (case k1 => walk_at "h"))
  | (refine i_wipe (show wipe _ _ = wipe _ _ from rfl) ?_)
  | ((with_reducible refine' i_setL ?k1 ?k2 ?_); (case k1 => walk_at "h"); (case k2 => exact rfl))
  | ((with_reducible refine' i_tyl ?k1 ?_); (case k1 => walk_at "h"))))
local macro_rules | `(tactic| walk_at "v") => `(tactic| repeat (first | walk_at "v1" | walk_at "v2"))

variable {P : Program} {w : World} {K :
      PySem.W.Frag} {mg : Str → Option Value} {base : Heap}
abbrev s_law_loose : Stmt := top 45
abbrev N_law_loose : List Str := ["stream", "thing", "found", "part", "key"]
abbrev P_law_loose : List Str := ["stream", "thing"]
theorem sc_law_loose : FnScope N_law_loose P_law_loose (defScope s_law_loose) := ⟨rfl, rfl, rfl, by decide +kernel, rfl, by decide +kernel, by decide +kernel⟩
/-- neither a list nor a tuple: it stands in no heap -/
theorem Dt.flat {S T : List Addr} {H H' : Hp} {d : PyData} {v : V} (h : Dt S H d v) (hs : (isK "list" d || isK "tuple" d) = false) : Dt T H' d v := by
  cases d <;> simp [isK, ptype] at hs <;> (unfold Dt at *; exact h)
mutual
def un : PyData → PyData
  | .list ds => .list (unAll ds)
  | .tuple ds => .list (unAll ds)
  | .none => .none
  | .bool b => .bool b
  | .int i => .int i
  | .str x => .str x
  | .dict z => .dict z
def unAll : List PyData → List PyData
  | [] => []
  | d :: ds => un d :: unAll ds
end
mutual
def nod : PyData → Nat
  | .list ds => nodAll ds + 1
  | .tuple ds => nodAll ds + 1
  | .none => 0
  | .bool _ => 0
  | .int _ => 0
  | .str _ => 0
  | .dict _ => 0
def nodAll : List PyData → Nat
  | [] => 0
  | d :: ds => nod d + nodAll ds
end
theorem unAll_app : ∀ (a b : List PyData), unAll (a ++ b) = unAll a ++ unAll b
  | [], b => by simp [unAll]
  | x :: a, b => by simp [unAll, unAll_app a b]
theorem nodAll_app : ∀ (a b : List PyData), nodAll (a ++ b) = nodAll a + nodAll b
  | [], b => by simp [nodAll]
  | x :: a, b => by simp [nodAll, nodAll_app a b, Nat.add_assoc]
theorem nodAll_take (l : List PyData) (i : Nat) : nodAll (l.take i) ≤ nodAll l := by
  have := nodAll_app (l.take i) (l.drop i)
  rw [List.take_append_drop] at this
  omega
theorem unAll_len : ∀ (a : List PyData), (unAll a).length = a.length
  | [] => rfl
  | x :: a => by simp [unAll, unAll_len a]
theorem un_row {d : PyData} (hs : (isK "list" d || isK "tuple" d) = true) : un d = .list (unAll (kids d)) ∧ nod d = nodAll (kids d) + 1 := by
  cases d with
  | list ds => exact ⟨by simp [un, kids], by simp [nod, kids]⟩
  | tuple ds => exact ⟨by simp [un, kids], by simp [nod, kids]⟩
  | _ => simp [isK, ptype] at hs
theorem of_kids {d : PyData} (hs : (isK "list" d || isK "tuple" d) = true) : (isK "list" d = true ∧ d = .list (kids d)) ∨ (isK "list" d = false ∧ d = .tuple (kids d)) := by
  cases d with
  | list ds => exact .inl ⟨rfl, rfl⟩
  | tuple ds => exact .inr ⟨rfl, rfl⟩
  | _ => simp [isK, ptype] at hs
theorem isDict {S : List Addr} {H : Hp} {d : PyData} {v : V} (h : Dt S H d v) : isK "dict" d = false := by
  cases d <;> first | rfl | (unfold Dt at h; exact h.elim)
theorem Acc.tuple {M : List Addr} {H0 H' : Hp} {D p : Addr} {ds : List PyData} {acc : List V} (a : Acc M H0 H' D ds) (e : H' D = some (.lst acc)) (h : H' p = none) : NewM M H0 (upd H' p (.tup acc)) (.tuple ds) (.ref p) := by
  obtain ⟨acc', e', l, z⟩ := a.ex
  rw [e] at e'; cases e'
  exact NewM.tup a.kp h fun S t m => DtAll.mono (fun x hx => List.mem_cons_of_mem _ hx) _ _ (z S t m)
def spCopied (k : Nat) : Sp := fun vs H Q _ => ∃ (S : List Addr) (d : PyData) (v : V), vs = [v] ∧ Dt S H d v ∧ Fit k d ∧ ∀ v' H', New H H' d v' → Same H H' → Q v' H'
theorem trk_nil {H : Hp} : Trk [] H := fun _ h => nomatch h
def spLoose (a b : Addr) (k : Nat) : Sp := fun vs H Q _ => ∃ (n : Nat) (d : PyData) (v : V), vs = [.ref a, v] ∧ Dt [a, b] H d v ∧ Fit k d ∧ StreamAt a b n H ∧ n + nod d < 2 ^ 39 ∧
  ∀ d' v' H', un d' = un d → NewM [a, b] H H' d' v' → StreamAt a b (n + nod d) H' → Keep [a, b] H H' → Q v' H'
theorem ok_loose {a b : Addr} (d_law_loose : Fd K mg "_law_loose" s_law_loose P_law_loose) (d_law_below : FdB K mg) (B : Blt mg) : ∀ k, FnOk P w K mg base CX0 (k + 1) d_law_loose.f d_law_loose.fd P_law_loose (spLoose a b k) := by
  have G_law_below : FnOk P w K mg base CX0 1 d_law_below.f d_law_below.fd P_law_below (spBelow a b) := ok_below d_law_below B
  intro k
  induction k with
  | zero => exact ⟨fun vs H Q E ⟨n, d, v, _, _, f, _⟩ => f.elim, fun A outer s H args us vs Q E hr he hb hv ⟨n, d, v, _, _, f, _⟩ => f.elim⟩
  | succ k ih =>
  have G_law_loose := ih
  refine d_law_loose.F.ok sc_law_loose (fun vs H Q E h => ?_) (fun cdv A outer s H vs Q E hr h => ?_)
  · obtain ⟨n, d, v, rfl, _⟩ := h
    rfl
  · obtain ⟨n, d, v, rfl, h1, ft, hS, hn, k'⟩ := h
    refine ⟨_, (pss_cons (ps_if (pt_val (pe_callB (c_isi K) (by rfl) B.isinstance (by decide +kernel) (pa_cons (pv 1) (pa_cons (e_ty "dict" B.dict (by decide +kernel)) pa_nil)))) (pss_one ps_never) pss_nil)
      (pss_cons (ps_if (pt_not (pt_val (pe_callB (c_isiT K) (by rfl) B.isinstance (by decide +kernel) (pa_cons (pv 1) (pa_cons (pe_tup (pa_cons (e_ty "list" B.list (by decide +kernel)) (pa_cons (e_ty "tuple" B.tuple (by decide +kernel)) pa_nil))) pa_nil))))) (pss_one (ps_ret (pv 1))) pss_nil)
      (pss_cons (ps_setLc (i := 2) (own := [("part", 3)]) (g := gName 3) (tt := tYes) rfl sc_law_loose.nd rfl rfl (sw_true rfl rfl rfl (by decide +kernel)) (w_seq K (pv 1)) (blkOk_by (own := [("part", 3)]) (N := N_law_loose) (sc := defScope s_law_loose) (by decide +kernel)) (fun _ _ _ _ _ => by exact (pg_name (i := 3) sc_law_loose.nd rfl (by first | exact Or.inl rfl | exact Or.inr rfl))) (fun _ _ _ _ _ => pts_nil) (fun _ _ _ _ _ => by exact (pe_call G_law_loose (hr.mono (by omega)) (by rfl) d_law_loose.g d_law_loose.F.kp d_law_loose.b .nil pass0 (pa_cons (pv 0) (pa_cons (pv 3) pa_nil)))))
      (pss_one (ps_ret (pe_ifExp (pt_cmpR op_eq (pe_call G_law_below (hr.mono (by omega)) (by rfl) d_law_below.g d_law_below.F.kp d_law_below.b .nil pass0 (pa_cons (pv 0) (pa_cons pe_int pa_nil))) pe_int (nomark _)) (pv 2) (pe_callTy (c_tuple K) (by rfl) B.tuple (by decide +kernel) (pa_cons (pv 2) pa_nil)))))))), ?_⟩
    walk_at "v"
    refine i_isi h1 (by simp) ?_
    walk_at "v"
    rw [isDict h1]
    refine iteF ?_
    walk_at "v"
    refine ⟨show 2 ≤ sizeLine by decide, fun tp htp => ?_⟩
    have s1 : Same H (upd H tp (.tup [.ty "list", .ty "tuple"])) := (Same.refl H).new htp
    walk_at "v"
    refine i_isLT (h1.same s1) upd_same ?_
    obtain ⟨H1, e1⟩ : ∃ H1, H1 = upd H tp (.tup [.ty "list", .ty "tuple"]) := ⟨_, rfl⟩
    rw [← e1] at s1 ⊢
    clear e1
    have h1' := h1.same s1
    have hS1 := hS.same s1
    walk_at "v"
    cases hs : (isK "list" d || isK "tuple" d) with
    | false =>
      refine iteT ?_
      walk_at "v"
      exact k' d _ _ rfl (fun S' _ _ => h1.flat hs) (hS1.mono (Nat.le_add_right _ _)) (Keep.of_same s1)
    | true =>
      refine iteF ?_
      obtain ⟨p, o, xs, ho, rfl, hp, np, dx⟩ := h1'.row hs
      have lx := dx.length
      obtain ⟨l1000, fk⟩ := ft.kids hs
      obtain ⟨eu, en⟩ := un_row hs
      walk_at "v"
      refine w_sqv rfl ho hp (fun J wk => ?_)
      refine lc_by wk fun D hD => ⟨fun i H' => ∃ ds, unAll ds = unAll ((kids d).take i) ∧ Acc [a, b] H1 H' D ds ∧ Keep [a, b] H1 H' ∧ StreamAt a b (n + nodAll ((kids d).take i)) H', ?_, fun i H' _ ⟨_, _, _, s, _⟩ => s _ _ np hp, ?_, ?_⟩
      · exact ⟨[], rfl, Acc.start (Keep.refl _ _) hD, (Keep.refl _ _).new hD, by simpa [nodAll] using hS1.new hD⟩
      · rintro i x H2 H3 hi ⟨ds, e2, ac, s2, st2⟩ ⟨rfl, ex⟩
        obtain ⟨d1, g1, z1⟩ := dx.get' ex
        have et : (kids d).take (i + 1) = (kids d).take i ++ [d1] := by rw [List.take_succ, g1]; rfl
        have e3 := nodAll_take (kids d) (i + 1)
        have e4 : nodAll ((kids d).take (i + 1)) = nodAll ((kids d).take i) + nod d1 := by rw [et, nodAll_app]; simp [nodAll]
        walk_at "v"
        refine ⟨n + nodAll ((kids d).take i), d1, x, rfl, Dt.keep s2 _ _ z1, fk _ (List.mem_of_getElem? g1), st2, by omega, fun d' v' H4 eu' nv st4 s4 => ?_⟩
        obtain ⟨acc, ea, la, _⟩ := id ac.ex
        obtain ⟨e5, ac4⟩ := ac.step hS1.trk ea nv s4
        have hDab := hS1.na hD
        refine ⟨acc, e5, ?_, ds ++ [d'], ?_, ac4, (s2.trans s4).new' hD, (st4.put hDab.1 hDab.2).mono (by omega)⟩
        · have e6 := unAll_len ds
          rw [e2, unAll_len, List.length_take] at e6
          rw [la]; exact small1000 (by omega)
        · rw [et, unAll_app, unAll_app, e2]; simp [unAll, eu']
      · rintro H2 ⟨ds, e2, ac, s2, st2⟩
        rw [lx, List.take_length] at e2 st2
        obtain ⟨acc, ea, la, _⟩ := id ac.ex
        have nD := hS1.nm hD
        walk_at "v"
        refine ⟨n + nodAll (kids d), 2, rfl, by decide, by decide, st2, by omega, fun m H3 m0 m1 st3 kp3 => ?_⟩
        have ac3 := ac.skip hS1.trk kp3
        have ea3 := kp3 _ _ nD ea
        have post : ∀ d' v' H', un d' = un d → NewM [a, b] H1 H' d' v' → StreamAt a b (n + nodAll (kids d) + 1) H' → Keep [a, b] H1 H' → Q v' H' := fun d' v' H' e n' st s => k' d' v' H' e (fun S' t m => n' S' (t.same s1) m) (st.mono (by omega)) ((Keep.of_same s1).trans s)
        walk_at "v"
        refine ifd (fun _ => ?_) (fun _ => ?_)
        · walk_at "v"
          exact post (.list ds) _ _ (by rw [eu, un, e2]) ac3.done st3 (s2.trans kp3)
        · walk_at "v"
          refine i_tupleL ea3 (fun t ht => ?_)
          walk_at "v"
          exact post (.tuple ds) _ _ (by rw [eu, un, e2]) (ac3.tuple ea3 ht) (st3.new ht) ((s2.trans kp3).new ht)
end Lr
set_option Elab.async false
set_option linter.all false
set_option maxRecDepth 100000
set_option maxHeartbeats 4000000
/-! Tx: rows as texts, in plain terms: numbers' texts, lines of words, which words are a row of a log. -/
namespace Lr
open PySem PySem.Spec PyProof.Rows L2 TL
def numW (n : Nat) : Str := Str.ofString (toString ((n : Nat) : Int))
theorem tl_numW (n : Nat) : tl (numW n) = numL n := tl_num n
theorem numW_inj {m n : Nat} (h : numW m = numW n) : m = n := numL_inj (by rw [← tl_numW, ← tl_numW, h])
theorem numW_len {n k : Nat} (hk : 0 < k) (h : n < 10 ^ k) : (numW n).length ≤ k := by
  rw [len_tl, tl_numW]; exact numL_len hk h
theorem figL : FIG.cps.toList = [48, 49, 50, 51, 52, 53, 54, 55, 56, 57] := by decide +kernel
theorem fig_iff (c : Nat) : figB c = true ↔ 48 ≤ c ∧ c ≤ 57 := by
  unfold figB
  rw [figL, decide_eq_true_eq]
  simp only [List.mem_cons, List.not_mem_nil, or_false]
  omega
theorem digitsVal_snoc (l : List Nat) (c : Nat) : NumText.digitsVal (l ++ [c]) = NumText.digitsVal l * 10 + (c - 48) := by
  unfold NumText.digitsVal; rw [List.foldl_append]; rfl
theorem val_pos : ∀ (l : List Nat) (a : Nat), (1 ≤ a ∨ ∃ c r, l = c :: r ∧ 49 ≤ c) → 1 ≤ l.foldl (fun acc c => acc * 10 + (c - 48)) a
  | [], a, h => by
    rcases h with h | ⟨c, r, e, _⟩
    · exact h
    · cases e
  | c :: l, a, h => by
    refine val_pos l _ (.inl ?_)
    show 1 ≤ a * 10 + (c - 48)
    rcases h with h | ⟨c', r, e, hc⟩
    · omega
    · cases e; omega
theorem num_back : ∀ (n : Nat) (l : List Nat), l.length = n → NumText.AllDigits l → l ≠ [] → (l.length = 1 ∨ l.head? ≠ some 48) → l = numL (NumText.digitsVal l) := by
  intro n
  induction n with
  | zero => intro l e _ h; exact absurd (List.length_eq_zero_iff.mp e) h
  | succ n ih =>
    intro l e ad hne hz
    obtain ⟨i, c, rfl⟩ : ∃ i c, l = i ++ [c] := ⟨l.dropLast, l.getLast hne, (List.dropLast_concat_getLast hne).symm⟩
    have hc := ad c (by simp)
    rw [digitsVal_snoc]
    cases i with
    | nil =>
      show [c] = numL (0 * 10 + (c - 48))
      rw [numL_lt (by omega)]
      congr 1; omega
    | cons x r =>
      have hx := ad x (by simp)
      have hx49 : 49 ≤ x := by
        rcases hz with h | h
        · simp at h
        · simp at h; omega
      have adi : NumText.AllDigits (x :: r) := fun d hd => ad d (List.mem_append_left _ hd)
      have li : (x :: r).length = n := by simp at e ⊢; omega
      have ihh := ih (x :: r) li adi (by simp) (.inr (by simp; omega))
      have vp : 1 ≤ NumText.digitsVal (x :: r) := val_pos (x :: r) 0 (.inr ⟨x, r, rfl, hx49⟩)
      have e1 : (NumText.digitsVal (x :: r) * 10 + (c - 48)) / 10 = NumText.digitsVal (x :: r) := by omega
      have e2 : (NumText.digitsVal (x :: r) * 10 + (c - 48)) % 10 = c - 48 := by omega
      rw [numL_step (by omega), e1, e2, ← ihh]
      have : 48 + (c - 48) = c := by omega
      rw [this]
theorem numL_head {n : Nat} : (numL n).length = 1 ∨ (numL n).head? ≠ some 48 := by
  induction n using
        Nat.strongRecOn with
  | _ n ih =>
    by_cases h : n < 10
    · rw [numL_lt h]; exact .inl rfl
    · refine .inr ?_
      rw [numL_step (by omega)]
      cases e : numL (n / 10) with
      | nil => exact absurd e (numL_ne _)
      | cons c r =>
        rcases ih (n / 10) (by omega) with z | z
        · rw [e] at z
          simp at z; subst z
          by_cases h2 : n / 10 < 10
          · rw [numL_lt h2] at e
            simp at e ⊢; omega
          · rw [numL_step (by omega)] at e
            cases e2 : numL (n / 10 / 10) with
            | nil => exact absurd e2 (numL_ne _)
            | cons c2 r2 => rw [e2] at e; simp at e
        · rw [e] at z; simpa using z
/-- the number that a word is, if it is one -/
def numO (z : Str) : Option Nat := if 1 ≤ z.length ∧ z.length ≤ 9 ∧ z.cps.toList.all figB = true ∧ (z.length = 1 ∨ z.cps.toList.head? ≠ some 48) then some (NumText.digitsVal (tl z)) else none
theorem numO_some {z : Str} {n : Nat} : numO z = some n ↔ z = numW n ∧ z.length ≤ 9 := by
  unfold numO
  constructor
  · intro h
    split at h
    · rename_i c
      obtain ⟨h1, h2, h3, h4⟩ := c
      refine ⟨ext_tl ?_, h2⟩
      rw [tl_numW, ← Option.some.inj h]
      refine num_back _ (tl z) rfl (fun d hd => (fig_iff d).mp (List.all_eq_true.mp h3 d hd)) (fun e => ?_) ?_
      · rw [len_tl, e] at h1; simp at h1
      · rw [len_tl] at h4; exact h4
    · cases h
  · rintro ⟨rfl, h2⟩
    have e : tl (numW n) = numL n := tl_numW n
    have hl : (numW n).length = (numL n).length := by rw [len_tl, e]
    rw [if_pos]
    · rw [e, numL_val]
    · refine ⟨?_, h2, ?_, ?_⟩
      · rw [hl]; exact List.length_pos_iff.mpr (numL_ne n)
      · rw [List.all_eq_true]
        intro d hd
        rw [fig_iff]
        exact numL_digits n d (by rw [← e]; exact hd)
      · rw [hl]; show _ ∨ (tl (numW n)).head? ≠ _; rw [e]; exact numL_head
theorem numO_of {n : Nat} (h : n < 1000) : numO (numW n) = some n := numO_some.mpr ⟨rfl, Nat.le_trans (numW_len (k := 3) (by decide) h) (by decide)⟩
/-! ### lines and words -/
abbrev SPC : Str := " "
abbrev NLN : Str := "\n"
theorem tl_spc : tl SPC = [32] := by decide +kernel
theorem tl_nln : tl NLN = [10] := by decide +kernel
theorem spl_ne (S : List Nat) : ∀ (l : List Nat) (k : Nat) (acc : List Nat), spl S k acc l ≠ []
  | [], k, acc => by rw [spl_nil]; simp
  | c :: r, 0, acc => by
    unfold spl
    split
    · simp
    · exact spl_ne S r 0 _
  | c :: r, k + 1, acc => by
    unfold spl; exact spl_ne S r k acc
theorem pre1 (s c : Nat) (r : List Nat) : pre [s] (c :: r) = decide (c = s) := by
  unfold pre; simp; by_cases h : c = s <;> simp [h]
theorem join_spl1 (s : Nat) : ∀ (l acc : List Nat), joinL [s] (spl [s] 0 acc l) = acc ++ l
  | [], acc => by rw [spl_nil]; simp [joinL]
  | c :: r, acc => by
    by_cases h : c = s
    · subst h
      rw [spl_hit (by rw [pre1]; simp)]
      have ih := join_spl1 c r []
      cases e : spl [c] ([c].length - 1) [] r with
      | nil => exact absurd e (spl_ne _ _ _ _)
      | cons q t =>
        show acc ++ ([c] ++ joinL [c] (q :: t)) = _
        rw [← e]
        show acc ++ ([c] ++ joinL [c] (spl [c] 0 [] r)) = _
        rw [ih]; simp
    · rw [spl_miss (by rw [pre1]; simp [h]), join_spl1 s r (acc ++ [c])]; simp
theorem spl_free1 (s : Nat) : ∀ (l acc : List Nat), s ∉ acc → ∀ p ∈ spl [s] 0 acc l, s ∉ p
  | [], acc, h, p, hp => by rw [spl_nil] at hp; simp at hp; rw [hp]; exact h
  | c :: r, acc, h, p, hp => by
    by_cases e : c = s
    · subst e
      rw [spl_hit (by rw [pre1]; simp)] at hp
      rcases List.mem_cons.mp
            hp with rfl | hp
      · exact h
      · exact spl_free1 c r [] (by simp) p hp
    · rw [spl_miss (by rw [pre1]; simp [e])] at hp
      exact spl_free1 s r (acc ++ [c]) (by simp [h]; exact fun z => e z.symm) p hp
section
variable {x y : Str} {s : Nat}
theorem kind1 (ey : tl y = [s]) (hs : s < 256) : y.cps.all (· < 256) = true := by
  have : y.cps = #[s] := by
    rw [← Array.toList_inj]; exact ey
  rw [this]; simp [hs]
theorem split_tl (ey : tl y = [s]) (hs : s < 256) : (Txt.split x y).map tl = spl [s] 0 [] (tl x) := by
  rw [split_spl x y (by rw [ey]; simp) (kind_ok (kind1 ey hs)), ey]
theorem split_ne (ey : tl y = [s]) (hs : s < 256) : Txt.split x y ≠ [] := fun h => by
  have := split_tl (x := x) ey hs
  rw [h] at this
  exact spl_ne _ _ _ _ this.symm
theorem join_split (ey : tl y = [s]) (hs : s < 256) : Txt.join y (Txt.split x y) = x := by
  rw [join_eq]
  refine ext_tl ?_
  rw [tl_join, split_tl ey hs, ey, join_spl1]; rfl
theorem split_free (ey : tl y = [s]) (hs : s < 256) : ∀ p ∈ Txt.split x y, s ∉ tl p := fun p hp => by
  have : tl p ∈ (Txt.split x y).map tl := List.mem_map.mpr ⟨p, hp, rfl⟩
  rw [split_tl ey hs] at this
  exact spl_free1 s _ [] (by simp) _ this
theorem split_of (ey : tl y = [s]) (hs : s < 256) {parts : List Str} (hne : parts ≠ []) (hp : ∀ p ∈ parts, s ∉ tl p) (h : Txt.join y parts = x) : Txt.split x y = parts := by
  rw [← h]; exact split_join ey (kind1 ey hs) hne hp
end
def words (line : Str) : List Str := Txt.split line SPC
def lines (text : Str) : List Str := Txt.split text NLN
theorem len_sum_split {x y : Str} {s : Nat} (ey : tl y = [s]) (hs : s < 256) : ∀ p ∈ Txt.split x y, p.length ≤ x.length := by
  intro p hp
  have e := join_split (x := x) ey hs
  have key : ∀ (l : List Str), p ∈ l → p.length ≤ (Str.join y l).length := by
    intro l
    induction l with
    | nil => intro h; cases h
    | cons a r ih =>
      intro h
      cases r with
      | nil => simp at h; subst h; exact Nat.le_refl _
      | cons b r =>
        show _ ≤ (a ++ y ++ Str.join y (b :: r)).length
        rw [len_app, len_app]
        rcases List.mem_cons.mp
              h with rfl | h
        · omega
        · have := ih h; omega
  have := key _ hp
  rw [← join_eq, e] at this
  exact this
end Lr
set_option Elab.async false
set_option linter.all false
set_option maxRecDepth 100000
set_option maxHeartbeats 4000000
namespace Lr
open PySem PySem.Spec PyProof.Rows L2 TL
open C8 (InsC call_isC)
local macro_rules | `(tactic| walk_at "ne") => `(tactic| (first | assumption | (refine ne_sym ?_; assumption) | (exact ne_of_none (by assumption) (by assumption)) | (exact ne_sym (ne_of_none (by assumption) (by assumption)))))
local macro_rules | `(tactic| walk_at "h") => `(tactic| (first | assumption | exact upd_same | (refine h_new ?_ (by assumption); walk_at "h") | (refine h_ne (by walk_at "ne") ?_; walk_at "h")))
local macro_rules | `(tactic| walk_at "v1") => `(tactic| (with_reducible first
  | refine i_seq ?_ | refine i_asg ?_ | refine i_ret ?_ | refine i_next ?_ | refine i_drop ?_ | refine i_ifS ?_ | refine i_if ?_ | refine i_and ?_ | refine i_or ?_ | refine i_not ?_ | refine i_test ?_ | refine i_tB ?_ | refine i_bl ?_ | refine i_yes ?_
  | refine i_op ?_ | refine i_un ?_ | refine i_chain ?_ | refine i_andV ?_ | refine i_orV ?_ | refine i_notV ?_ | refine i_cb ?_ | refine i_cons ?_ | refine i_nil ?_ | refine i_bm ?_ | refine i_bm0 ?_ | refine i_c ?_ | refine i_name ?_ | refine i_sub ?_
  | refine i_call ?_ | refine i_lst ?_ | refine i_tup ?_ | refine i_par ?_ | refine i_par2 ?_ | refine i_sl ?_ | refine i_np ?_ | refine i_pt ?_ | refine i_int ?_ | refine i_m0 ?_ | refine i_m1 ?_ | refine i_isS ?_
  | refine i_rI0 ?_ | refine i_inSign ?_ | refine i_notInSign ?_ | refine i_int1 ?_ | refine i_tru ?_ | refine i_isN ?_ | refine i_notN ?_ | refine iteT ?_ | refine iteF ?_ | refine i_brk ?_ | refine i_rt ?_ | refine i_nx ?_ | refine i_bk ?_ | refine i_ct ?_ | refine i_for ?_ | refine i_lc ?_ | refine i_dc ?_ | refine i_iL ?_ | refine i_iT ?_ | refine i_iR1 ?_ | refine i_iR2 ?_ | refine i_iS ?_ | refine i_iE ?_ | refine i_iEK ?_ | refine i_iEQ ?_ | refine i_iZS ?_ | refine i_dget ?_ | refine i_fld ?_ | refine i_sfld ?_ | refine i_dput ?_ | refine i_meth ?_ | refine i_rU ?_ | refine i_cont ?_ | refine i_make ?_))
local macro_rules | `(tactic| walk_at "v2") => `(tactic| (first
  | ((with_reducible refine' i_var ?k1 ?_); (case k1 => exact rfl))
  | ((with_reducible refine' i_eq ?k1 ?_); (case k1 => exact rfl))
  | ((with_reducible refine' i_ne ?k1 ?_); (case k1 => exact rfl))
  | ((with_reducible refine' i_ixL ?k1 ?k2 ?_); (case k1 => walk_at "h"); (case k2 => exact rfl))
  | ((with_reducible refine' i_ixT ?k1 ?k2 ?_); (case k1 => walk_at "h"); (case k2 => exact rfl))
  | ((with_reducible refine' i_lenL ?k1 ?_); (case k1 => walk_at "h"))
  | ((with_reducible refine' i_lenT ?k1 ?_); (case k1 => walk_at "h"))
  | (refine i_wipe (show wipe _ _ = wipe _ _ from rfl) ?_)
  | ((with_reducible refine' i_setL ?k1 ?k2 ?_); (case k1 => walk_at "h"); (case k2 => exact rfl))
  | ((with_reducible refine' i_tyl ?k1 ?_); (case k1 => walk_at "h"))))
local macro_rules | `(tactic| walk_at "v") => `(tactic| repeat (first | walk_at "v1" | walk_at "v2"))

variable {P : Program} {w : World} {K :
      PySem.W.Frag} {mg : Str → Option Value} {base : Heap}
abbrev swords_in : Stmt := top 12
abbrev Nwords_in : List Str := ["line", "words"]
abbrev Pwords_in : List Str := ["line"]
theorem scwords_in : FnScope Nwords_in Pwords_in (defScope swords_in) := ⟨rfl, rfl, rfl, by decide +kernel, rfl, by decide +kernel, by decide +kernel⟩
abbrev slines_in : Stmt := top 13
abbrev Nlines_in : List Str := ["text", "pieces"]
abbrev Plines_in : List Str := ["text"]
theorem sclines_in : FnScope Nlines_in Plines_in (defScope slines_in) := ⟨rfl, rfl, rfl, by decide +kernel, rfl, by decide +kernel, by decide +kernel⟩
def rIsC (C : Addr) : List V → Hp → VK → Prop := fun xs H Q => ∃ a dx fs, xs = [.ref a, .ref C] ∧ H a = some (.ins C dx fs) ∧ Q (.bl true) H
theorem c_isC {X : Cx} (K : PySem.W.Frag) {C : Addr} (c : InsC K C) (hK : X.K = K := by rfl) : CallR X (.builtin "isinstance") (rIsC C) := by subst hK; exact call_isC c
def numV : Option Nat → V
  | none => .non
  | some n => .int (n : Nat)
def spNumIn : Sp := fun vs H Q _ => ∃ z : Str, vs = [.str z] ∧ z.length ≤ 1000000 ∧ Q (numV (numO z)) H
theorem numO_none {z : Str} (h : ¬ (1 ≤ z.length ∧ z.length ≤ 9 ∧ z.cps.toList.all figB = true ∧ (z.length = 1 ∨ z.cps.toList.head? ≠ some 48))) : numO z = none := by
  unfold numO; rw [if_neg h]
theorem zero1 : ("0" : Str) = ⟨#[48]⟩ := by decide +kernel
def spWordsIn : Sp := fun vs H Q _ => ∃ z : Str, vs = [.str z] ∧ z.length ≤ 1000000 ∧
  (("" : Str) ∈ words z → ∀ H', Same H H' → Q .non H') ∧ (¬ ("" : Str) ∈ words z → ∀ p H', H' p = some (.lst ((words z).map V.str)) → Same H H' → Q (.ref p) H')
theorem ok_wordsin (d : Fd K mg "words_in" swords_in Pwords_in) (B : Blt mg) : FnOk P w K mg base CX0 1 d.f d.fd Pwords_in spWordsIn := by
  refine d.F.ok scwords_in (fun vs H Q E h => ?_) (fun cdv A outer s H vs Q E hr h => ?_)
  · obtain ⟨z, rfl, _⟩ := h
    rfl
  · obtain ⟨z, rfl, hz, k0, k1⟩ := h
    refine ⟨_, (pss_cons (ps_set (i := 1) scwords_in.nd rfl (by first | exact Or.inl rfl | exact Or.inr rfl) (pe_m1 PySem.F.slot_str_split PySem.F.type_str_split m_split (pv 0) pe_str))
      (pss_cons (ps_if (pt_cmpR (o_in K) pe_str (pv 1) (by rfl)) (pss_one (ps_ret pe_non)) pss_nil)
      (pss_one (ps_ret (pv 1))))), ?_⟩
    walk_at "v"
    refine i_split (by decide +kernel) (Nat.le_trans (Nat.add_le_add_right hz 2) (by decide)) (fun p hp => ?_)
    have s1 : Same H (upd H p (.lst ((words z).map V.str))) := (Same.refl H).new hp
    walk_at "v"
    refine ⟨p, (words z).map V.str, rfl, .inl (SqL.of upd_same), rfl, flat_strs _, ?_⟩
    walk_at "v"
    rw [if_neg Bool.false_ne_true, inV_strs]
    refine ifd (fun h => ?_) (fun h => ?_)
    · walk_at "v"
      exact k0 h _ s1
    · walk_at "v"
      exact k1 h _ _ upd_same s1
theorem cut_last {xs : List V} {v : V} : cutV (xs ++ [v]) none (some (-1)) = xs := by
  unfold cutV
  have e1 : HT.sIx (xs ++ [v]).length 0 none = 0 := rfl
  have e2 : HT.sIx (xs ++ [v]).length (xs ++ [v]).length (some (-1)) = xs.length := by
    show (if ((-1 : Int) < 0) then ((-1 : Int) + ((xs ++ [v]).length : Int)).toNat else min (-1 : Int).toNat (xs ++ [v]).length) = _
    rw [if_pos (by decide)]
    simp; omega
  rw [e1, e2]; simp
def spLinesIn : Sp := fun vs H Q _ => ∃ z : Str, vs = [.str z] ∧ z.length ≤ 1000000 ∧
  ∀ (ls : List Str) (l : Str) t q H', lines z = ls ++ [l] → H' t = some (.tup [.ref q, .bl (decide (l = ("" : Str)))]) → H' q = some (.lst (ls.map V.str)) → Same H H' → Q (.ref t) H'
theorem lines_cat (z : Str) : ∃ ls l, lines z = ls ++ [l] := by
  have h : lines z ≠ [] := split_ne tl_nln (by decide)
  exact ⟨(lines z).dropLast, (lines z).getLast h, (List.dropLast_concat_getLast h).symm⟩
theorem dec_strE {i j : Str} : decide (V.str i = V.str j) = decide (i = j) := by
  by_cases h : i = j
  · subst h; simp
  · simp [h]
theorem ok_linesin (d : Fd K mg "lines_in" slines_in Plines_in) (B : Blt mg) : FnOk P w K mg base CX0 1 d.f d.fd Plines_in spLinesIn := by
  refine d.F.ok sclines_in (fun vs H Q E h => ?_) (fun cdv A outer s H vs Q E hr h => ?_)
  · obtain ⟨z, rfl, _⟩ := h
    rfl
  · obtain ⟨z, rfl, hz, k⟩ := h
    refine ⟨_, (pss_cons (ps_set (i := 1) sclines_in.nd rfl (by first | exact Or.inl rfl | exact Or.inr rfl) (pe_m1 PySem.F.slot_str_split PySem.F.type_str_split m_split (pv 0) pe_str))
      (pss_one (ps_ret (pe_tup (pa_cons (pe_slice (s_list K) (pv 1) po_none (po_some (pe_un un_neg pe_int))) (pa_cons (pe_cmpR op_eq (pe_ix (x_list K) (pv 1) (pe_un un_neg pe_int) (fun _ _ => rfl)) pe_str (nomark _)) pa_nil)))))), ?_⟩
    obtain ⟨ls, l, e⟩ := lines_cat z
    walk_at "v"
    refine i_split (by decide +kernel) (Nat.le_trans (Nat.add_le_add_right hz 2) (by decide)) (fun p hp => ?_)
    have e' : Txt.split z (Str.ofString "\n") = ls ++ [l] := e
    rw [e', List.map_append]
    have s1 : Same H (upd H p (.lst (ls.map V.str ++ [l].map V.str))) := (Same.refl H).new hp
    obtain ⟨H1, e1⟩ : ∃ H1, H1 = upd H p (.lst (ls.map V.str ++ [l].map V.str)) := ⟨_, rfl⟩
    have hp1 : H1 p = some (.lst (ls.map V.str ++ [.str l])) := by rw [e1]; exact upd_same
    rw [← e1] at s1 ⊢
    clear e1
    walk_at "v"
    refine ⟨p, _, rfl, SqL.of hp1, fun q hq => ?_⟩
    rw [cut_last]
    have s2 := s1.new (o := .lst (ls.map V.str)) hq
    walk_at "v"
    refine i_ixL (h_new hp1 hq) (atI_last _ _) ?_
    walk_at "v"
    refine ⟨show 2 ≤ sizeLine by decide, fun t ht => ?_⟩
    walk_at "v"
    refine k ls l t q _ e ?_ (h_new upd_same ht) (s2.new ht)
    rw [← dec_strE]; exact upd_same
end Lr
set_option Elab.async false
set_option linter.all false
set_option maxRecDepth 100000
set_option maxHeartbeats 4000000
/-! Ml: logs as plain data: pages, records, who writes a page, what a reader needs. -/
namespace Lr
open PySem PySem.Spec
      PyProof.Rows L2
abbrev Row := List Str × List Str
structure LG where
  pages : List Str
  rows : List Row
def wrF (k : Int) (x : Str) : List Row → List Int
  | [] => []
  | r :: t => if x ∈ r.2 then (k + 1) :: wrF (k + 1) x t else wrF (k + 1) x t
/-- the records that write x, ascending -/
def wr (rows : List Row) (x : Str) : List Int := wrF 0 x rows
theorem wrF_append (x : Str) (r : Row) : ∀ (t : List Row) (k : Int), wrF k x (t ++ [r]) = wrF k x t ++ (if x ∈ r.2 then [k + t.length + 1] else [])
  | [], k => by simp [wrF]
  | s :: t, k => by
    have ih := wrF_append x r t (k + 1)
    simp only [List.cons_append, wrF, ih, List.length_cons]
    have e : k + 1 + (t.length : Int) + 1 = k + ((t.length + 1 : Nat) : Int) + 1 := by omega
    rw [e]
    split <;> simp
theorem wr_append (x : Str) (r : Row) (t : List Row) : wr (t ++ [r]) x = wr t x ++ (if x ∈ r.2 then [(t.length : Int) + 1] else []) := by
  unfold wr; rw [wrF_append]; simp
/-- the greatest version of x so far -/
def ver (rows : List Row) (x : Str) : Int := (wr rows x).getLast?.getD 0
def standing (rows : List Row) (names : List Str) : List (Str × Int) := names.map fun x => (x, ver rows x)
/-- what the readers need: each record, the end last -/
def needs (L : LG) : List (List (Str × Int)) := (List.range L.rows.length).map (fun i => standing (L.rows.take i) ((L.rows[i]?.getD ([], [])).1)) ++ [standing L.rows L.pages]
structure LG.Ok (L : LG) : Prop where
  sorted : sortedS L.pages = true
  nd : L.pages.Nodup
  name : ∀ x ∈ L.pages, nameB x = true
  pos : 1 ≤ L.pages.length
  most : L.pages.length ≤ 12
  few : L.rows.length ≤ 60
  reads : ∀ r ∈ L.rows, r.1.Sublist L.pages
  writes : ∀ r ∈ L.rows, r.2.Sublist L.pages ∧ r.2 ≠ []
def needD (l : List (Str × Int)) : PyData := .tuple (l.map fun z => .tuple [.str z.1, .int z.2])
theorem ver_nonneg (rows : List Row) (x : Str) : 0 ≤ ver rows x := by
  have h : ∀ (t : List Row) (k : Int), 0 ≤ k → ∀ z ∈ wrF k x t, 0 ≤ z := by
    intro t
    induction t with
    | nil => intro k _ z hz; simp [wrF] at hz
    | cons r t ih =>
      intro k hk z hz
      simp only [wrF] at hz
      split at hz
      · rcases List.mem_cons.mp hz with e | e
        · omega
        · exact ih (k + 1) (by omega) z e
      · exact ih (k + 1) (by omega) z hz
  unfold ver
  cases e : (wr rows x).getLast? with
  | none => simp
  | some z => simpa using h rows 0 (by omega) z (List.mem_of_getLast? e)
/-! ### the order of texts -/
theorem ltCps_asymm : ∀ {a b : List Nat}, ltCps a b = true → ltCps b a = false
  | [], [], h => by simp [ltCps] at h
  | [], _ :: _, _ => by simp [ltCps]
  | _ :: _, [], h => by simp [ltCps] at h
  | x :: a, y :: b, h => by
    simp only [ltCps, Bool.or_eq_true, decide_eq_true_eq, Bool.and_eq_true, beq_iff_eq] at h
    simp only [ltCps, Bool.or_eq_false_iff, decide_eq_false_iff_not, Bool.and_eq_false_iff, beq_eq_false_iff_ne]
    rcases h with h | ⟨rfl, h⟩
    · exact ⟨by omega, .inl (by omega)⟩
    · exact ⟨by omega, .inr (ltCps_asymm h)⟩
theorem ltCps_eq : ∀ {a b : List Nat}, ltCps a b = false → ltCps b a = false → a = b
  | [], [], _, _ => rfl
  | [], _ :: _, h, _ => by simp [ltCps] at h
  | _ :: _, [], _, h => by simp [ltCps] at h
  | x :: a, y :: b, h, h' => by
    simp only [ltCps, Bool.or_eq_false_iff, decide_eq_false_iff_not, Bool.and_eq_false_iff, beq_eq_false_iff_ne] at h h'
    obtain rfl : x = y := by omega
    rw [ltCps_eq (h.2.resolve_left (by simp)) (h'.2.resolve_left (by simp))]
/-- at most: b is not below a -/
theorem leCps_trans : ∀ {a b c : List Nat}, ltCps b a = false → ltCps c b = false → ltCps c a = false
  | [], b, c, h, h' => by
    cases c with
    | nil => simp [ltCps]
    | cons _ _ => simp [ltCps]
  | _ :: _, [], _, h, _ => by simp [ltCps] at h
  | _ :: _, _ :: _, [], _, h => by simp [ltCps] at h
  | x :: a, y :: b,
        z :: c, h, h' => by
    simp only [ltCps, Bool.or_eq_false_iff, decide_eq_false_iff_not, Bool.and_eq_false_iff, beq_eq_false_iff_ne] at h h' ⊢
    refine ⟨by omega, ?_⟩
    by_cases e : z = x
    · refine .inr ?_
      have e1 : y = x := by omega
      subst e
      exact leCps_trans (h.2.resolve_left (by simp [e1])) (h'.2.resolve_left (by simp [e1]))
    · exact .inl e
def leS (x y : Str) : Prop := ltCps y.cps.toList x.cps.toList = false
theorem rising_pw : ∀ {l : List Str} {p : Str}, risingS p l = true → (p :: l).Pairwise leS
  | [], p, _ => by simp
  | x :: r, p, h => by
    simp only [risingS, Bool.and_eq_true, Bool.not_eq_true'] at h
    have ih := rising_pw h.2
    rw [List.pairwise_cons] at ih ⊢
    refine ⟨fun y hy => ?_, List.pairwise_cons.mpr ih⟩
    rcases List.mem_cons.mp
          hy with rfl | hy
    · exact h.1
    · exact leCps_trans h.1 (ih.1 y hy)
theorem sortedS_pw {l : List Str} (h : sortedS l = true) : l.Pairwise leS := by
  cases l with
  | nil => simp
  | cons x r => exact rising_pw h
theorem ext_cps {x y : Str} (h : x.cps.toList = y.cps.toList) : x = y := by
  cases x; cases y; simp at h; simp [h]
theorem sorted_perm {l l' : List Str} (h : sortedS l = true) (h' : l'.Pairwise leS) (p : l.Perm l') : l = l' :=
  List.Perm.eq_of_pairwise (le := leS) (fun a b _ _ h1 h2 => ext_cps (ltCps_eq h2 h1)) (sortedS_pw h) h' p
end Lr
set_option Elab.async false
set_option linter.all false
set_option maxRecDepth 100000
set_option maxHeartbeats 4000000
/-! R1: rules as plain data: steps, their words, words taken apart at a sign. -/
namespace Lr
open PySem PySem.Spec PyProof.Rows L2 TL
structure Tri where
  c : List Str
  f : List Str
  s : List Str
inductive Kd where
  | do_ (r w v : List Str)
  | out (l : List Str)
  | alone (x : Str)
structure Sd where
  k : Kd
  wh : List Tri
def lotT (l : List Str) : PyData := .tuple (l.map .str)
def triD (t : Tri) : PyData := .tuple [lotT t.c, lotT t.f, lotT t.s]
def whenD (ts : List Tri) : PyData := .tuple (ts.map triD)
def stepD (s : Sd) : PyData := match s.k with
  | .do_ r w v => .tuple [.str ("do" : Str), lotT r, lotT w, lotT v, whenD s.wh]
  | .out l => .tuple [.str ("out" : Str), lotT l, whenD s.wh]
  | .alone x => .tuple [.str x, whenD s.wh]
structure Tri.Ok (pg : List Str) (t : Tri) : Prop where
  c : t.c.Sublist pg
  f : t.f.Sublist pg
  s : t.s.Sublist pg
def Kd.Ok (pg : List Str) : Kd → Prop
  | .do_ r w v => r.Sublist pg ∧ w.Sublist pg ∧ w ≠ [] ∧ v.Sublist w
  | .out l => l.Sublist pg ∧ l ≠ []
  | .alone x => x = ("force" : Str) ∨ x = ("mark" : Str) ∨ x = ("cut" : Str)
structure Sd.Ok (pg : List Str) (s : Sd) : Prop where
  k : s.k.Ok pg
  w : ∀ t ∈ s.wh, t.Ok pg
/-- pages as a rule has them: names, ascending, unlike -/
structure PgOk (pg : List Str) : Prop where
  sorted : sortedS pg = true
  nd : pg.Nodup
  name : ∀ x ∈ pg, nameB x = true
  pos : 1 ≤ pg.length
  most : pg.length ≤ 3
abbrev ch (c : Nat) : Str := ⟨#[c]⟩
abbrev cEQ : Nat := 61
abbrev cPL : Nat := 43
abbrev cEX : Nat := 33
abbrev sQ : Str := "?"
abbrev sGT : Str := ">"
abbrev sCO : Str := ":"
abbrev sSL : Str := "/"
abbrev sMI : Str := "-"
def withS (c : Nat) (l : List Str) : List Str := l.map fun x => ch c ++ x
def triL (t : Tri) : List Str := withS cEQ t.c ++ (withS cPL t.f ++ withS cEX t.s)
def triW (t : Tri) : List Str := if triL t = [] then [sMI] else triL t
def whenW : List Tri → List Str
  | [] => []
  | t :: ts => triW t ++ (ts.map fun t => sSL :: triW t).flatten
def kdW : Kd → List Str
  | .do_ r w v => ("do" : Str) :: (r ++ (sGT :: (w ++ (sCO :: v))))
  | .out l => ("out" : Str) :: l
  | .alone x => [x]
def stepW (s : Sd) : List Str := kdW s.k ++ (sQ :: whenW s.wh)
/-! ### words taken apart at a sign -/
def joinW (sg : Str) : List (List Str) → List Str
  | [] => []
  | [p] => p
  | p :: q :: r => p ++ (sg :: joinW sg (q :: r))
def partW (sg : Str) : List Str → List (List Str)
  | [] => [[]]
  | w :: ws => if w = sg then [] :: partW sg ws else match partW sg ws with
    | [] => [[w]]
    | p :: ps => (w :: p) :: ps
theorem partW_cons {sg w : Str} {ws p : List Str} {ps : List (List Str)} (h : w ≠ sg) (e : partW sg ws = p :: ps) : partW sg (w :: ws) = (w :: p) :: ps := by simp [partW, h, e]
theorem partW_ne (sg : Str) (ws : List Str) : partW sg ws ≠ [] := by
  cases ws with
  | nil => simp [partW]
  | cons w ws =>
    unfold partW
    split
    · simp
    · split <;> simp
theorem partW_snoc (sg w : Str) : ∀ (ws : List Str), partW sg (ws ++ [w]) = if w = sg then partW sg ws ++ [[]] else (partW sg ws).dropLast ++ [(partW sg ws).getLastD [] ++ [w]]
  | [] => by
    by_cases h : w = sg <;> simp [partW, h]
  | x :: ws => by
    have ih := partW_snoc sg w ws
    have ne := partW_ne sg ws
    show partW sg (x :: (ws ++ [w])) = _
    by_cases hx : x = sg
    · have e1 : ∀ l, partW sg (x :: l) = [] :: partW sg l := fun l => by simp [partW, hx]
      rw [e1, e1, ih]
      by_cases h : w = sg
      · rw [if_pos h, if_pos h]; rfl
      · rw [if_neg h, if_neg h]
        cases e : partW sg ws with
        | nil => exact absurd e ne
        | cons p ps => simp
    · cases e : partW sg ws with
      | nil => exact absurd e ne
      | cons p ps =>
        have e1 : partW sg (x :: ws) = (x :: p) :: ps := by simp [partW, hx, e]
        rw [e] at ih
        by_cases h : w = sg
        · rw [if_pos h] at ih ⊢
          rw [e1]
          simp [partW, hx, ih]
        · rw [if_neg h] at ih ⊢
          rw [e1]
          cases ps with
          | nil =>
            simp at ih ⊢
            simp [partW, hx, ih]
          | cons q qs =>
            simp at ih ⊢
            simp [partW, hx, ih]
theorem join_part (sg : Str) : ∀ ws : List Str, joinW sg (partW sg ws) = ws
  | [] => rfl
  | w :: ws => by
    have ih := join_part sg ws
    have ne := partW_ne sg ws
    unfold partW
    by_cases h : w = sg
    · rw [if_pos h]
      cases e : partW sg ws with
      | nil => exact absurd e ne
      | cons p ps => rw [e] at ih; show sg :: joinW sg (p :: ps) = _; rw [ih, h]
    · rw [if_neg h]
      cases e : partW sg ws with
      | nil => exact absurd e ne
      | cons p ps =>
        rw [e] at ih
        cases ps with
        | nil => show w :: p = _; rw [← ih]; rfl
        | cons q qs => show w :: (p ++ _) = _; rw [← ih]; rfl
theorem part_free (sg : Str) : ∀ ws : List Str, ∀ p ∈ partW sg ws, sg ∉ p
  | [], p, hp => by simp [partW] at hp; simp [hp]
  | w :: ws, p, hp => by
    have ih := part_free sg ws
    unfold partW at hp
    by_cases h : w = sg
    · rw [if_pos h] at hp
      rcases List.mem_cons.mp
            hp with rfl | hp
      · simp
      · exact ih p hp
    · rw [if_neg h] at hp
      cases e : partW sg ws with
      | nil => exact absurd e (partW_ne sg ws)
      | cons q qs =>
        rw [e] at hp
        rcases List.mem_cons.mp
              hp with rfl | hp
        · have := ih q (by rw [e]; simp)
          simp only [List.mem_cons, not_or]
          exact ⟨fun z => h z.symm, this⟩
        · exact ih p (by rw [e]; simp [hp])
theorem part_app (sg : Str) : ∀ (p ws : List Str), sg ∉ p → partW sg (p ++ (sg :: ws)) = p :: partW sg ws
  | [], ws, _ => by simp [partW]
  | w :: p, ws, h => by
    simp only [List.mem_cons, not_or] at h
    have ih := part_app sg p ws h.2
    exact partW_cons (fun z => h.1 z.symm) ih
theorem part_one (sg : Str) : ∀ (p : List Str), sg ∉ p → partW sg p = [p]
  | [], _ => rfl
  | w :: p, h => by
    simp only [List.mem_cons, not_or] at h
    have ih := part_one sg p h.2
    exact partW_cons (fun z => h.1 z.symm) ih
theorem part_join (sg : Str) : ∀ (ps : List (List Str)), ps ≠ [] → (∀ p ∈ ps, sg ∉ p) → partW sg (joinW sg ps) = ps
  | [], h, _ => absurd rfl h
  | [p], _, h => part_one sg p (h p (by simp))
  | p :: q :: r, _, h => by
    show partW sg (p ++ (sg :: joinW sg (q :: r))) = _
    rw [part_app sg p _ (h p (by simp)), part_join sg (q :: r) (by simp) (fun z hz => h z (by simp [hz]))]
theorem whenW_join : ∀ (t : Tri) (ts : List Tri), whenW (t :: ts) = joinW sSL ((t :: ts).map triW)
  | t, [] => by simp [whenW, joinW]
  | t, u :: ts => by
    have ih := whenW_join u ts
    show triW t ++ ((sSL :: triW u) ++ (ts.map fun t => sSL :: triW t).flatten) = triW t ++ (sSL :: joinW sSL ((u :: ts).map triW))
    rw [← ih]; rfl
theorem partW_len (sg : Str) : ∀ ws : List Str, (partW sg ws).length ≤ ws.length + 1
  | [] => by simp [partW]
  | w :: ws => by
    have ih := partW_len sg ws
    have ne := partW_ne sg ws
    by_cases h : w = sg
    · have : partW sg (w :: ws) = [] :: partW sg ws := by simp [partW, h]
      rw [this]; simp; omega
    · cases e : partW sg ws with
      | nil => exact absurd e ne
      | cons p ps => rw [partW_cons h e]; rw [e] at ih; simp at ih ⊢; omega
theorem partW_all (sg : Str) : ∀ (ws : List Str), ∀ p ∈ partW sg ws, p.length ≤ ws.length
  | [], p, hp => by simp [partW] at hp; simp [hp]
  | w :: ws, p, hp => by
    have ih := partW_all sg ws
    have ne := partW_ne sg ws
    by_cases h : w = sg
    · have : partW sg (w :: ws) = [] :: partW sg ws := by simp [partW, h]
      rw [this] at hp
      rcases List.mem_cons.mp
            hp with rfl | hp
      · simp
      · have := ih p hp; simp; omega
    · cases e : partW sg ws with
      | nil => exact absurd e ne
      | cons q qs =>
        rw [partW_cons h e] at hp
        rcases List.mem_cons.mp
              hp with rfl | hp
        · have := ih q (by rw [e]; simp); simp; omega
        · have := ih p (by rw [e]; simp [hp]); simp; omega
theorem partW_last (sg : Str) (ws : List Str) : (partW sg ws).getLastD [] ∈ partW sg ws := by
  cases e : partW sg ws with
  | nil => exact absurd e (partW_ne sg ws)
  | cons p ps => rw [List.getLastD_cons]; exact List.getLastD_mem_cons ..
end Lr
set_option Elab.async false
set_option linter.all false
set_option maxRecDepth 100000
set_option maxHeartbeats 4000000
/-! R2: which words are a step. -/
namespace Lr
open PySem PySem.Spec PyProof.Rows L2 TL
def hd0 (z : Str) : Option Nat := z.cps.toList.head?
def tl1 (z : Str) : Str := ⟨z.cps.toList.tail.toArray⟩
theorem tl_ch (c : Nat) (x : Str) : tl (ch c ++ x) = c :: tl x := by rw [tl_append]; rfl
theorem hd0_ch (c : Nat) (x : Str) : hd0 (ch c ++ x) = some c := by
  unfold hd0
  show (tl (ch c ++ x)).head? = _
  rw [tl_ch]; rfl
theorem tl1_ch (c : Nat) (x : Str) : tl1 (ch c ++ x) = x := by
  refine ext_tl ?_
  show (tl (ch c ++ x)).tail = _
  rw [tl_ch]; rfl
def lotsOf (c : Nat) (ws : List Str) : List Str := (ws.filter fun w => decide (hd0 w = some c)).map tl1
theorem lots_same (c : Nat) (l : List Str) : lotsOf c (withS c l) = l := by
  induction l with
  | nil => rfl
  | cons x l ih =>
    unfold lotsOf withS at ih ⊢
    rw [List.map_cons, List.filter_cons, if_pos (by simp [hd0_ch]), List.map_cons, tl1_ch, ih]
theorem lots_other {c d : Nat} (h : c ≠ d) (l : List Str) : lotsOf c (withS d l) = [] := by
  induction l with
  | nil => rfl
  | cons x l ih =>
    unfold lotsOf withS at ih ⊢
    rw [List.map_cons, List.filter_cons, if_neg (by simp [hd0_ch]; exact fun e => h e.symm), ih]
theorem lots_app (c : Nat) (a b : List Str) : lotsOf c (a ++ b) = lotsOf c a ++ lotsOf c b := by simp [lotsOf]
def triOf (ws : List Str) : Tri := ⟨lotsOf cEQ ws, lotsOf cPL ws, lotsOf cEX ws⟩
theorem triOf_triL (t : Tri) : triOf (triL t) = t := by
  unfold triOf triL
  simp only [lots_app, lots_same, lots_other (show cEQ ≠ cPL by decide), lots_other (show cEQ ≠ cEX by decide), lots_other (show cPL ≠ cEQ by decide), lots_other (show cPL ≠ cEX by decide), lots_other (show cEX ≠ cEQ by decide), lots_other (show cEX ≠ cPL by decide), List.append_nil, List.nil_append]
theorem triL_hd {t : Tri} {x : Str} (h : x ∈ triL t) : hd0 x = some cEQ ∨ hd0 x = some cPL ∨ hd0 x = some cEX := by
  unfold triL withS at h
  simp only [List.mem_append, List.mem_map] at h
  rcases h with ⟨y, _, rfl⟩ | ⟨y, _, rfl⟩ | ⟨y, _, rfl⟩ <;> simp [hd0_ch]
theorem hd_sMI : hd0 sMI = some 45 := by decide +kernel
theorem hd_sSL : hd0 sSL = some 47 := by decide +kernel
theorem hd_sQ : hd0 sQ = some 63 := by decide +kernel
theorem hd_sGT : hd0 sGT = some 62 := by decide +kernel
theorem hd_sCO : hd0 sCO = some 58 := by decide +kernel
theorem triL_no {t : Tri} {x : Str} {c : Nat} (hx : hd0 x = some c) (h1 : c ≠ cEQ) (h2 : c ≠ cPL) (h3 : c ≠ cEX) : x ∉ triL t := fun h => by
  rcases triL_hd h with e | e | e <;> rw [hx] at e <;> cases e <;> contradiction
theorem triW_no {t : Tri} {x : Str} {c : Nat} (hx : hd0 x = some c) (h1 : c ≠ cEQ) (h2 : c ≠ cPL) (h3 : c ≠ cEX) (h4 : c ≠ 45) : x ∉ triW t := by
  unfold triW
  split
  · intro h
    simp at h
    rw [h, hd_sMI] at hx
    cases hx; exact h4 rfl
  · exact triL_no hx h1 h2 h3
theorem triW_ne (t : Tri) : triW t ≠ [] := by
  unfold triW
  split
  · simp
  · assumption
theorem tri_empty {t : Tri} (h : triL t = []) : t = ⟨[], [], []⟩ := by
  unfold triL withS at h
  simp at h
  cases t
  simp at h
  simp [h]
open Classical in
noncomputable def triP (pg ws : List Str) : Option Tri := if ws = [sMI] then some ⟨[], [], []⟩ else if ws ≠ [] ∧ ws = triL (triOf ws) ∧ (triOf ws).Ok pg then some (triOf ws) else none
theorem triP_some {pg ws : List Str} {t : Tri} (h : triP pg ws = some t) : t.Ok pg ∧ triW t = ws := by
  unfold triP at h
  split at h
  · rename_i e
    cases h
    exact ⟨⟨by simp, by simp, by simp⟩, by rw [e]; simp [triW, triL, withS]⟩
  · split at h
    · rename_i e c
      cases h
      refine ⟨c.2.2, ?_⟩
      unfold triW
      rw [if_neg (by rw [← c.2.1]; exact c.1)]
      exact c.2.1.symm
    · cases h
theorem triP_of {pg : List Str} {t : Tri} (h : t.Ok pg) : triP pg (triW t) = some t := by
  by_cases e : triL t = []
  · have : triW t = [sMI] := by unfold triW; rw [if_pos e]
    unfold triP
    rw [if_pos this, tri_empty e]
  · have e2 : triW t = triL t := by unfold triW; rw [if_neg e]
    unfold triP
    rw [e2, if_neg, if_pos]
    · rw [triOf_triL]
    · rw [triOf_triL]; exact ⟨e, rfl, h⟩
    · intro z
      have : sMI ∈ triL t := by rw [z]; simp
      exact triL_no hd_sMI (by decide) (by decide) (by decide) this
noncomputable def triPs (pg : List Str) : List (List Str) → Option (List Tri)
  | [] => some []
  | p :: ps => match triP pg p, triPs pg ps with
    | some t, some ts => some (t :: ts)
    | _, _ => none
theorem triPs_some {pg : List Str} : ∀ {ps : List (List Str)} {ts : List Tri}, triPs pg ps = some ts → (∀ t ∈ ts, t.Ok pg) ∧ ts.map triW = ps
  | [], _, h => by cases h; simp
  | p :: ps, ts, h => by
    unfold triPs at h
    split at h
    · rename_i t us e1 e2
      cases h
      obtain ⟨h1, h2⟩ := triP_some e1
      obtain ⟨h3, h4⟩ := triPs_some e2
      exact ⟨fun z hz => by rcases List.mem_cons.mp hz with rfl | hz; exact h1; exact h3 z hz, by rw [List.map_cons, h2, h4]⟩
    · cases h
theorem triPs_of {pg : List Str} : ∀ {ts : List Tri}, (∀ t ∈ ts, t.Ok pg) → triPs pg (ts.map triW) = some ts
  | [], _ => rfl
  | t :: ts, h => by
    have e1 := triP_of (h t (by simp))
    have e2 := triPs_of (ts := ts) (fun z hz => h z (by simp [hz]))
    show (match triP pg (triW t), triPs pg (ts.map triW) with | some t, some ts => some (t :: ts) | _, _ => none) = _
    rw [e1, e2]
noncomputable def whenP (pg ws : List Str) : Option (List Tri) := if ws = [] then some [] else triPs pg (partW sSL ws)
theorem whenP_some {pg ws : List Str} {ts : List Tri} (h : whenP pg ws = some ts) : (∀ t ∈ ts, t.Ok pg) ∧ whenW ts = ws := by
  unfold whenP at h
  split at h
  · rename_i e
    cases h
    exact ⟨by simp, e.symm⟩
  · obtain ⟨h1, h2⟩ := triPs_some h
    refine ⟨h1, ?_⟩
    cases ts with
    | nil => exact absurd h2.symm (partW_ne _ _)
    | cons t ts => rw [whenW_join, h2, join_part]
theorem whenP_of {pg : List Str} {ts : List Tri} (h : ∀ t ∈ ts, t.Ok pg) : whenP pg (whenW ts) = some ts := by
  cases ts with
  | nil => rfl
  | cons t ts =>
    have ne : whenW (t :: ts) ≠ [] := by
      show triW t ++ _ ≠ []
      have := triW_ne t
      simp [this]
    unfold whenP
    rw [if_neg ne, whenW_join, part_join]
    · exact triPs_of h
    · simp
    · intro p hp
      obtain ⟨u, _, rfl⟩ := List.mem_map.mp hp
      exact triW_no hd_sSL (by decide) (by decide) (by decide) (by decide)
/-! ### the head of a step -/
open Classical in
noncomputable def kdP (pg : List Str) : List Str → Option Kd
  | [] => none
  | h :: rest => if h = ("do" : Str) then (match partW sGT rest with
      | [r, m] => (match partW sCO m with
        | [w, v] => if (Kd.do_ r w v).Ok pg then some (.do_ r w v) else none
        | _ => none)
      | _ => none)
    else if h = ("out" : Str) then (if (Kd.out rest).Ok pg then some (.out rest) else none)
    else if rest = [] ∧ (Kd.alone h).Ok pg then some (.alone h) else none
open Classical in
theorem kdP_cons (pg : List Str) (h : Str) (rest : List Str) : kdP pg (h :: rest) = if h = ("do" : Str) then (match partW sGT rest with
      | [r, m] => (match partW sCO m with
        | [w, v] => if (Kd.do_ r w v).Ok pg then some (.do_ r w v) else none
        | _ => none)
      | _ => none)
    else if h = ("out" : Str) then (if (Kd.out rest).Ok pg then some (.out rest) else none)
    else if rest = [] ∧ (Kd.alone h).Ok pg then some (.alone h) else none := rfl
theorem name_cps {x : Str} (h : nameB x = true) {c : Nat} (hc : c ∈ tl x) : letB c = true ∨ figB c = true := by
  simp only [nameB, Bool.and_eq_true, decide_eq_true_eq, List.all_eq_true, Bool.or_eq_true] at h
  exact h.1.2 c hc
theorem name_hd {x : Str} (h : nameB x = true) : ∃ c, hd0 x = some c ∧ letB c = true := by
  simp only [nameB, Bool.and_eq_true] at h
  have h2 := h.2
  unfold hd0
  cases e : x.cps.toList with
  | nil => rw [e] at h2; cases h2
  | cons c r => rw [e] at h2; exact ⟨c, rfl, h2⟩
theorem name_ne {x y : Str} {c : Nat} (h : nameB x = true) (hy : hd0 y = some c) (hc : letB c = false) : y ≠ x := fun e => by
  obtain ⟨d, h1, h2⟩ := name_hd h
  rw [← e, hy] at h1
  cases h1
  rw [hc] at h2; cases h2
theorem names_no {l : List Str} {y : Str} {c : Nat} (h : ∀ x ∈ l, nameB x = true) (hy : hd0 y = some c) (hc : letB c = false) : y ∉ l := fun hm => name_ne (h y hm) hy hc rfl
theorem kdP_some {pg ws : List Str} {k : Kd} (h : kdP pg ws = some k) : k.Ok pg ∧ kdW k = ws := by
  cases ws with
  | nil => cases h
  | cons x rest =>
    rw [kdP_cons] at h
    split at h
    · rename_i e
      split at h
      · rename_i r m e1
        split at h
        · rename_i w v e2
          split at h
          · rename_i ok
            cases h
            refine ⟨ok, ?_⟩
            have j1 := join_part sGT rest
            have j2 := join_part sCO m
            rw [e1] at j1
            rw [e2] at j2
            subst e
            show ("do" : Str) :: (r ++ (sGT :: (w ++ (sCO :: v)))) = _
            rw [show w ++ (sCO :: v) = joinW sCO [w, v] from rfl, j2, show r ++ (sGT :: m) = joinW sGT [r, m] from rfl, j1]
          · cases h
        · cases h
      · cases h
    · split at h
      · rename_i e
        split at h
        · rename_i ok
          cases h
          subst e
          exact ⟨ok, rfl⟩
        · cases h
      · split at h
        · rename_i c
          cases h
          obtain ⟨rfl, ok⟩ := c
          exact ⟨ok, rfl⟩
        · cases h
theorem sub_name {pg l : List Str} (hp : PgOk pg) (h : l.Sublist pg) : ∀ x ∈ l, nameB x = true := fun x hx => hp.name x (h.subset hx)
theorem kdP_of {pg : List Str} (hp : PgOk pg) {k : Kd} (h : k.Ok pg) : kdP pg (kdW k) = some k := by
  cases k with
  | do_ r w v =>
    obtain ⟨h1, h2, h3, h4⟩ := h
    show kdP pg (("do" : Str) :: (r ++ (sGT :: (w ++ (sCO :: v))))) = _
    have nr := names_no (sub_name hp h1) hd_sGT (by decide)
    have nw := names_no (sub_name hp h2) hd_sGT (by decide)
    have nv := names_no (sub_name hp (h4.trans h2)) hd_sGT (by decide)
    have nw2 := names_no (sub_name hp h2) hd_sCO (by decide)
    have nv2 := names_no (sub_name hp (h4.trans h2)) hd_sCO (by decide)
    have e1 : partW sGT (r ++ (sGT :: (w ++ (sCO :: v)))) = [r, w ++ (sCO :: v)] := by
      rw [part_app _ _ _ nr, part_one]
      simp only [List.mem_append, List.mem_cons, not_or]
      exact ⟨nw, by decide, nv⟩
    have e2 : partW sCO (w ++ (sCO :: v)) = [w, v] := by rw [part_app _ _ _ nw2, part_one _ _ nv2]
    rw [kdP_cons, if_pos rfl, e1]
    show (match partW sCO (w ++ (sCO :: v)) with | [w, v] => _ | _ => none) = _
    rw [e2]
    exact if_pos ⟨h1, h2, h3, h4⟩
  | out l =>
    show kdP pg (("out" : Str) :: l) = _
    rw [kdP_cons, if_neg (by decide), if_pos rfl, if_pos h]
  | alone x =>
    show kdP pg [x] = _
    have h1 : x ≠ ("do" : Str) := by rcases h with rfl | rfl | rfl <;> decide
    have h2 : x ≠ ("out" : Str) := by rcases h with rfl | rfl | rfl <;> decide
    rw [kdP_cons, if_neg h1, if_neg h2, if_pos ⟨rfl, h⟩]
/-! ### a step -/
def headW (ws : List Str) : List Str := ws.takeWhile fun x => decide (x ≠ sQ)
def tailW (ws : List Str) : List Str := (ws.dropWhile fun x => decide (x ≠ sQ)).drop 1
noncomputable def stepP (pg ws : List Str) : Option Sd := if sQ ∈ ws then (match kdP pg (headW ws), whenP pg (tailW ws) with
    | some k, some w => some ⟨k, w⟩
    | _, _ => none) else none
theorem head_app {a b : List Str} (h : sQ ∉ a) : headW (a ++ (sQ :: b)) = a ∧ tailW (a ++ (sQ :: b)) = b := by
  induction a with
  | nil => exact ⟨by simp [headW], by simp [tailW]⟩
  | cons x a ih =>
    simp only [List.mem_cons, not_or] at h
    obtain ⟨i1, i2⟩ := ih h.2
    unfold headW at i1
    unfold tailW at i2
    unfold headW tailW
    have hx : decide (x ≠ sQ) = true := decide_eq_true (fun z => h.1 z.symm)
    rw [List.cons_append, List.takeWhile_cons, List.dropWhile_cons, if_pos hx, if_pos hx, i1, i2]
    exact ⟨rfl, rfl⟩
theorem head_tail {ws : List Str} (h : sQ ∈ ws) : ws = headW ws ++ (sQ :: tailW ws) ∧ sQ ∉ headW ws := by
  induction ws with
  | nil => simp at h
  | cons x ws ih =>
    by_cases e : x = sQ
    · subst e
      exact ⟨by simp [headW, tailW], by simp [headW]⟩
    · have h2 : sQ ∈ ws := by
        rcases List.mem_cons.mp
              h with z | z
        · exact absurd z.symm e
        · exact z
      obtain ⟨i1, i2⟩ := ih h2
      have hx : decide (x ≠ sQ) = true := decide_eq_true e
      unfold headW at i1 i2
      unfold tailW at i1
      unfold headW tailW
      rw [List.takeWhile_cons, List.dropWhile_cons, if_pos hx, if_pos hx]
      refine ⟨by rw [List.cons_append, ← i1], ?_⟩
      simp only [List.mem_cons, not_or]
      exact ⟨fun z => e z.symm, i2⟩
theorem stepP_some {pg ws : List Str} {s : Sd} (h : stepP pg ws = some s) : s.Ok pg ∧ stepW s = ws := by
  unfold stepP at h
  split at h
  · rename_i hq
    split at h
    · rename_i k w e1 e2
      cases h
      obtain ⟨h1, h2⟩ := kdP_some e1
      obtain ⟨h3, h4⟩ := whenP_some e2
      refine ⟨⟨h1, h3⟩, ?_⟩
      show kdW k ++ (sQ :: whenW w) = _
      rw [h2, h4]
      exact (head_tail hq).1.symm
    · cases h
  · cases h
theorem kdW_q {pg : List Str} (hp : PgOk pg) {k : Kd} (h : k.Ok pg) : sQ ∉ kdW k := by
  cases k with
  | do_ r w v =>
    obtain ⟨h1, h2, h3, h4⟩ := h
    have nr := names_no (sub_name hp h1) hd_sQ (by decide)
    have nw := names_no (sub_name hp h2) hd_sQ (by decide)
    have nv := names_no (sub_name hp (h4.trans h2)) hd_sQ (by decide)
    simp only [kdW, List.mem_cons, List.mem_append, not_or]
    exact ⟨by decide, nr, by decide, nw, by decide, nv⟩
  | out l =>
    have nl := names_no (sub_name hp h.1) hd_sQ (by decide)
    simp only [kdW, List.mem_cons, not_or]
    exact ⟨by decide, nl⟩
  | alone x =>
    simp only [kdW, List.mem_cons, List.not_mem_nil, or_false]
    rcases h with rfl | rfl | rfl <;> decide
theorem stepP_of {pg : List Str} (hp : PgOk pg) {s : Sd} (h : s.Ok pg) : stepP pg (stepW s) = some s := by
  obtain ⟨e1, e2⟩ := head_app (b := whenW s.wh) (kdW_q hp h.k)
  have hm : sQ ∈ stepW s := by unfold stepW; simp
  unfold stepP
  rw [if_pos hm]
  show (match kdP pg (headW (kdW s.k ++ (sQ :: whenW s.wh))), whenP pg (tailW (kdW s.k ++ (sQ :: whenW s.wh))) with | some k, some w => some (⟨k, w⟩ : Sd) | _, _ => none) = _
  rw [e1, e2, kdP_of hp h.k, whenP_of h.w]
theorem triPs_none {pg : List Str} : ∀ {ps : List (List Str)}, triPs pg ps = none → ∃ p ∈ ps, triP pg p = none
  | [], h => by cases h
  | p :: ps, h => by
    cases e : triP pg p with
    | none => exact ⟨p, by simp, e⟩
    | some t =>
      cases e2 : triPs pg ps with
      | none =>
        obtain ⟨q, hq, z⟩ := triPs_none e2
        exact ⟨q, by simp [hq], z⟩
      | some ts => unfold triPs at h; rw [e, e2] at h; cases h
theorem triPs_no {pg : List Str} : ∀ {ps : List (List Str)} {p : List Str}, p ∈ ps → triP pg p = none → triPs pg ps = none
  | q :: ps, p, hp, h => by
    unfold triPs
    rcases List.mem_cons.mp
          hp with rfl | hp
    · rw [h]
    · rw [triPs_no hp h]
      cases triP pg q <;> rfl
theorem triPs_map {pg : List Str} : ∀ {ps : List (List Str)} {ts : List Tri}, triPs pg ps = some ts → ps.map (triP pg) = ts.map some
  | [], _, h => by cases h; rfl
  | p :: ps, ts, h => by
    unfold triPs at h
    split at h
    · rename_i t us e1 e2
      cases h
      rw [List.map_cons, List.map_cons, e1, triPs_map e2]
    · cases h
def triO : Option Tri → PyData
  | none => .none
  | some t => triD t
theorem partW_mem (sg : Str) : ∀ (ws : List Str), ∀ p ∈ partW sg ws, ∀ x ∈ p, x ∈ ws
  | [], p, hp, x, hx => by simp [partW] at hp; subst hp; cases hx
  | w :: ws, p, hp, x, hx => by
    have ih := partW_mem sg ws
    have ne := partW_ne sg ws
    by_cases h : w = sg
    · have : partW sg (w :: ws) = [] :: partW sg ws := by simp [partW, h]
      rw [this] at hp
      rcases List.mem_cons.mp
            hp with rfl | hp
      · cases hx
      · exact List.mem_cons_of_mem _ (ih p hp x hx)
    · cases e : partW sg ws with
      | nil => exact absurd e ne
      | cons q qs =>
        rw [partW_cons h e] at hp
        rcases List.mem_cons.mp
              hp with rfl | hp
        · rcases List.mem_cons.mp hx with rfl | hx
          · simp
          · exact List.mem_cons_of_mem _ (ih q (by rw [e]; simp) x hx)
        · exact List.mem_cons_of_mem _ (ih p (by rw [e]; simp [hp]) x hx)
theorem head_at {ws : List Str} (h : sQ ∈ ws) : ∃ j, j = (headW ws).length ∧ ws[j]? = some sQ ∧ (∀ m y, m < j → ws[m]? = some y → y ≠ sQ) ∧ headW ws = ws.take j ∧ tailW ws = ws.drop (j + 1) ∧ j < ws.length := by
  obtain ⟨h1, h2⟩ := head_tail h
  have key : ∀ a b : List Str, ws = a ++ (sQ :: b) → sQ ∉ a → ws[a.length]? = some sQ ∧ (∀ m y, m < a.length → ws[m]? = some y → y ≠ sQ) ∧ a = ws.take a.length ∧ b = ws.drop (a.length + 1) ∧ a.length < ws.length := by
    rintro a b rfl n
    refine ⟨?_, fun m y hm hy => ?_, by simp, ?_, by simp⟩
    · rw [List.getElem?_append_right (Nat.le_refl _), Nat.sub_self]; rfl
    · rw [List.getElem?_append_left hm] at hy
      exact fun e => n (e ▸ List.mem_of_getElem? hy)
    · rw [List.drop_append, List.drop_of_length_le (by omega)]
      simp
  exact ⟨_, rfl, key _ _ h1 h2⟩
theorem kdP_do {pg rest : List Str} {k : Kd} (h : kdP pg (("do" : Str) :: rest) = some k) : ∃ r w v, k = .do_ r w v := by
  rw [kdP_cons, if_pos rfl] at h
  split at h
  · split at h
    · split at h
      · cases h; exact ⟨_, _, _, rfl⟩
      · cases h
    · cases h
  · cases h
theorem name_nemp {x : Str} (h : nameB x = true) : x ≠ ("" : Str) := fun e => by
  have := (nameB_len h).1
  rw [e] at this
  revert this; decide
theorem stepW_ne {pg : List Str} (hp : PgOk pg) {s : Sd} (h : s.Ok pg) : ("" : Str) ∉ stepW s := by
  have hs : ∀ {l : List Str}, l.Sublist pg → ("" : Str) ∉ l := fun s m => name_nemp (sub_name hp s _ m) rfl
  have hk : ("" : Str) ∉ kdW s.k := by
    have := h.k
    cases e : s.k with
    | do_ r w v =>
      rw [e] at this
      obtain ⟨h1, h2, h3, h4⟩ := this
      simp only [kdW, List.mem_cons, List.mem_append, not_or]
      exact ⟨by decide, hs h1, by decide, hs h2, by decide, hs (h4.trans h2)⟩
    | out l =>
      rw [e] at this
      simp only [kdW, List.mem_cons, not_or]
      exact ⟨by decide, hs this.1⟩
    | alone x =>
      rw [e] at this
      simp only [kdW, List.mem_cons, List.not_mem_nil, or_false]
      rcases this with rfl | rfl | rfl <;> decide
  have ht : ∀ t : Tri, ("" : Str) ∉ triW t := fun t m => by
    unfold triW at m
    split at m
    · simp at m; revert m; decide
    · rcases triL_hd m with e | e | e <;> revert e <;> decide
  have hw : ("" : Str) ∉ whenW s.wh := by
    cases s.wh with
    | nil => simp [whenW]
    | cons t ts =>
      simp only [whenW, List.mem_append, List.mem_flatten, List.mem_map, not_or, not_exists, not_and]
      refine ⟨ht t, ?_⟩
      rintro l ⟨u, hu, rfl⟩ m
      rcases List.mem_cons.mp
            m with e | e
      · revert e; decide
      · exact ht u e
  unfold stepW
  simp only [List.mem_append, List.mem_cons, not_or]
  exact ⟨hk, by decide, hw⟩
theorem kdP_out {pg l : List Str} (h : (Kd.out l).Ok pg) : kdP pg (("out" : Str) :: l) = some (.out l) := by rw [kdP_cons, if_neg (by decide), if_pos rfl, if_pos h]
theorem kdP_outN {pg l : List Str} (h : ¬ (Kd.out l).Ok pg) : kdP pg (("out" : Str) :: l) = none := by rw [kdP_cons, if_neg (by decide), if_pos rfl, if_neg h]
theorem kdP_alone {pg l : List Str} {x : Str} (h1 : x ≠ ("do" : Str)) (h2 : x ≠ ("out" : Str)) (h : l = [] ∧ (Kd.alone x).Ok pg) : kdP pg (x :: l) = some (.alone x) := by rw [kdP_cons, if_neg h1, if_neg h2, if_pos h]
theorem kdP_aloneN {pg l : List Str} {x : Str} (h1 : x ≠ ("do" : Str)) (h2 : x ≠ ("out" : Str)) (h : ¬ (l = [] ∧ (Kd.alone x).Ok pg)) : kdP pg (x :: l) = none := by rw [kdP_cons, if_neg h1, if_neg h2, if_neg h]
end Lr
set_option Elab.async false
set_option linter.all false
set_option maxRecDepth 100000
set_option maxHeartbeats 4000000
namespace Lr
open PySem PySem.Spec PyProof.Rows L2 TL
local macro_rules | `(tactic| walk_at "ne") => `(tactic| (first | assumption | (refine ne_sym ?_; assumption) | (exact ne_of_none (by assumption) (by assumption)) | (exact ne_sym (ne_of_none (by assumption) (by assumption)))))
local macro_rules | `(tactic| walk_at "h") => `(tactic| (first | assumption | exact upd_same | (refine h_new ?_ (by assumption); walk_at "h") | (refine h_ne (by walk_at "ne") ?_; walk_at "h")))
local macro_rules | `(tactic| walk_at "v1") => `(tactic| (with_reducible first
  | refine i_seq ?_ | refine i_asg ?_ | refine i_ret ?_ | refine i_next ?_ | refine i_drop ?_ | refine i_ifS ?_ | refine i_if ?_ | refine i_and ?_ | refine i_or ?_ | refine i_not ?_ | refine i_test ?_ | refine i_tB ?_ | refine i_bl ?_ | refine i_yes ?_
  | refine i_op ?_ | refine i_un ?_ | refine i_chain ?_ | refine i_andV ?_ | refine i_orV ?_ | refine i_notV ?_ | refine i_cb ?_ | refine i_cons ?_ | refine i_nil ?_ | refine i_bm ?_ | refine i_bm0 ?_ | refine i_c ?_ | refine i_name ?_ | refine i_sub ?_
  | refine i_call ?_ | refine i_lst ?_ | refine i_tup ?_ | refine i_par ?_ | refine i_par2 ?_ | refine i_sl ?_ | refine i_np ?_ | refine i_pt ?_ | refine i_int ?_ | refine i_m0 ?_ | refine i_m1 ?_ | refine i_isS ?_
  | refine i_rI0 ?_ | refine i_inSign ?_ | refine i_notInSign ?_ | refine i_int1 ?_ | refine i_tru ?_ | refine i_isN ?_ | refine i_notN ?_ | refine iteT ?_ | refine iteF ?_ | refine i_brk ?_ | refine i_rt ?_ | refine i_nx ?_ | refine i_bk ?_ | refine i_ct ?_ | refine i_for ?_ | refine i_lc ?_ | refine i_dc ?_ | refine i_iL ?_ | refine i_iT ?_ | refine i_iR1 ?_ | refine i_iR2 ?_ | refine i_iS ?_ | refine i_iE ?_ | refine i_iEK ?_ | refine i_iEQ ?_ | refine i_iZS ?_ | refine i_dget ?_ | refine i_fld ?_ | refine i_sfld ?_ | refine i_dput ?_ | refine i_meth ?_ | refine i_rU ?_ | refine i_cont ?_ | refine i_make ?_))
local macro_rules | `(tactic| walk_at "v2") => `(tactic| (first
  | ((with_reducible refine' i_var ?k1 ?_); (case k1 => exact rfl))
  | ((with_reducible refine' i_eq ?k1 ?_); (case k1 => exact rfl))
  | ((with_reducible refine' i_ne ?k1 ?_); (case k1 => exact rfl))
  | ((with_reducible refine' i_ixL ?k1 ?k2 ?_); (case k1 => walk_at "h"); (case k2 => exact rfl))
  | ((with_reducible refine' i_ixT ?k1 ?k2 ?_); (case k1 => walk_at "h"); (case k2 => exact rfl))
  | ((with_reducible refine' i_lenL ?k1 ?_); (case k1 => walk_at "h"))
  | ((with_reducible refine' i_lenT ?k1 ?_); (case k1 => walk_at "h"))
  | (refine i_wipe (show wipe _ _ = wipe _ _ from rfl) ?_)
  | ((with_reducible refine' i_setL ?k1 ?k2 ?_); (case k1 => walk_at "h"); (case k2 => exact rfl))
  | ((with_reducible refine' i_tyl ?k1 ?_); (case k1 => walk_at "h"))))
local macro_rules | `(tactic| walk_at "v") => `(tactic| repeat (first | walk_at "v1" | walk_at "v2"))

variable {P : Program} {w : World} {K :
      PySem.W.Frag} {mg : Str → Option Value} {base : Heap}
abbrev sparted : Stmt := top 25
abbrev Nparted : List Str := ["words", "sign", "found", "word"]
abbrev Pparted : List Str := ["words", "sign"]
theorem scparted : FnScope Nparted Pparted (defScope sparted) := ⟨rfl, rfl, rfl, by decide +kernel, rfl, by decide +kernel, by decide +kernel⟩
abbrev s_law_nsplit : Stmt := top 51
abbrev N_law_nsplit : List Str := ["words", "sign", "found", "word"]
abbrev P_law_nsplit : List Str := ["words", "sign"]
theorem sc_law_nsplit : FnScope N_law_nsplit P_law_nsplit (defScope s_law_nsplit) := ⟨rfl, rfl, rfl, by decide +kernel, rfl, by decide +kernel, by decide +kernel⟩
def lstS (l : List Str) : PyData := .list (l.map .str)
def partD (ps : List (List Str)) : PyData := .list (ps.map lstS)
def spParted : Sp := fun vs H Q _ => ∃ (W : Addr) (ws : List Str) (sg : Str), vs = [.ref W, .str sg] ∧ H W = some (.lst (ws.map V.str)) ∧ ws.length ≤ 1000 ∧ ∀ q H', New H H' (partD (partW sg ws)) (.ref q) → Same H H' → Q (.ref q) H'
/-- words taken apart so far: a list at f of lists, the last one still grown -/
structure PartAt (H H' : Hp) (f : Addr) (ps : List (List Str)) : Prop where
  ex : ∃ (qs : List V) (ql : Addr) (last : List Str) (init : List (List Str)), ps = init ++ [last] ∧ H' f = some (.lst (qs ++ [.ref ql])) ∧ H' ql = some (.lst (last.map V.str)) ∧ qs.length = init.length ∧ (∀ S, Trk S H → DtAll (ql :: f :: S) H' (init.map lstS) qs) ∧ ql ≠ f ∧ H ql = none
  fr : H f = none
  sm : Same H H'
theorem PartAt.start {H : Hp} {q0 f : Addr} (h0 : H q0 = none) (hf : upd H q0 (.lst []) f = none) : PartAt H (upd (upd H q0 (.lst [])) f (.lst [.ref q0])) f [[]] := by
  have ne : q0 ≠ f := fun e => by subst e; rw [upd_same] at hf; cases hf
  have hf0 : H f = none := by rw [upd_ne ne.symm] at hf; exact hf
  exact ⟨⟨[], q0, [], [], rfl, upd_same, by rw [upd_ne ne]; exact upd_same, rfl, fun _ _ => DtAll.nil, ne, h0⟩, hf0, ((Same.refl H).new h0).new hf⟩
theorem PartAt.split {H H' : Hp} {f : Addr} {ps : List (List Str)} (p : PartAt H H' f ps) {q : Addr} (hq : H' q = none) : ∃ xs, H' f = some (.lst xs) ∧ xs.length = ps.length ∧ PartAt H (upd (upd H' q (.lst [])) f (.lst (xs ++ [.ref q]))) f (ps ++ [[]]) := by
  obtain ⟨⟨qs, ql, last, init, rfl, hf, hl, le, da, ne, fl⟩, fr, sm⟩ := p
  have nqf : q ≠ f := fun e => by subst e; rw [hf] at hq; cases hq
  have nql : ql ≠ q := fun e => by subst e; rw [hl] at hq; cases hq
  have s1 : Same H (upd H' q (.lst [])) := sm.new hq
  refine ⟨_, hf, by simp [le], ⟨qs ++ [.ref ql], q, [], init ++ [last], by simp, upd_same, by rw [upd_ne nqf]; exact upd_same, by simp [le], fun S t => ?_, nqf, (Keep.of_same (S := []) sm).free hq⟩, fr, s1.put fr⟩
  have k1 : Keep (f :: S) H' (upd (upd H' q (.lst [])) f (.lst (qs ++ [.ref ql] ++ [.ref q]))) := ((Keep.refl _ _).new hq).put (by simp)
  rw [List.map_append]
  have aq : ∀ t ∈ [q], H' t = none := fun t ht => by simp at ht; rw [ht]; exact hq
  have d1 : Dt (f :: S) H' (lstS last) (.ref ql) := dt_list hl (DtAll.strs last) (by simp only [List.mem_cons, not_or]; exact ⟨ne, t.nm fl⟩)
  have a1 := DtAll.append (DtAll.mono (S := f :: S) (fun x hx => List.mem_cons_of_mem _ hx) _ _ (da S t)) (DtAll.one d1)
  have a2 : DtAll (q :: f :: S) H' (init.map lstS ++ [lstS last]) (qs ++ [.ref ql]) := DtAll.avoid1 aq a1
  exact DtAll.keep (k1.mono (fun x hx => List.mem_cons_of_mem _ hx)) _ _ a2
theorem PartAt.add {H H' : Hp} {f : Addr} {ps : List (List Str)} (p : PartAt H H' f ps) (w : Str) : ∃ (xs : List V) (ql : Addr) (last : List Str), H' f = some (.lst (xs ++ [.ref ql])) ∧ H' ql = some (.lst (last.map V.str)) ∧ last = ps.getLastD [] ∧ PartAt H (upd H' ql (.lst (last.map V.str ++ [.str w]))) f (ps.dropLast ++ [ps.getLastD [] ++ [w]]) := by
  obtain ⟨⟨qs, ql, last, init, rfl, hf, hl, le, da, ne, fl⟩, fr, sm⟩ := p
  refine ⟨qs, ql, last, hf, hl, by simp, ⟨qs, ql, last ++ [w], init, by simp, by rw [upd_ne ne.symm]; exact hf, by rw [List.map_append]; exact upd_same, le, fun S t => ?_, ne, fl⟩, fr, sm.put fl⟩
  exact DtAll.keep ((Keep.refl _ _).put (by simp)) _ _ (da S t)
theorem PartAt.done {H H' : Hp} {f : Addr} {ps : List (List Str)} (p : PartAt H H' f ps) : New H H' (partD ps) (.ref f) := fun S t => by
  obtain ⟨⟨qs, ql, last, init, rfl, hf, hl, le, da, ne, fl⟩, fr, sm⟩ := p
  unfold partD
  refine dt_list hf ?_ (t.nm fr)
  rw [List.map_append]
  exact DtAll.append (DtAll.mono (fun x hx => List.mem_cons_of_mem _ (List.mem_cons_of_mem _ hx)) _ _ (da S t)) (DtAll.one (dt_list hl (DtAll.strs last) (t.nm fl)))
theorem ok_parted (d : Fd K mg "parted" sparted Pparted) (B : Blt mg) : FnOk P w K mg base CX0 1 d.f d.fd Pparted spParted := by
  refine d.F.ok scparted (fun vs H Q E h => ?_) (fun cdv A outer s H vs Q E hr h => ?_)
  · obtain ⟨W, ws, sg, rfl, _⟩ := h
    rfl
  · obtain ⟨W, ws, sg, rfl, hW, hl, k⟩ := h
    refine ⟨_, (pss_cons (ps_set (i := 2) scparted.nd rfl (by first | exact Or.inl rfl | exact Or.inr rfl) (pe_lst (pa_cons (pe_lst pa_nil) pa_nil)))
      (pss_cons (ps_for PassesOwn.never rfl (w_list K (pv 0)) (pg_name (i := 3) scparted.nd rfl (by first | exact Or.inl rfl | exact Or.inr rfl))
      (pss_one (ps_if (pt_cmpR op_eq (pv 3) (pv 1) (nomark _)) (pss_one (ps_expr (e_bm K PySem.F.plainAttrs_list PySem.F.slot_list_append PySem.F.type_list_append mt_append (pv 2) (pa_cons (pe_lst pa_nil) pa_nil)))) (pss_one (ps_expr (e_bm K PySem.F.plainAttrs_list PySem.F.slot_list_append PySem.F.type_list_append mt_append (pe_ix (x_list K) (pv 2) (pe_un un_neg pe_int) (fun _ _ => rfl)) (pa_cons (pv 3) pa_nil)))))))
      (pss_one (ps_ret (pv 2))))), ?_⟩
    walk_at "v"
    refine ⟨show 0 ≤ sizeLine by decide, fun q0 hq0 => ?_⟩
    walk_at "v"
    refine ⟨show 1 ≤ sizeLine by decide, fun f hf => ?_⟩
    walk_at "v"
    refine w_lst (((Same.refl H).new hq0).new hf _ _ hW) ?_
    refine for_by (walk_list (xs := ws.map V.str)) ⟨fun i σ H' => (∃ v3 : Option V, σ = [some (.ref W), some (.str sg), some (.ref f), v3]) ∧ PartAt H H' f (partW sg (ws.take i)) , ?_, fun i σ H' _ ⟨_, p⟩ => SqL.of (p.sm _ _ hW), ?_, ?_⟩
    · exact ⟨⟨_, rfl⟩, PartAt.start hq0 hf⟩
    · rintro i x σ H2 H1 hi ⟨⟨v3, rfl⟩, p⟩ ⟨rfl, hx⟩
      rw [List.getElem?_map] at hx
      obtain ⟨x, hxi, rfl⟩ := Option.map_eq_some_iff.mp hx
      have et : ws.take (i + 1) = ws.take i ++ [x] := by rw [List.take_succ, hxi]; rfl
      walk_at "v"
      rw [dec_strE]
      have es := partW_snoc sg x (ws.take i)
      rw [← et] at es
      have lp := partW_len sg (ws.take i)
      have li : (ws.take i).length ≤ 1000 := by rw [List.length_take]; omega
      by_cases e : x = sg
      · rw [if_pos e] at es
        rw [decide_eq_true e]
        refine iteT ?_
        obtain ⟨xs0, h0⟩ : ∃ xs0, H1 f = some (.lst xs0) := by
          obtain ⟨⟨qs, ql, last, init, _, hf, _⟩, _⟩ := p
          exact ⟨_, hf⟩
        walk_at "v"
        refine ⟨show 0 ≤ sizeLine by decide, fun q hq => ?_⟩
        obtain ⟨xs, h1, l1, p1⟩ := p.split hq
        obtain rfl : xs = xs0 := by rw [h0] at h1; cases h1; rfl
        walk_at "v"
        refine i_app (h_new h1 hq) (Nat.lt_of_le_of_lt (by omega : xs.length ≤ 1001) (by decide)) ?_
        walk_at "v"
        refine ⟨⟨_, rfl⟩, ?_⟩
        show PartAt H _ f (partW sg (ws.take (i + 1)))
        rw [es]
        exact p1
      · rw [if_neg e] at es
        rw [decide_eq_false e]
        refine iteF ?_
        walk_at "v"
        obtain ⟨xs, ql, last, h1, h2, el, p1⟩ := p.add x
        refine i_ixL h1 (atI_last _ _) ?_
        walk_at "v"
        refine i_app h2 (by
          rw [List.length_map, el]
          have := partW_all sg (ws.take i) _ (partW_last sg (ws.take i))
          exact Nat.lt_of_le_of_lt (Nat.le_trans this li) (by decide)) ?_
        walk_at "v"
        refine ⟨⟨_, rfl⟩, ?_⟩
        show PartAt H _ f (partW sg (ws.take (i + 1)))
        rw [es]
        exact p1
    · rintro σ H1 ⟨⟨v3, rfl⟩, p⟩
      rw [List.length_map, List.take_length] at p
      walk_at "v"
      exact k _ _ p.done p.sm
theorem ok_nsplit (d : Fd K mg "_law_nsplit" s_law_nsplit P_law_nsplit) (B : Blt mg) : FnOk P w K mg base CX0 1 d.f d.fd P_law_nsplit spParted := by
  refine d.F.ok sc_law_nsplit (fun vs H Q E h => ?_) (fun cdv A outer s H vs Q E hr h => ?_)
  · obtain ⟨W, ws, sg, rfl, _⟩ := h
    rfl
  · obtain ⟨W, ws, sg, rfl, hW, hl, k⟩ := h
    refine ⟨_, (pss_cons (ps_set (i := 2) sc_law_nsplit.nd rfl (by first | exact Or.inl rfl | exact Or.inr rfl) (pe_lst (pa_cons (pe_lst pa_nil) pa_nil)))
      (pss_cons (ps_for PassesOwn.never rfl (w_list K (pv 0)) (pg_name (i := 3) sc_law_nsplit.nd rfl (by first | exact Or.inl rfl | exact Or.inr rfl))
      (pss_one (ps_if (pt_cmpR op_eq (pv 3) (pv 1) (nomark _)) (pss_one (ps_expr (e_bm K PySem.F.plainAttrs_list PySem.F.slot_list_append PySem.F.type_list_append mt_append (pv 2) (pa_cons (pe_lst pa_nil) pa_nil)))) (pss_one (ps_expr (e_bm K PySem.F.plainAttrs_list PySem.F.slot_list_append PySem.F.type_list_append mt_append (pe_ix (x_list K) (pv 2) (pe_un un_neg pe_int) (fun _ _ => rfl)) (pa_cons (pv 3) pa_nil)))))))
      (pss_one (ps_ret (pv 2))))), ?_⟩
    walk_at "v"
    refine ⟨show 0 ≤ sizeLine by decide, fun q0 hq0 => ?_⟩
    walk_at "v"
    refine ⟨show 1 ≤ sizeLine by decide, fun f hf => ?_⟩
    walk_at "v"
    refine w_lst (((Same.refl H).new hq0).new hf _ _ hW) ?_
    refine for_by (walk_list (xs := ws.map V.str)) ⟨fun i σ H' => (∃ v3 : Option V, σ = [some (.ref W), some (.str sg), some (.ref f), v3]) ∧ PartAt H H' f (partW sg (ws.take i)) , ?_, fun i σ H' _ ⟨_, p⟩ => SqL.of (p.sm _ _ hW), ?_, ?_⟩
    · exact ⟨⟨_, rfl⟩, PartAt.start hq0 hf⟩
    · rintro i x σ H2 H1 hi ⟨⟨v3, rfl⟩, p⟩ ⟨rfl, hx⟩
      rw [List.getElem?_map] at hx
      obtain ⟨x, hxi, rfl⟩ := Option.map_eq_some_iff.mp hx
      have et : ws.take (i + 1) = ws.take i ++ [x] := by rw [List.take_succ, hxi]; rfl
      walk_at "v"
      rw [dec_strE]
      have es := partW_snoc sg x (ws.take i)
      rw [← et] at es
      have lp := partW_len sg (ws.take i)
      have li : (ws.take i).length ≤ 1000 := by rw [List.length_take]; omega
      by_cases e : x = sg
      · rw [if_pos e] at es
        rw [decide_eq_true e]
        refine iteT ?_
        obtain ⟨xs0, h0⟩ : ∃ xs0, H1 f = some (.lst xs0) := by
          obtain ⟨⟨qs, ql, last, init, _, hf, _⟩, _⟩ := p
          exact ⟨_, hf⟩
        walk_at "v"
        refine ⟨show 0 ≤ sizeLine by decide, fun q hq => ?_⟩
        obtain ⟨xs, h1, l1, p1⟩ := p.split hq
        obtain rfl : xs = xs0 := by rw [h0] at h1; cases h1; rfl
        walk_at "v"
        refine i_app (h_new h1 hq) (Nat.lt_of_le_of_lt (by omega : xs.length ≤ 1001) (by decide)) ?_
        walk_at "v"
        refine ⟨⟨_, rfl⟩, ?_⟩
        show PartAt H _ f (partW sg (ws.take (i + 1)))
        rw [es]
        exact p1
      · rw [if_neg e] at es
        rw [decide_eq_false e]
        refine iteF ?_
        walk_at "v"
        obtain ⟨xs, ql, last, h1, h2, el, p1⟩ := p.add x
        refine i_ixL h1 (atI_last _ _) ?_
        walk_at "v"
        refine i_app h2 (by
          rw [List.length_map, el]
          have := partW_all sg (ws.take i) _ (partW_last sg (ws.take i))
          exact Nat.lt_of_le_of_lt (Nat.le_trans this li) (by decide)) ?_
        walk_at "v"
        refine ⟨⟨_, rfl⟩, ?_⟩
        show PartAt H _ f (partW sg (ws.take (i + 1)))
        rw [es]
        exact p1
    · rintro σ H1 ⟨⟨v3, rfl⟩, p⟩
      rw [List.length_map, List.take_length] at p
      walk_at "v"
      exact k _ _ p.done p.sm
end Lr
set_option Elab.async false
set_option linter.all false
set_option maxRecDepth 100000
set_option maxHeartbeats 4000000
/-! Vz: for c, x in zip(text, list or tuple). -/
namespace Lr
open PySem PySem.Spec PyProof.Rows L2 RZ
theorem strIter_at {h h' : Heap} {a : Addr} {T : String} {x : Str} {t : Tok} {i : Nat} (u : h.IsStrIter a T x t i) (k : ∀ o, h.get? a = some o → h'.get? a = some o) : h'.IsStrIter a T x t i :=
  let ⟨o, ho, r⟩ := u; ⟨o, k o ho, r⟩
theorem listIter_at {h h' : Heap} {a t : Addr} {i : Nat} (u : h.IsListIter a t i) (k : ∀ o, h.get? a = some o → h'.get? a = some o) : h'.IsListIter a t i := u.at k
/-- the text x and the list at b, the items in new pairs -/
def ItzSL (K : PySem.W.Frag) (x : Str) (b : Addr) : It where
  go := fun i H => ∃ (ys : List V) (y : V) (c : Nat), SqL K H b ys ∧ ys[i]? = some y ∧ x.cps[i]? = some c
  yld := fun i H v H' => ∃ T y c, v = .ref T ∧ H T = none ∧ H' = upd H T (.tup [.str ⟨#[c]⟩, y]) ∧ x.cps[i]? = some c ∧ ∀ ys, SqL K H b ys → ys[i]? = some y
  stop := fun i H => ∃ ys : List V, SqL K H b ys ∧ i ≤ x.cps.size ∧ i ≤ ys.length ∧ (i = x.cps.size ∨ i = ys.length)
theorem turn_zipSL {P : Program} {w : World} {K : PySem.W.Frag} {elts : List Expr} {kk : Nat} {tpos : Pos} {x : Str} {t : Tok} {b z TI TO i1 i2 : Addr} (D : ZipSep2 z TI TO i1 i2 [i1] [i2, b]) (nb : b ≠ i2) :
    Turn P w K (.Tuple elts kk tpos) (ItzSL K x b) [z, TI, TO, i1, i2] z (fun i h => IsZip h z TI TO .none ∧ IsTupOf2 h TI (.ref i1) (.ref i2) ∧ (∃ u v, IsTupOf2 h TO u v) ∧ h.IsStrIter i1 (strIterType x) x t i ∧ h.IsListIter i2 b i) := by
  refine ⟨by simp, ?_, ?_, ?_, ?_, ?_⟩
  · intro i h st c hc
    obtain ⟨hz, hTI, ⟨u, v, hTO⟩, ⟨o1, e1, c1, d1⟩, ⟨o2, e2, c2, d2⟩⟩ := st
    have e' : c = z ∨ c = TI ∨ c = TO ∨
          c = i1 ∨ c = i2 := by simpa using hc
    rcases e' with
          q | q | q | q | q
    · rw [q]; exact ⟨_, hz,
          fun v q => nomatch q⟩
    · rw [q]; exact ⟨_, hTI,
          fun v q => nomatch q⟩
    · rw [q]; exact ⟨_, hTO,
          fun v q => nomatch q⟩
    · rw [q]; exact ⟨o1, e1, fun v
          q => by rw [d1] at q; cases q⟩
    · rw [q]; exact ⟨o2, e2, fun v
          q => by rw [d2] at q; cases q⟩
  · intro i h h' st k
    obtain ⟨hz, hTI, ⟨u, v, hTO⟩, h1, h2⟩ := st
    exact ⟨k z (by simp) _ hz, k TI (by simp) _ hTI, ⟨u, v, k TO (by simp) _ hTO⟩, strIter_at h1 fun o q => k i1 (by simp) o q, listIter_at h2 fun o q => k i2 (by simp) o q⟩
  · intro X hP hw hK hc i pins s σ H E I hf st hg
    subst hP hw hK
    obtain ⟨hz, hTI, ⟨u0, v0, hTO⟩, h1, h2⟩ := st
    obtain ⟨ys, y, c, hqy, hy, hcx⟩ := hg
    obtain ⟨its2, rv2,
          p2, _⟩ := I.list hqy
    obtain ⟨u2, hu2,
          ru2⟩ := rv2.get hy
    have hzl : z < s.heap.objs.size
          := Heap.lt_size hz
    have D1 := Draws.text (prog := X.prog) (w := X.w) (A := X.A.in1) (I.ok.hd hc) i1 x t
    have D2 := Draws.list (prog := X.prog) (w := X.w) (A := X.A.in1) (I.ok.hd hc) i2 b nb its2.toArray
    have hl2 : i < its2.toArray.size := by
      have := (List.getElem?_eq_some_iff.mp hu2).1
      simpa using this
    have hl1 : i < x.cps.size := by
      have := (Array.getElem?_eq_some_iff.mp hcx).1
      exact this
    refine wpAny_pyNext_zipD2_item D D1 D2 hz hTI hTO h1 ⟨h2, p2.isList⟩ hl1 hl2 fun x1 x2 h' tk y1 y2 z' TO' h1' h2' hT hsz hk => ?_
    obtain ⟨c', t', hc', rfl⟩ := y1
    obtain rfl : c' = c := by rw [hcx] at hc'; cases hc'; rfl
    have ex : x2 = u2 := by
      have : its2[i]? = some x2 := by simpa using y2
      rw [hu2] at this; cases this; rfl
    subst ex
    refine ⟨_, rfl, wpAny_letOwnedTupleGo_zip (s := { s with heap := h', toks := tk }) z' fun h'' z'' sb => ?_⟩
    have hT2 : h''.get? s.heap.objs.size = some { cls := .type "tuple", data := .seq #[.str ⟨#[c']⟩ t', x2] } := (sb.2 _ (Nat.ne_of_gt hzl)).trans hT
    have new : ObjOk X.prog X.w (upd H s.heap.objs.size (.tup [.str ⟨#[c']⟩, y])) h'' s.heap.objs.size (.tup [.str ⟨#[c']⟩, y]) :=
      ⟨by show 2 ≤ sizeLine; decide, [.str ⟨#[c']⟩ t', x2], .cons ⟨_, rfl⟩ (.cons ru2 .nil), ⟨_, hT2, rfl, _, rfl⟩⟩
    have I1 : Inv X pins σ (upd H s.heap.objs.size (.tup [.str ⟨#[c']⟩, y])) { s with heap := h'', toks := tk } :=
      I.turnedNew (ch := [z, TI, TO, i1, i2]) (fun c o hb q => (sb.2 c (fun q' => hb (by simp [q']))).trans (hk c o (fun q' => hb (by simp [q'])) (fun q' => hb (by simp [q'])) (fun q' => hb (by simp [q'])) (fun q' => hb (by simp [q'])) q)) hf (Nat.le_refl _) new
    refine ⟨.ref s.heap.objs.size, _, I1, rfl, ⟨_, y, c', rfl, I.hok.fresh (Nat.le_refl _), rfl, hcx, fun l hl => by rw [I.list_inj hl hqy]; exact hy⟩, ⟨z'', ?_, ⟨.str ⟨#[c']⟩ t', x2, ?_⟩, ?_, ?_⟩, fun c hcm => ?_⟩
    · exact (sb.2 _ D.TIz).trans (hk _
          _ D.TIz D.TITO D.TIi1 D.TIi2 hTI)
    · exact (sb.2 _
          D.TOz).trans TO'
    · exact strIter_at h1' fun o q => (sb.2 _ D.zi1.symm).trans q
    · exact listIter_at h2'.1 fun o q => (sb.2 _ D.zi2.symm).trans q
    · have hlt : c <
          s.heap.objs.size := by
        have e' : c = z ∨ c = TI ∨ c = TO ∨
              c = i1 ∨ c = i2 := by simpa using hcm
        rcases e' with
              q | q | q | q | q
        · rw [q]; exact hzl
        · rw [q]; exact
              Heap.lt_size hTI
        · rw [q]; exact
              Heap.lt_size hTO
        · rw [q]; obtain ⟨_, e1, _⟩
              := h1; exact Heap.lt_size e1
        · rw [q]; obtain ⟨_, e2, _⟩
              := h2; exact Heap.lt_size e2
      rw [upd_ne
            (Nat.ne_of_lt hlt)]
      exact (hf c hcm).1
  · intro X hP hw hK hc i pins s σ H E I hf st hg
    subst hP hw hK
    obtain ⟨hz, hTI, ⟨u0, v0, hTO⟩, h1, h2⟩ := st
    obtain ⟨ys, hqy, le1, le2, hend⟩ := hg
    obtain ⟨its2, rv2,
          p2, _⟩ := I.list hqy
    have l2 := rv2.length
    have D1 := Draws.text (prog := X.prog) (w := X.w) (A := X.A.in1) (I.ok.hd hc) i1 x t
    have D2 := Draws.list (prog := X.prog) (w := X.w) (A := X.A.in1) (I.ok.hd hc) i2 b nb its2.toArray
    have es : its2.toArray.size = ys.length := by simp; omega
    refine wpAny_pyNext_zipD2_end D D1 D2 hz hTI hTO h1 ⟨h2, p2.isList⟩ le1 (by omega) (by rw [es]; exact hend) fun h' tk hk => ⟨rfl, I.turnedL (t' := tk) (ch := [z, TI, TO, i1, i2]) (fun c o hb q =>
      hk c o (fun q' => hb (by simp [q'])) (fun q' => hb (by simp [q']))
            (fun q' => hb (by simp [q'])) (fun q' => hb (by simp [q'])) q) hf⟩
  · exact fun A i s Q E st h => wpAny_pyIter_zip st.1 h
theorem walk_zipSL {K : PySem.W.Frag} {x : Str} {b : Addr} {ys : List V} : Walk (ItzSL K x b) (min x.cps.size ys.length) (fun H => SqL K H b ys) (YPair (fun i => (x.cps[i]?).map fun c => V.str ⟨#[c]⟩) (fun i => ys[i]?)) := by
  refine ⟨fun i _ hi q => ⟨ys, ys[i]'(by omega), x.cps[i]'(by omega), q, by simp, by simp⟩, fun _ q => ⟨ys, q, by omega, by omega, by omega⟩, fun i H v H' _ q y => ?_⟩
  obtain ⟨T, y, c, h1, h2, h3, h4, h5⟩ := y
  exact ⟨T, _, y, h1, h2, h3, by show Option.map _ (x.cps[i]?) = _; rw [h4]; rfl, h5 ys q⟩
/-- the text x and the tuple at b, the items in new pairs -/
def ItzST (K : PySem.W.Frag) (x : Str) (b : Addr) : It where
  go := fun i H => ∃ (ys : List V) (y : V) (c : Nat), SqT K H b ys ∧ ys[i]? = some y ∧ x.cps[i]? = some c
  yld := fun i H v H' => ∃ T y c, v = .ref T ∧ H T = none ∧ H' = upd H T (.tup [.str ⟨#[c]⟩, y]) ∧ x.cps[i]? = some c ∧ ∀ ys, SqT K H b ys → ys[i]? = some y
  stop := fun i H => ∃ ys : List V, SqT K H b ys ∧ i ≤ x.cps.size ∧ i ≤ ys.length ∧ (i = x.cps.size ∨ i = ys.length)
theorem turn_zipST {P : Program} {w : World} {K : PySem.W.Frag} {elts : List Expr} {kk : Nat} {tpos : Pos} {x : Str} {t : Tok} {b z TI TO i1 i2 : Addr} (D : ZipSep2 z TI TO i1 i2 [i1] [i2, b]) (nb : b ≠ i2) :
    Turn P w K (.Tuple elts kk tpos) (ItzST K x b) [z, TI, TO, i1, i2] z (fun i h => IsZip h z TI TO .none ∧ IsTupOf2 h TI (.ref i1) (.ref i2) ∧ (∃ u v, IsTupOf2 h TO u v) ∧ h.IsStrIter i1 (strIterType x) x t i ∧ h.IsTupleIter i2 b i) := by
  refine ⟨by simp, ?_, ?_, ?_, ?_, ?_⟩
  · intro i h st c hc
    obtain ⟨hz, hTI, ⟨u, v, hTO⟩, ⟨o1, e1, c1, d1⟩, ⟨o2, e2, c2, d2⟩⟩ := st
    have e' : c = z ∨ c = TI ∨ c = TO ∨
          c = i1 ∨ c = i2 := by simpa using hc
    rcases e' with
          q | q | q | q | q
    · rw [q]; exact ⟨_, hz,
          fun v q => nomatch q⟩
    · rw [q]; exact ⟨_, hTI,
          fun v q => nomatch q⟩
    · rw [q]; exact ⟨_, hTO,
          fun v q => nomatch q⟩
    · rw [q]; exact ⟨o1, e1, fun v
          q => by rw [d1] at q; cases q⟩
    · rw [q]; exact ⟨o2, e2, fun v
          q => by rw [d2] at q; cases q⟩
  · intro i h h' st k
    obtain ⟨hz, hTI, ⟨u, v, hTO⟩, h1, h2⟩ := st
    exact ⟨k z (by simp) _ hz, k TI (by simp) _ hTI, ⟨u, v, k TO (by simp) _ hTO⟩, strIter_at h1 fun o q => k i1 (by simp) o q, isTupIter_at h2 fun o q => k i2 (by simp) o q⟩
  · intro X hP hw hK hc i pins s σ H E I hf st hg
    subst hP hw hK
    obtain ⟨hz, hTI, ⟨u0, v0, hTO⟩, h1, h2⟩ := st
    obtain ⟨ys, y, c, hqy, hy, hcx⟩ := hg
    obtain ⟨its2, rv2,
          p2, _⟩ := I.tuple hqy
    obtain ⟨u2, hu2,
          ru2⟩ := rv2.get hy
    have hzl : z < s.heap.objs.size
          := Heap.lt_size hz
    have D1 := Draws.text (prog := X.prog) (w := X.w) (A := X.A.in1) (I.ok.hd hc) i1 x t
    have D2 := Draws.tuple (prog := X.prog) (w := X.w) (A := X.A.in1) (I.ok.hd hc) i2 b nb its2.toArray
    have hl2 : i < its2.toArray.size := by
      have := (List.getElem?_eq_some_iff.mp hu2).1
      simpa using this
    have hl1 : i < x.cps.size := by
      have := (Array.getElem?_eq_some_iff.mp hcx).1
      exact this
    refine wpAny_pyNext_zipD2_item D D1 D2 hz hTI hTO h1 ⟨h2, p2⟩ hl1 hl2 fun x1 x2 h' tk y1 y2 z' TO' h1' h2' hT hsz hk => ?_
    obtain ⟨c', t', hc', rfl⟩ := y1
    obtain rfl : c' = c := by rw [hcx] at hc'; cases hc'; rfl
    have ex : x2 = u2 := by
      have : its2[i]? = some x2 := by simpa using y2
      rw [hu2] at this; cases this; rfl
    subst ex
    refine ⟨_, rfl, wpAny_letOwnedTupleGo_zip (s := { s with heap := h', toks := tk }) z' fun h'' z'' sb => ?_⟩
    have hT2 : h''.get? s.heap.objs.size = some { cls := .type "tuple", data := .seq #[.str ⟨#[c']⟩ t', x2] } := (sb.2 _ (Nat.ne_of_gt hzl)).trans hT
    have new : ObjOk X.prog X.w (upd H s.heap.objs.size (.tup [.str ⟨#[c']⟩, y])) h'' s.heap.objs.size (.tup [.str ⟨#[c']⟩, y]) :=
      ⟨by show 2 ≤ sizeLine; decide, [.str ⟨#[c']⟩ t', x2], .cons ⟨_, rfl⟩ (.cons ru2 .nil), ⟨_, hT2, rfl, _, rfl⟩⟩
    have I1 : Inv X pins σ (upd H s.heap.objs.size (.tup [.str ⟨#[c']⟩, y])) { s with heap := h'', toks := tk } :=
      I.turnedNew (ch := [z, TI, TO, i1, i2]) (fun c o hb q => (sb.2 c (fun q' => hb (by simp [q']))).trans (hk c o (fun q' => hb (by simp [q'])) (fun q' => hb (by simp [q'])) (fun q' => hb (by simp [q'])) (fun q' => hb (by simp [q'])) q)) hf (Nat.le_refl _) new
    refine ⟨.ref s.heap.objs.size, _, I1, rfl, ⟨_, y, c', rfl, I.hok.fresh (Nat.le_refl _), rfl, hcx, fun l hl => by rw [I.tuple_inj hl hqy]; exact hy⟩, ⟨z'', ?_, ⟨.str ⟨#[c']⟩ t', x2, ?_⟩, ?_, ?_⟩, fun c hcm => ?_⟩
    · exact (sb.2 _ D.TIz).trans (hk _
          _ D.TIz D.TITO D.TIi1 D.TIi2 hTI)
    · exact (sb.2 _
          D.TOz).trans TO'
    · exact strIter_at h1' fun o q => (sb.2 _ D.zi1.symm).trans q
    · exact isTupIter_at h2'.1 fun o q => (sb.2 _ D.zi2.symm).trans q
    · have hlt : c <
          s.heap.objs.size := by
        have e' : c = z ∨ c = TI ∨ c = TO ∨
              c = i1 ∨ c = i2 := by simpa using hcm
        rcases e' with
              q | q | q | q | q
        · rw [q]; exact hzl
        · rw [q]; exact
              Heap.lt_size hTI
        · rw [q]; exact
              Heap.lt_size hTO
        · rw [q]; obtain ⟨_, e1, _⟩
              := h1; exact Heap.lt_size e1
        · rw [q]; obtain ⟨_, e2, _⟩
              := h2; exact Heap.lt_size e2
      rw [upd_ne
            (Nat.ne_of_lt hlt)]
      exact (hf c hcm).1
  · intro X hP hw hK hc i pins s σ H E I hf st hg
    subst hP hw hK
    obtain ⟨hz, hTI, ⟨u0, v0, hTO⟩, h1, h2⟩ := st
    obtain ⟨ys, hqy, le1, le2, hend⟩ := hg
    obtain ⟨its2, rv2,
          p2, _⟩ := I.tuple hqy
    have l2 := rv2.length
    have D1 := Draws.text (prog := X.prog) (w := X.w) (A := X.A.in1) (I.ok.hd hc) i1 x t
    have D2 := Draws.tuple (prog := X.prog) (w := X.w) (A := X.A.in1) (I.ok.hd hc) i2 b nb its2.toArray
    have es : its2.toArray.size = ys.length := by simp; omega
    refine wpAny_pyNext_zipD2_end D D1 D2 hz hTI hTO h1 ⟨h2, p2⟩ le1 (by omega) (by rw [es]; exact hend) fun h' tk hk => ⟨rfl, I.turnedL (t' := tk) (ch := [z, TI, TO, i1, i2]) (fun c o hb q =>
      hk c o (fun q' => hb (by simp [q'])) (fun q' => hb (by simp [q']))
            (fun q' => hb (by simp [q'])) (fun q' => hb (by simp [q'])) q) hf⟩
  · exact fun A i s Q E st h => wpAny_pyIter_zip st.1 h
theorem walk_zipST {K : PySem.W.Frag} {x : Str} {b : Addr} {ys : List V} : Walk (ItzST K x b) (min x.cps.size ys.length) (fun H => SqT K H b ys) (YPair (fun i => (x.cps[i]?).map fun c => V.str ⟨#[c]⟩) (fun i => ys[i]?)) := by
  refine ⟨fun i _ hi q => ⟨ys, ys[i]'(by omega), x.cps[i]'(by omega), q, by simp, by simp⟩, fun _ q => ⟨ys, q, by omega, by omega, by omega⟩, fun i H v H' _ q y => ?_⟩
  obtain ⟨T, y, c, h1, h2, h3, h4, h5⟩ := y
  exact ⟨T, _, y, h1, h2, h3, by show Option.map _ (x.cps[i]?) = _; rw [h4]; rfl, h5 ys q⟩
def iZipS (K : PySem.W.Frag) (ta : TA) : TI := fun σ H R => ta σ H fun vs H1 => ∃ (x : Str) (b : Addr) (ys : List V) (o : HO), vs = [.str x, .ref b] ∧ (o = .lst ys ∨ o = .tup ys) ∧ H1 b = some o ∧
  ∀ J, Walk J (min x.cps.size ys.length) (fun H => H b = some o) (YPair (fun i => (x.cps[i]?).map fun c => V.str ⟨#[c]⟩) (fun i => ys[i]?)) → R J H1
theorem w_zipS {X : Cx} (K : PySem.W.Frag) {e e2 : Expr} {ta : TA} {p pos tpos : Pos} {elts : List Expr} {kk : Nat} (hg : Gl X "zip") (hm : X.mg "zip" = none) (ha : PA X [e, e2] ta)
    (hs : starEach [e, e2] X.env = (false, eval e X.env) :: starEach [e2] X.env := by rfl) (hpl : (backTo pos (starEach [e2] X.env)).any (·.1) = false := by rfl) (hK : X.K = K := by rfl) :
    PI X (.Tuple elts kk tpos) (.Call (.Name "zip" p) [e, e2] [] pos) (iZipS K ta) := by
  subst hK
  refine ⟨fun pins
        s σ H R I h => ?_⟩
  refine Call_ (ld_blt I hg hm boot_zip (PyProof.Rows.callWith_type1 (thn (ha.run pos pins s σ H _ I h) fun us s1 ⟨vs, H1, I1, r1, q1⟩ => ?_) hs hpl))
  obtain ⟨x, b, ys, ob, ex, hob, hat, qf⟩ := q1
  subst ex
  have q1 : (SqL X.K H1 b ys ∧ R (ItzSL X.K x b) H1) ∨ (SqT X.K H1 b ys ∧ R (ItzST X.K x b) H1) := by
    rcases hob with rfl | rfl
    · exact .inl ⟨SqL.of hat, qf _ (walk_zipSL.mono (fun _ z => SqL.of z) fun _ _ _ _ _ _ y => y)⟩
    · exact .inr ⟨SqT.of hat, qf _ (walk_zipST.mono (fun _ z => SqT.of z) fun _ _ _ _ _ _ y => y)⟩
  cases r1 with
  | cons r rr =>
    cases rr with
    | cons r' rr =>
      cases rr
      obtain ⟨t, rfl⟩ := r
      cases r'
      have fresh5 : ∀ c, c ∈ [s1.heap.objs.size + 4, s1.heap.objs.size + 2, s1.heap.objs.size
            + 3, s1.heap.objs.size, s1.heap.objs.size + 1] → FpOk X pins H1 c := fun c hcm => by
        have e' : c = s1.heap.objs.size + 4 ∨ c = s1.heap.objs.size + 2 ∨ c = s1.heap.objs.size
              + 3 ∨ c = s1.heap.objs.size ∨ c = s1.heap.objs.size + 1 := by simpa using hcm
        have hle : s1.heap.objs.size ≤ c := by rcases e' with z | z | z | z | z <;> rw [z] <;> first | exact Nat.le_refl _ | exact Nat.le_add_right _ _
        exact I1.fpOk hle
              (I1.hok.fresh hle)
      rcases q1 with ⟨hqy, q⟩ | ⟨hqy, q⟩
      · obtain ⟨its2, rv2, p2, _⟩ := I1.list hqy
        have lt : b < s1.heap.objs.size := by obtain ⟨o, ho, _⟩ := p2.isList; exact Heap.lt_size ho
        refine zip_begins2 (begins_text x t) (begins_list b its2.toArray) trivial p2.isList fun h' hz hTI hTO h1 h2 hsz hk => wpAny_pyIter_zip hz ?_
        have I2 : Inv X pins σ H1 { s1 with heap
              := h' } := I1.kept (t' := s1.toks) hk
        exact ⟨s1.heap.objs.size + 4, [s1.heap.objs.size + 4, s1.heap.objs.size + 2, s1.heap.objs.size + 3, s1.heap.objs.size, s1.heap.objs.size + 1], _, _, H1, rfl, I2, turn_zipSL (t := t) (zip_sep2 (fp1 := []) (fp2 := [b]) (by simp) (by simpa using lt)) (Nat.ne_of_lt (Nat.lt_succ_of_lt lt)),
          ⟨hz, hTI, ⟨_, _, hTO⟩, ⟨_, h1, rfl, rfl⟩, ⟨_, h2, rfl, rfl⟩⟩, fresh5, q⟩
      · obtain ⟨its2, rv2, p2, _⟩ := I1.tuple hqy
        have lt : b < s1.heap.objs.size := by obtain ⟨o, ho, _⟩ := id p2; exact Heap.lt_size ho
        refine zip_begins2 (begins_text x t) (begins_tuple b its2.toArray) trivial p2 fun h' hz hTI hTO h1 h2 hsz hk => wpAny_pyIter_zip hz ?_
        have I2 : Inv X pins σ H1 { s1 with heap
              := h' } := I1.kept (t' := s1.toks) hk
        exact ⟨s1.heap.objs.size + 4, [s1.heap.objs.size + 4, s1.heap.objs.size + 2, s1.heap.objs.size + 3, s1.heap.objs.size, s1.heap.objs.size + 1], _, _, H1, rfl, I2, turn_zipST (t := t) (zip_sep2 (fp1 := []) (fp2 := [b]) (by simp) (by simpa using lt)) (Nat.ne_of_lt (Nat.lt_succ_of_lt lt)),
          ⟨hz, hTI, ⟨_, _, hTO⟩, ⟨_, h1, rfl, rfl⟩, ⟨_, h2, rfl, rfl⟩⟩, fresh5, q⟩
section
variable {K : PySem.W.Frag} {σ : L2.St} {H : Hp} {tl : TA} {R : It → Hp → Prop}
theorem i_iZS (h : tl σ H fun vs H1 => ∃ (x : Str) (b : Addr) (ys : List V) (o : HO), vs = [.str x, .ref b] ∧ (o = .lst ys ∨ o = .tup ys) ∧ H1 b = some o ∧
  ∀ J, Walk J (min x.cps.size ys.length) (fun H => H b = some o) (YPair (fun i => (x.cps[i]?).map fun c => V.str ⟨#[c]⟩) (fun i => ys[i]?)) → R J H1) : iZipS K tl σ H R := h
end
/-- a slice of a list or of a tuple (not the whole of it) -/
def rSlO (K : PySem.W.Frag) : V → Option Int → Option Int → Hp → VK → Prop := fun x lo hi H Q => rSlL K x lo hi H Q ∨ rSlT K x lo hi H Q
theorem s_seq {X : Cx} (K : PySem.W.Frag) (hK : X.K = K := by rfl) : SlR X (rSlO K) := by
  subst hK
  intro pins s σ H x v vl vu
        lo hi sl Q I rx hs pl pu h
  rcases h with h | h
  · exact sl_list pins s σ H x v vl vu lo hi sl Q I rx hs pl pu h
  · exact sl_tup pins s σ H x v vl vu lo hi sl Q I rx hs pl pu h
theorem cut_inner (x y : V) (xs : List V) : cutV (x :: (xs ++ [y])) (some 1) (some (-1)) = xs := by
  unfold cutV
  have l : (x :: (xs ++ [y])).length = xs.length + 2 := by simp
  have e1 : HT.sIx (x :: (xs ++ [y])).length 0 (some 1) = 1 := by
    have e0 : HT.sIx (xs.length + 2) 0 (some 1) = min 1 (xs.length + 2) := HT.sIx_nat _ _ 1
    rw [l, e0]; omega
  have e2 : HT.sIx (x :: (xs ++ [y])).length (x :: (xs ++ [y])).length (some (-1)) = xs.length + 1 := by
    rw [l]
    have e0 : HT.sIx (xs.length + 2) (xs.length + 2) (some (-1)) = ((-1 : Int) + ((xs.length + 2 : Nat) : Int)).toNat := rfl
    rw [e0]; omega
  rw [e1, e2]
  show ((x :: (xs ++ [y])).drop 1).take (xs.length + 1 - 1) = xs
  simp
theorem i_slO {K : PySem.W.Frag} {H : Hp} {Q : VK} {p : Addr} {o : HO} {x y : V} {xs : List V} (ho : o = .lst (x :: (xs ++ [y])) ∨ o = .tup (x :: (xs ++ [y]))) (h : H p = some o)
    (q : ∀ p1 o1, H p1 = none → (o1 = .lst xs ∨ o1 = .tup xs) → Q (.ref p1) (upd H p1 o1)) : rSlO K (.ref p) (some 1) (some (-1)) H Q := by
  rcases ho with rfl | rfl
  · exact .inl ⟨p, _, rfl, SqL.of h, fun p1 h1 => by rw [cut_inner]; exact q p1 _ h1 (.inl rfl)⟩
  · refine .inr ⟨p, _, rfl, SqT.of h, fun z => ?_, fun p1 h1 => by rw [cut_inner]; exact q p1 _ h1 (.inr rfl)⟩
    have e0 : HT.sIx (xs.length + 2) 0 (some 1) = min 1 (xs.length + 2) := HT.sIx_nat _ _ 1
    have l : (x :: (xs ++ [y])).length = xs.length + 2 := by simp
    have := z.1
    rw [l, e0] at this
    omega
theorem tru_O {K : PySem.W.Frag} {H : Hp} {p : Addr} {o : HO} {xs : List V} (ho : o = .lst xs ∨ o = .tup xs) (h : H p = some o) : TruV K (.ref p) H (!xs.isEmpty) := by
  rcases ho with rfl | rfl
  · exact .inl ⟨_, SqL.of h, rfl⟩
  · exact .inr (.inl ⟨_, SqT.of h, rfl⟩)
end Lr
set_option Elab.async false
set_option linter.all false
set_option maxRecDepth 100000
set_option maxHeartbeats 4000000
/-! Vn: data with lists and tuples not told apart; rows of texts. -/
namespace Lr
open PySem PySem.Spec
      PyProof.Rows L2
theorem NewM.freshS {M : List Addr} {H0 H' : Hp} {q : Addr} {l : List Str} (hq : H0 q = none) (h : H' q = some (.lst (l.map V.str))) : NewM M H0 H' (.list (l.map .str)) (.ref q) := fun S t m => by
  unfold Dt; exact ⟨q, _, rfl, t.nm hq, h, DtAll.strs _⟩
def gS : V → Str
  | .str x => x
  | _ => Str.empty
theorem perm_strs {ys : List V} {r : List Str} (h : ys.Perm (r.map V.str)) : ∃ r' : List Str, ys = r'.map V.str ∧ r'.Perm r := by
  refine ⟨ys.map gS, ?_, ?_⟩
  · rw [List.map_map]
    have : ∀ y ∈ ys, (V.str ∘ gS) y = y := fun y hy => by
      have := h.subset hy
      obtain ⟨x, _, rfl⟩ := List.mem_map.mp this
      rfl
    rw [List.map_congr_left this]; simp
  · have := h.map gS
    rw [List.map_map] at this
    simpa [gS, Function.comp_def] using this
theorem unAll_get : ∀ {ds es : List PyData}, unAll ds = unAll es → ∀ {i : Nat} {d : PyData}, ds[i]? = some d → ∃ e, es[i]? = some e ∧ un d = un e
  | [], _, _, i, d, h => by simp at h
  | x :: ds, [], h, _, _, _ => by simp [unAll] at h
  | x :: ds, y :: es, h, 0, d, g => by
    simp [unAll] at h; simp at g; subst g
    exact ⟨y, rfl, h.1⟩
  | x :: ds, y :: es, h, i + 1, d, g => by
    simp [unAll] at h
    obtain ⟨e, g', u⟩ := unAll_get h.2 (i := i) (d := d) (by simpa using g)
    exact ⟨e, by simpa using g', u⟩
theorem un_isRow {d : PyData} {es : List PyData} (h : un d = .list es) : (isK "list" d || isK "tuple" d) = true ∧ unAll (kids d) = es := by
  cases d with
  | list ds => simp [un] at h; exact ⟨rfl, h⟩
  | tuple ds => simp [un] at h; exact ⟨rfl, h⟩
  | _ => simp [un] at h
theorem un_str {d : PyData} {x : Str} (h : un d = .str x) : d = .str x := by
  cases d <;> simp [un] at h ⊢ <;> exact h
theorem unAll_strs : ∀ {ds : List PyData} {l : List Str}, unAll ds = l.map .str → ds = l.map .str
  | [], [], _ => rfl
  | [], _ :: _, h => by simp [unAll] at h
  | _ :: _, [], h => by simp [unAll] at h
  | d :: ds, x :: l, h => by
    simp [unAll] at h
    rw [un_str h.1, unAll_strs h.2]; rfl
theorem unAll_id : ∀ (l : List Str), unAll (l.map .str) = l.map .str
  | [] => rfl
  | x :: l => by simp [unAll, un]
                 simpa using unAll_id l
theorem nod_strs : ∀ (l : List Str), nodAll (l.map .str) = 0
  | [] => rfl
  | x :: l => by simp only [List.map_cons, nodAll, nod, nod_strs l]
theorem map_strD (l : List Str) : (l.map PyData.str).map strD = l := by
  rw [List.map_map]; simp [Function.comp_def, strD]
theorem all_nameD (l : List Str) : (l.map PyData.str).all nameD = l.all nameB := by
  rw [List.all_map]; rfl
/-- a row of texts, once unpacked -/
theorem strs_row {d : PyData} {l : List Str} (h : un d = .list (l.map .str)) : (isK "list" d || isK "tuple" d) = true ∧ kids d = l.map .str ∧ (l.all nameB = true → l.Nodup → namesD d = some l) := by
  obtain ⟨h1, h2⟩ := un_isRow h
  have h3 := unAll_strs h2
  refine ⟨h1, h3, fun a n => ?_⟩
  cases d with
  | list ds =>
    have h4 : ds = l.map .str := h3
    subst h4
    simp only [namesD, map_strD, all_nameD]
    rw [if_pos ⟨a, n⟩]
  | tuple ds =>
    have h4 : ds = l.map .str := h3
    subst h4
    simp only [namesD, map_strD, all_nameD]
    rw [if_pos ⟨a, n⟩]
  | _ => simp [isK, ptype] at h1
def mixD (r : Row) : PyData := .list [.list (r.1.map .str), .list (r.2.map .str)]
theorem un_mix (r : Row) : un (mixD r) = mixD r := by
  simp only [mixD, un, unAll, unAll_id]
theorem fit_strs {k : Nat} {l : List Str} (h : l.length ≤ 1000) : Fit (k + 2) (.list (l.map .str)) := by
  refine ⟨by simpa using h, fun d hd => ?_⟩
  obtain ⟨x, _, rfl⟩ := List.mem_map.mp hd
  trivial
theorem fit_mix {r : Row} (h1 : r.1.length ≤ 1000) (h2 : r.2.length ≤ 1000) : Fit 3 (mixD r) := by
  refine ⟨by simp, fun d hd => ?_⟩
  simp at hd
  rcases hd with rfl | rfl
  · exact fit_strs h1
  · exact fit_strs h2
theorem nod_mix (r : Row) : nod (mixD r) = 3 := by simp [mixD, nod, nodAll, nod_strs]
theorem nod_mixes : ∀ (l : List Row), nodAll (l.map mixD) = 3 * l.length
  | [] => rfl
  | r :: l => by simp only [List.map_cons, nodAll, nod_mix, nod_mixes l, List.length_cons]; omega
theorem lot_of {d : PyData} {l ns : List Str} (h : namesD d = some l) (s : ∀ x ∈ l, x ∈ ns) : lotD d ns = some l := by
  unfold lotD; rw [h]; show (if _ then _ else _) = _; rw [if_pos s]
theorem fit_strsT {k : Nat} {l : List Str} (h : l.length ≤ 1000) : Fit (k + 2) (.tuple (l.map .str)) := by
  refine ⟨by simpa using h, fun d hd => ?_⟩
  obtain ⟨x, _, rfl⟩ := List.mem_map.mp hd
  trivial
/-- a row of texts stands at p -/
theorem strs_at {S : List Addr} {H : Hp} {d : PyData} {v : V} {l : List Str} (h : Dt S H d v) (u : un d = .list (l.map .str)) : ∃ p o, v = .ref p ∧ H p = some o ∧ SeqO o l ∧ p ∉ S := by
  obtain ⟨h1, h2, _⟩ := strs_row u
  obtain ⟨p, o, xs, ho, rfl, hp, np, da⟩ := h.row h1
  rw [h2] at da
  obtain rfl := DtAll.of_strs da
  exact ⟨p, o, rfl, hp, ho, np⟩
theorem unAll_cons {ds es : List PyData} {e : PyData} (h : unAll ds = e :: es) : ∃ d r, ds = d :: r ∧ un d = e ∧ unAll r = es := by
  cases ds with
  | nil => simp [unAll] at h
  | cons d r => simp [unAll] at h; exact ⟨d, r, rfl, h.1, h.2⟩
theorem unAll_nil {ds : List PyData} (h : unAll ds = []) : ds = [] := by
  cases ds with
  | nil => rfl
  | cons d r => simp [unAll] at h
theorem unAll_map {α : Type} (f : α → PyData) : ∀ (l : List α), unAll (l.map f) = l.map (fun x => un (f x))
  | [] => rfl
  | x :: l => by simp [unAll]; simpa using unAll_map f l
theorem cut_to (xs : List V) (n : Nat) : cutV xs none (some (n : Int)) = xs.take n := by
  unfold cutV
  have e1 : HT.sIx xs.length 0 none = 0 := rfl
  rw [e1, HT.sIx_nat, List.drop_zero, Nat.sub_zero]
  by_cases h : n ≤ xs.length
  · rw [Nat.min_eq_left h]
  · rw [Nat.min_eq_right (by omega), List.take_of_length_le
        (Nat.le_refl _), List.take_of_length_le (by omega)]
theorem cut_from (xs : List V) (n : Nat) : cutV xs (some (n : Int)) none = xs.drop n := by
  unfold cutV
  have e2 : HT.sIx xs.length xs.length none = xs.length := rfl
  rw [HT.sIx_nat, e2, List.take_of_length_le (by simp)]
  by_cases h : n ≤ xs.length
  · rw [Nat.min_eq_left h]
  · rw [Nat.min_eq_right (by omega), List.drop_of_length_le
        (Nat.le_refl _), List.drop_of_length_le (by omega)]
theorem cut_mid (xs : List V) (m n : Nat) : cutV xs (some (m : Int)) (some (n : Int)) = (xs.take n).drop m := by
  unfold cutV
  rw [HT.sIx_nat, HT.sIx_nat]
  refine List.ext_getElem?
        fun j => ?_
  rw [List.getElem?_take, List.getElem?_drop, List.getElem?_drop, List.getElem?_take]
  by_cases h1 : xs.length ≤ m
  · have e1 : min m xs.length = xs.length := by omega
    have e2 : xs[xs.length + j]? = none := List.getElem?_eq_none (by omega)
    have e3 : xs[m + j]? = none := List.getElem?_eq_none (by omega)
    rw [e1, e2, e3]; simp
  · have e1 : min m xs.length = m := by omega
    rw [e1]
    by_cases h2 : n ≤ xs.length
    · have e2 : min n xs.length = n := by omega
      rw [e2]
      by_cases h3 : m + j < n
      · rw [if_pos h3, if_pos (by omega)]
      · rw [if_neg h3, if_neg (by omega)]
    · have e2 : min n xs.length = xs.length := by omega
      rw [e2]
      by_cases h3 : m + j < xs.length
      · rw [if_pos (by omega), if_pos (by omega)]
      · have e3 : xs[m + j]? = none := List.getElem?_eq_none (by omega)
        rw [e3]; simp
theorem cut_mid1 (xs : List V) (n : Nat) : cutV xs (some 1) (some (n : Int)) = (xs.take n).drop 1 := cut_mid xs 1 n
theorem ne_map {l : List Str} (h : l ≠ []) : (l.map V.str).isEmpty = false := by
  cases l with
  | nil => exact absurd rfl h
  | cons x r => rfl
theorem cut_drop1' (x : V) (xs : List V) : cutV (x :: xs) (some 1) none = xs := by rw [show (1 : Int) = ((1 : Nat) : Int) from rfl, cut_from]; rfl
end Lr
set_option Elab.async false
set_option linter.all false
set_option maxRecDepth 100000
set_option maxHeartbeats 4000000
namespace Lr
open PySem PySem.Spec PyProof.Rows L2 TL
local macro_rules | `(tactic| walk_at "ne") => `(tactic| (first | assumption | (refine ne_sym ?_; assumption) | (exact ne_of_none (by assumption) (by assumption)) | (exact ne_sym (ne_of_none (by assumption) (by assumption)))))
local macro_rules | `(tactic| walk_at "h") => `(tactic| (first | assumption | exact upd_same | (refine h_new ?_ (by assumption); walk_at "h") | (refine h_ne (by walk_at "ne") ?_; walk_at "h")))
local macro_rules | `(tactic| walk_at "v1") => `(tactic| (with_reducible first
  | refine i_seq ?_ | refine i_asg ?_ | refine i_ret ?_ | refine i_next ?_ | refine i_drop ?_ | refine i_ifS ?_ | refine i_if ?_ | refine i_and ?_ | refine i_or ?_ | refine i_not ?_ | refine i_test ?_ | refine i_tB ?_ | refine i_bl ?_ | refine i_yes ?_
  | refine i_op ?_ | refine i_un ?_ | refine i_chain ?_ | refine i_andV ?_ | refine i_orV ?_ | refine i_notV ?_ | refine i_cb ?_ | refine i_cons ?_ | refine i_nil ?_ | refine i_bm ?_ | refine i_bm0 ?_ | refine i_c ?_ | refine i_name ?_ | refine i_sub ?_
  | refine i_call ?_ | refine i_lst ?_ | refine i_tup ?_ | refine i_par ?_ | refine i_par2 ?_ | refine i_sl ?_ | refine i_np ?_ | refine i_pt ?_ | refine i_int ?_ | refine i_m0 ?_ | refine i_m1 ?_ | refine i_isS ?_
  | refine i_rI0 ?_ | refine i_inSign ?_ | refine i_notInSign ?_ | refine i_int1 ?_ | refine i_tru ?_ | refine i_isN ?_ | refine i_notN ?_ | refine iteT ?_ | refine iteF ?_ | refine i_brk ?_ | refine i_rt ?_ | refine i_nx ?_ | refine i_bk ?_ | refine i_ct ?_ | refine i_for ?_ | refine i_lc ?_ | refine i_dc ?_ | refine i_iL ?_ | refine i_iT ?_ | refine i_iR1 ?_ | refine i_iR2 ?_ | refine i_iS ?_ | refine i_iE ?_ | refine i_iEK ?_ | refine i_iEQ ?_ | refine i_iZS ?_ | refine i_dget ?_ | refine i_fld ?_ | refine i_sfld ?_ | refine i_dput ?_ | refine i_meth ?_ | refine i_rU ?_ | refine i_cont ?_ | refine i_make ?_))
local macro_rules | `(tactic| walk_at "v2") => `(tactic| (first
  | ((with_reducible refine' i_var ?k1 ?_); (case k1 => exact rfl))
  | ((with_reducible refine' i_eq ?k1 ?_); (case k1 => exact rfl))
  | ((with_reducible refine' i_ne ?k1 ?_); (case k1 => exact rfl))
  | ((with_reducible refine' i_ixL ?k1 ?k2 ?_); (case k1 => walk_at "h"); (case k2 => exact rfl))
  | ((with_reducible refine' i_ixT ?k1 ?k2 ?_); (case k1 => walk_at "h"); (case k2 => exact rfl))
  | ((with_reducible refine' i_lenL ?k1 ?_); (case k1 => walk_at "h"))
  | ((with_reducible refine' i_lenT ?k1 ?_); (case k1 => walk_at "h"))
  | (refine i_wipe (show wipe _ _ = wipe _ _ from rfl) ?_)
  | ((with_reducible refine' i_setL ?k1 ?k2 ?_); (case k1 => walk_at "h"); (case k2 => exact rfl))
  | ((with_reducible refine' i_tyl ?k1 ?_); (case k1 => walk_at "h"))))
local macro_rules | `(tactic| walk_at "v") => `(tactic| repeat (first | walk_at "v1" | walk_at "v2"))

variable {P : Program} {w : World} {K :
      PySem.W.Frag} {mg : Str → Option Value} {base : Heap}
abbrev striple_words : Stmt := top 22
abbrev Ntriple_words : List Str := ["triple", "found", "sign", "lot", "name"]
abbrev Ptriple_words : List Str := ["triple"]
theorem sctriple_words : FnScope Ntriple_words Ptriple_words (defScope striple_words) := ⟨rfl, rfl, rfl, by decide +kernel, rfl, by decide +kernel, by decide +kernel⟩
/-- the built-ins and constants of this program -/
structure Blt2 (K : PySem.W.Frag) (mg : Str → Option Value) extends Blt mg where
  gSIGNS : GV mg "SIGNS" (.str ("=+!" : Str))
def spTripW : Sp := fun vs H Q _ => ∃ (S : List Addr) (d : PyData) (v : V) (t : Tri), vs = [v] ∧ Dt S H d v ∧ un d = un (triD t) ∧ t.c.length ≤ 100 ∧ t.f.length ≤ 100 ∧ t.s.length ≤ 100 ∧ (∀ x ∈ t.c ++ (t.f ++ t.s), x.length ≤ 10000) ∧
  ∀ q H', New H H' (lstS (triW t)) (.ref q) → Same H H' → Q (.ref q) H'
def triPre (t : Tri) : Nat → List Str
  | 0 => []
  | 1 => withS cEQ t.c
  | 2 => withS cEQ t.c ++ withS cPL t.f
  | _ => triL t
theorem tri_at {S : List Addr} {H : Hp} {d : PyData} {v : V} {t : Tri} (h : Dt S H d v) (u : un d = un (triD t)) : ∃ (p : Addr) (o : HO) (a1 a2 a3 : Addr) (o1 o2 o3 : HO), v = .ref p ∧ H p = some o ∧ (o = .lst [.ref a1, .ref a2, .ref a3] ∨ o = .tup [.ref a1, .ref a2, .ref a3]) ∧
    H a1 = some o1 ∧ SeqO o1 t.c ∧ H a2 = some o2 ∧ SeqO o2 t.f ∧ H a3 = some o3 ∧ SeqO o3 t.s := by
  have e : un (triD t) = .list [.list (t.c.map .str), .list (t.f.map .str), .list (t.s.map .str)] := by
    simp only [triD, lotT, un, unAll, unAll_id]
  rw [e] at u
  obtain ⟨h1, h2⟩ := un_isRow u
  obtain ⟨p, o, xs, ho, rfl, hp, np, da⟩ := h.row h1
  obtain ⟨d1, r1, e1, u1, h3⟩ := unAll_cons h2
  obtain ⟨d2, r2, e2, u2, h4⟩ := unAll_cons h3
  obtain ⟨d3, r3, e3, u3, h5⟩ := unAll_cons h4
  obtain rfl := unAll_nil h5
  rw [e1, e2, e3] at da
  obtain ⟨x1, y1, rfl, z1, da⟩ := DtAll.cons_iff.mp da
  obtain ⟨x2, y2, rfl, z2, da⟩ := DtAll.cons_iff.mp da
  obtain ⟨x3, y3, rfl, z3, da⟩ := DtAll.cons_iff.mp da
  obtain rfl := DtAll.nil_iff.mp da
  obtain ⟨a1, o1, rfl, q1, s1, _⟩ := strs_at z1 u1
  obtain ⟨a2, o2, rfl, q2, s2, _⟩ := strs_at z2 u2
  obtain ⟨a3, o3, rfl, q3, s3, _⟩ := strs_at z3 u3
  exact ⟨p, o, a1, a2, a3, o1, o2, o3, rfl, hp, ho, q1, s1, q2, s2, q3, s3⟩
theorem ok_triplewords (d : Fd K mg "triple_words" striple_words Ptriple_words) (B : Blt2 K mg) : FnOk P w K mg base CX0 1 d.f d.fd Ptriple_words spTripW := by
  refine d.F.ok sctriple_words (fun vs H Q E h => ?_) (fun cdv A outer s H vs Q E hr h => ?_)
  · obtain ⟨S, d, v, t, rfl, _⟩ := h
    rfl
  · obtain ⟨S, d, v, t, rfl, hd, ud, l1, l2, l3, lx, k⟩ := h
    refine ⟨_, (pss_cons (ps_set (i := 1) sctriple_words.nd rfl (by first | exact Or.inl rfl | exact Or.inr rfl) (pe_lst pa_nil))
      (pss_cons (ps_for PassesOwn.never rfl (w_zipS K (by rfl) B.zip (pa_cons (e_glob B.gSIGNS) (pa_cons (pv 0) pa_nil))) (g_tup K (n := 2) rfl (pgs_cons (pg_name (i := 2) sctriple_words.nd rfl (by first | exact Or.inl rfl | exact Or.inr rfl)) (pgs_cons (pg_name (i := 3) sctriple_words.nd rfl (by first | exact Or.inl rfl | exact Or.inr rfl)) pgs_nil)))
      (pss_one (ps_expr (e_bm K PySem.F.plainAttrs_list PySem.F.slot_list_extend PySem.F.type_list_extend mt_extend (pv 1) (pa_cons (pe_lc (own := [("name", 4)]) (g := gName 4) (tt := tYes) rfl sctriple_words.nd (w_seq K (pv 3)) (blkOk_by (own := [("name", 4)]) (N := Ntriple_words) (sc := defScope striple_words) (by decide +kernel)) (fun _ _ _ _ _ => by exact (pg_name (i := 4) sctriple_words.nd rfl (by first | exact Or.inl rfl | exact Or.inr rfl))) (fun _ _ _ _ _ => pts_nil) (fun _ _ _ _ _ => by exact (pe_op o_addS (pv 2) (pv 4)))) pa_nil)))))
      (pss_one (ps_ret (pe_ifExp (t_truth K (pv 1)) (pv 1) (pe_lst (pa_cons pe_str pa_nil))))))), ?_⟩
    obtain ⟨p, o, a1, a2, a3, o1, o2, o3, rfl, hp, ho, h1, q1, h2, q2, h3, q3⟩ := tri_at hd ud
    walk_at "v"
    refine ⟨show 0 ≤ sizeLine by decide, fun f hf => ?_⟩
    walk_at "v"
    have keep : ∀ {q o'}, H q = some o' → upd H f (.lst []) q = some o' := fun e => h_new e hf
    refine ⟨_, p, [.ref a1, .ref a2, .ref a3], o, rfl, ho, keep hp, fun J wj => ?_⟩
    have sgl : ("=+!" : Str).cps = #[cEQ, cPL, cEX] := by decide +kernel
    have en : min ("=+!" : Str).cps.size [V.ref a1, V.ref a2, V.ref a3].length = 3 := by rw [sgl]; rfl
    rw [en, sgl] at wj
    refine for_by wj ⟨fun i σ H' => (∃ v2 v3 v4 : Option V, σ = [some (.ref p), some (.ref f), v2, v3, v4]) ∧ Same H H' ∧ H' f = some (.lst ((triPre t i).map V.str)), ?_, fun i σ H' _ ⟨_, s1, _⟩ => s1 _ _ hp, ?_, ?_⟩
    · exact ⟨⟨_, _, _, rfl⟩, (Same.refl H).new hf, upd_same⟩
    · rintro i x σ H2 H1 hi ⟨⟨v2, v3, v4, rfl⟩, s1, hf1⟩ ⟨T, u1, u2, rfl, hT, rfl, hu1, hu2⟩
      obtain ⟨c, ai, oi, li, rfl, rfl, hai, qi, ei, lni⟩ : ∃ (c : Nat) (ai : Addr) (oi : HO) (li : List Str), u1 = .str (ch c) ∧ u2 = .ref ai ∧ H ai = some oi ∧ SeqO oi li ∧ triPre t (i + 1) = triPre t i ++ withS c li ∧ (li.length ≤ 100 ∧ (triPre t i).length ≤ 200 ∧ ∀ x ∈ li, x.length ≤ 10000) := by
        match i, hi with
        | 0, _ => cases hu1; cases hu2; exact ⟨_, _, _, t.c, rfl, rfl, h1, q1, rfl, l1, by simp [triPre], fun x hx => lx x (by simp [hx])⟩
        | 1, _ => cases hu1; cases hu2; exact ⟨_, _, _, t.f, rfl, rfl, h2, q2, rfl, l2, by simp [triPre, withS]; omega, fun x hx => lx x (by simp [hx])⟩
        | 2, _ => cases hu1; cases hu2; exact ⟨_, _, _, t.s, rfl, rfl, h3, q3, by simp [triPre, triL], l3, by simp [triPre, withS]; omega, fun x hx => lx x (by simp [hx])⟩
      refine g_two upd_same ?_
      have sT := s1.new (o := .tup [.str (ch c), .ref ai]) hT
      walk_at "v"
      have hai2 := sT _ _ hai
      have hf2 := h_new hf1 hT (o := .tup [.str (ch c), .ref ai])
      obtain ⟨H3, e3⟩ : ∃ H3, H3 = upd H2 T (.tup [.str (ch c), .ref ai]) := ⟨_, rfl⟩
      rw [← e3] at sT hai2 hf2 ⊢
      refine w_sqv rfl (xs := li.map V.str) qi hai2 fun J wl => ?_
      refine lc_by wl fun D hD => ⟨fun j H' => H' D = some (.lst ((withS c (li.take j)).map V.str)) ∧ Same H3 H', ⟨by simpa [withS] using upd_same, (Same.refl _).new hD⟩, fun j H' _ ⟨_, s⟩ => s _ _ hai2, ?_, ?_⟩
      · rintro j y H5 H4 hj ⟨hD4, s4⟩ ⟨rfl, hy⟩
        rw [List.getElem?_map] at hy
        obtain ⟨y, hyj, rfl⟩ := Option.map_eq_some_iff.mp hy
        walk_at "v"
        have ly := lni.2.2 y (List.mem_of_getElem? hyj)
        refine i_adds (Nat.le_trans (show (ch c).length + y.length ≤ 1 + 10000 from Nat.add_le_add (Nat.le_refl 1) ly) (by decide)) ?_
        refine ⟨_, hD4, by simp only [List.length_map, withS, List.length_take]; exact small1000 (by omega), ?_, s4.put hD⟩
        rw [List.take_succ, hyj]
        simpa [withS] using upd_same
      · rintro H4 ⟨hD4, s4⟩
        rw [List.length_map, List.take_length] at hD4
        walk_at "v"
        refine ⟨f, D, _, _, rfl, rfl, s4 _ _ hf2, hD4, ?_, ?_⟩
        · simp only [List.length_map, withS]
          exact Nat.le_trans (show (triPre t i).length + li.length ≤ 1000 by omega) (by decide)
        · refine ⟨⟨_, _, _, rfl⟩, (sT.trans s4).put hf, ?_⟩
          rw [ei, List.map_append]
          exact upd_same
    · rintro σ H1 ⟨⟨v2, v3, v4, rfl⟩, s1, hf1⟩
      walk_at "v"
      refine ⟨_, .inl ⟨_, SqL.of hf1, rfl⟩, ?_⟩
      have e3 : triPre t 3 = triL t := rfl
      rw [e3] at hf1 ⊢
      by_cases e : triL t = []
      · rw [e]
        refine iteF ?_
        walk_at "v"
        refine ⟨show 1 ≤ sizeLine by decide, fun q hq => ?_⟩
        refine k q _ ?_ (s1.new hq)
        have et : triW t = [sMI] := by unfold triW; rw [if_pos e]
        rw [et]
        exact fun S t => dt_list upd_same (DtAll.strs [sMI]) (t.nm ((Keep.of_same (S := []) s1).free hq))
      · rw [show (!List.isEmpty ((triL t).map V.str)) = true by cases h : triL t <;> simp_all]
        refine iteT ?_
        walk_at "v"
        refine k f _ ?_ s1
        have et : triW t = triL t := by unfold triW; rw [if_neg e]
        rw [et]
        exact fun S t => dt_list hf1 (DtAll.strs _) (t.nm hf)
end Lr
set_option Elab.async false
set_option linter.all false
set_option maxRecDepth 100000
set_option maxHeartbeats 4000000
/-! R3: lots of names: ascending ones are sublists of the pages. -/
namespace Lr
open PySem PySem.Spec PyProof.Rows L2 TL
theorem leS_refl (x : Str) : leS x x := by
  unfold leS
  cases h : ltCps x.cps.toList x.cps.toList with
  | false => rfl
  | true => have := ltCps_asymm h; rw [h] at this; exact this
theorem sub_sorted : ∀ {pg l : List Str}, pg.Pairwise leS → pg.Nodup → l.Pairwise leS → l.Nodup → (∀ x ∈ l, x ∈ pg) → l.Sublist pg
  | [], l, _, _, _, _, h => by
    cases l with
    | nil => exact List.Sublist.slnil
    | cons x r => exact absurd (h x (by simp)) (by simp)
  | p :: pg, [], _, _, _, _, _ => List.nil_sublist _
  | p :: pg, x :: r, hp, np, hl, nl, h => by
    rw [List.pairwise_cons] at hp hl
    rw [List.nodup_cons] at np nl
    by_cases e : x = p
    · subst e
      refine List.Sublist.cons₂ _ (sub_sorted hp.2 np.2 hl.2 nl.2 fun y hy => ?_)
      rcases List.mem_cons.mp (h y (by simp [hy])) with z | z
      · subst z; exact absurd hy nl.1
      · exact z
    · refine List.Sublist.cons _ (sub_sorted hp.2 np.2 (List.pairwise_cons.mpr hl) (List.nodup_cons.mpr nl) fun y hy => ?_)
      have hx : x ∈ pg := by
        rcases List.mem_cons.mp (h x (by simp)) with z | z
        · exact absurd z e
        · exact z
      rcases List.mem_cons.mp hy with z | z
      · subst z; exact hx
      · rcases List.mem_cons.mp (h y hy) with q | q
        · subst q
          have a := hl.1 y z
          have b := hp.1 x hx
          exact absurd (ext_cps (ltCps_eq b a)) e
        · exact q
theorem pairwise_sorted : ∀ {l : List Str}, l.Pairwise leS → sortedS l = true := by
  have key : ∀ (l : List Str) (p : Str), (p :: l).Pairwise leS → risingS p l = true := by
    intro l
    induction l with
    | nil => intro p _; rfl
    | cons x r ih =>
      intro p h
      rw [List.pairwise_cons] at h
      simp only [risingS, Bool.and_eq_true, Bool.not_eq_true']
      exact ⟨h.1 x (by simp), ih x h.2⟩
  intro l h
  cases l with
  | nil => rfl
  | cons x r => exact key r x h
/-- pages of which lots are told: names, ascending, unlike -/
structure NmOk (pg : List Str) : Prop where
  pw : pg.Pairwise leS
  nd : pg.Nodup
  name : ∀ x ∈ pg, nameB x = true
theorem PgOk.nm {pg : List Str} (h : PgOk pg) : NmOk pg := ⟨sortedS_pw h.sorted, h.nd, h.name⟩
theorem NmOk.sub {pg l : List Str} (h : NmOk pg) (s : l.Sublist pg) : NmOk l := ⟨h.pw.sublist s, h.nd.sublist s, fun x hx => h.name x (s.subset hx)⟩
theorem namesD_some {d : PyData} {l xs : List Str} (u : un d = .list (l.map .str)) (h : namesD d = some xs) : xs = l ∧ l.Nodup ∧ ∀ x ∈ l, nameB x = true := by
  obtain ⟨h1, h2, _⟩ := strs_row u
  have key : ∀ ds : List PyData, ds = l.map .str → (if ds.all nameD = true ∧ (ds.map strD).Nodup then some (ds.map strD) else none) = some xs → xs = l ∧ l.Nodup ∧ ∀ x ∈ l, nameB x = true := by
    rintro ds rfl h
    split at h
    · rename_i c
      rw [map_strD, all_nameD] at c
      cases h
      exact ⟨map_strD l, c.2, fun x hx => List.all_eq_true.mp c.1 x hx⟩
    · cases h
  cases d with
  | list ds => exact key ds h2 h
  | tuple ds => exact key ds h2 h
  | _ => simp [namesD] at h
theorem lotD_some {d : PyData} {l xs ns : List Str} (u : un d = .list (l.map .str)) (h : lotD d ns = some xs) : xs = l ∧ l.Nodup ∧ (∀ x ∈ l, nameB x = true) ∧ ∀ x ∈ l, x ∈ ns := by
  unfold lotD at h
  cases e : namesD d with
  | none => rw [e]
        at h; cases h
  | some ys =>
    rw [e] at h
    obtain ⟨rfl, h1, h2⟩ := namesD_some u e
    change (if ∀ x ∈ ys, x ∈ ns then some ys else none) = some xs at h
    split at h
    · rename_i c; cases h; exact ⟨rfl, h1, h2, c⟩
    · cases h
theorem lotD_sub {d : PyData} {l pg : List Str} (hp : NmOk pg) (u : un d = .list (l.map .str)) (s : l.Sublist pg) : lotD d pg = some l := by
  obtain ⟨_, _, h⟩ := strs_row u
  have := h (List.all_eq_true.mpr fun x hx => hp.name x (s.subset hx)) (hp.nd.sublist s)
  exact lot_of this fun x hx => s.subset hx
/-- what lot_among tells is the lot itself just for ascending lots of the pages -/
theorem lot_eq {d : PyData} {l xs ys pg : List Str} (hp : NmOk pg) (u : un d = .list (l.map .str)) (h : lotD d pg = some xs) (p : ys.Perm xs) (so : sortedS ys = true) : ys = l ↔ l.Sublist pg := by
  obtain ⟨rfl, n, _, sub⟩ := lotD_some u h
  constructor
  · rintro rfl
    exact sub_sorted hp.pw hp.nd (sortedS_pw so) n sub
  · intro s
    exact sorted_perm so (hp.pw.sublist s) p
theorem lot_none {d : PyData} {l pg : List Str} (hp : NmOk pg) (u : un d = .list (l.map .str)) (h : lotD d pg = none) : ¬ l.Sublist pg := fun s => by
  rw [lotD_sub hp u s] at h; cases h
theorem un_lst (l : List Str) : un (.list (l.map .str)) = .list (l.map .str) := by simp only [un, unAll_id]
theorem un_lotT (l : List Str) : un (lotT l) = .list (l.map .str) := by simp only [lotT, un, unAll_id]
theorem un_tri (t : Tri) : un (triD t) = .list [.list (t.c.map .str), .list (t.f.map .str), .list (t.s.map .str)] := by
  simp only [triD, lotT, un, unAll, unAll_id]
structure TriPerm (u t : Tri) : Prop where
  c : u.c.Perm t.c
  f : u.f.Perm t.f
  s : u.s.Perm t.s
def TrisPerm : List Tri → List Tri → Prop
  | [], [] => True
  | u :: us, t :: ts => TriPerm u t ∧ TrisPerm us ts
  | _, _ => False
theorem TrisPerm.len : ∀ {us ts : List Tri}, TrisPerm us ts → us.length = ts.length
  | [], [], _ => rfl
  | _ :: _, _ :: _, h => by simp [TrisPerm.len h.2]
  | [], _ :: _, h => h.elim
  | _ :: _, [], h => h.elim
theorem TrisPerm.get : ∀ {us ts : List Tri}, TrisPerm us ts → ∀ {i : Nat} {u : Tri}, us[i]? = some u → ∃ t, ts[i]? = some t ∧ TriPerm u t
  | [], [], _, i, u, h => by simp at h
  | u :: us, t :: ts, h, 0, v, e => by simp at e; subst e; exact ⟨t, rfl, h.1⟩
  | u :: us, t :: ts, h, i + 1, v, e => by
    obtain ⟨t', h1, h2⟩ := TrisPerm.get h.2 (i := i) (u := v) (by simpa using e)
    exact ⟨t', by simpa using h1, h2⟩
  | [], _ :: _, h, _, _, _ => h.elim
  | _ :: _, [], h, _, _, _ => h.elim
theorem TrisPerm.refl : ∀ ts : List Tri, TrisPerm ts ts
  | [] => trivial
  | _ :: ts => ⟨⟨List.Perm.refl _, List.Perm.refl _, List.Perm.refl _⟩, TrisPerm.refl ts⟩
def KdPerm : Kd → Kd → Prop
  | .do_ r w v, .do_ r' w' v' => r.Perm r' ∧ w.Perm w' ∧ v.Perm v'
  | .out l, .out l' => l.Perm l'
  | .alone x, .alone y => x = y
  | _, _ => False
structure SdPerm (u s : Sd) : Prop where
  k : KdPerm u.k s.k
  w : TrisPerm u.wh s.wh
theorem KdPerm.refl (k : Kd) : KdPerm k k := by
  cases k
  · exact ⟨List.Perm.refl _, List.Perm.refl _, List.Perm.refl _⟩
  · exact List.Perm.refl _
  · rfl
theorem SdPerm.refl (s : Sd) : SdPerm s s := ⟨KdPerm.refl _, TrisPerm.refl _⟩
theorem lot_perm {d : PyData} {l t pg : List Str} (hp : NmOk pg) (u : un d = .list (l.map .str)) (p : l.Perm t) (s : t.Sublist pg) : lotD d pg = some l ∧ ∀ ys : List Str, ys.Perm l → sortedS ys = true → ys = t := by
  obtain ⟨_, _, h⟩ := strs_row u
  have nt := hp.sub s
  have nm : ∀ x ∈ l, nameB x = true := fun x hx => nt.name x (p.subset hx)
  have := h (List.all_eq_true.mpr nm) (p.nodup_iff.mpr nt.nd)
  exact ⟨lot_of this fun x hx => s.subset (p.subset hx), fun ys py so => sorted_perm so nt.pw (py.trans p)⟩
theorem un_when (ts : List Tri) : un (whenD ts) = .list (ts.map fun t => un (triD t)) := by
  simp only [whenD, un, unAll_map]
/-- the head word of a step, its lots -/
def hdW : Kd → Str
  | .do_ _ _ _ => "do"
  | .out _ => "out"
  | .alone x => x
def mids : Kd → List (List Str)
  | .do_ r w v => [r, w, v]
  | .out l => [l]
  | .alone _ => []
theorem un_step (s : Sd) : un (stepD s) = .list (.str (hdW s.k) :: ((mids s.k).map (fun l => PyData.list (l.map .str)) ++ [un (whenD s.wh)])) := by
  unfold stepD
  cases s.k <;> simp only [hdW, mids, un, unAll, un_lotT, List.map_cons, List.map_nil, List.cons_append, List.nil_append]
theorem KdPerm.hd {a b : Kd} (h : KdPerm a b) : hdW a = hdW b := by
  cases a <;> cases b <;> first | rfl | exact h | exact h.elim
theorem KdPerm.len {a b : Kd} (h : KdPerm a b) : (mids a).length = (mids b).length := by
  cases a <;> cases b <;> first | rfl | exact h.elim
theorem KdPerm.mid {a b : Kd} (h : KdPerm a b) {i : Nat} {l : List Str} (hl : (mids a)[i]? = some l) : ∃ m, (mids b)[i]? = some m ∧ l.Perm m := by
  cases a with
  | do_ r w v =>
    cases b with
    | do_ r' w' v' =>
      match i, hl with
      | 0, hl => cases hl; exact ⟨_, rfl, h.1⟩
      | 1, hl => cases hl; exact ⟨_, rfl, h.2.1⟩
      | 2, hl => cases hl; exact ⟨_, rfl, h.2.2⟩
      | (n + 3), hl => simp [mids] at hl
    | _ => exact h.elim
  | out l' =>
    cases b with
    | out m =>
      match i, hl with
      | 0, hl => cases hl; exact ⟨_, rfl, h⟩
      | (n + 1), hl => simp [mids] at hl
    | _ => exact h.elim
  | alone x => simp [mids] at hl
theorem Kd.Ok.mid {pg : List Str} {k : Kd} (h : k.Ok pg) {i : Nat} {l : List Str} (hl : (mids k)[i]? = some l) : l.Sublist pg := by
  cases k with
  | do_ r w v =>
    obtain ⟨h1, h2, h3, h4⟩ := h
    match i, hl with
    | 0, hl => cases hl; exact h1
    | 1, hl => cases hl; exact h2
    | 2, hl => cases hl; exact h4.trans h2
    | (n + 3), hl => simp [mids] at hl
  | out l' =>
    match i, hl with
    | 0, hl => cases hl; exact h.1
    | (n + 1), hl => simp [mids] at hl
  | alone x => simp [mids] at hl
theorem mids_len (k : Kd) : (mids k).length ≤ 3 := by cases k <;> simp [mids]
theorem unAll_app_inv : ∀ {ds a b : List PyData}, unAll ds = a ++ b → ∃ x y, ds = x ++ y ∧ unAll x = a ∧ unAll y = b
  | ds, [], b, h => ⟨[], ds, rfl, rfl, h⟩
  | [], _ :: _, _, h => by simp [unAll] at h
  | d :: ds, e :: a, b, h => by
    simp only [unAll, List.cons_append, List.cons.injEq] at h
    obtain ⟨x, y, rfl, h1, h2⟩ := unAll_app_inv h.2
    exact ⟨d :: x, y, rfl, by simp [unAll, h.1, h1], h2⟩
theorem DtAll.app_inv {S : List Addr} {H : Hp} : ∀ {a b : List PyData} {xs : List V}, DtAll S H (a ++ b) xs → ∃ x y, xs = x ++ y ∧ DtAll S H a x ∧ DtAll S H b y
  | [], b, xs, h => ⟨[], xs, rfl, DtAll.nil, h⟩
  | d :: a, b, _, h => by
    obtain ⟨x, r, rfl, h1, h2⟩ := DtAll.cons_iff.mp h
    obtain ⟨u, v, rfl, h3, h4⟩ := DtAll.app_inv h2
    exact ⟨x :: u, v, rfl, DtAll.cons h1 h3, h4⟩
end Lr
set_option Elab.async false
set_option linter.all false
set_option maxRecDepth 100000
set_option maxHeartbeats 4000000
namespace Lr
open PySem PySem.Spec PyProof.Rows L2 TL
local macro_rules | `(tactic| walk_at "ne") => `(tactic| (first | assumption | (refine ne_sym ?_; assumption) | (exact ne_of_none (by assumption) (by assumption)) | (exact ne_sym (ne_of_none (by assumption) (by assumption)))))
local macro_rules | `(tactic| walk_at "h") => `(tactic| (first | assumption | exact upd_same | (refine h_new ?_ (by assumption); walk_at "h") | (refine h_ne (by walk_at "ne") ?_; walk_at "h")))
local macro_rules | `(tactic| walk_at "v1") => `(tactic| (with_reducible first
  | refine i_seq ?_ | refine i_asg ?_ | refine i_ret ?_ | refine i_next ?_ | refine i_drop ?_ | refine i_ifS ?_ | refine i_if ?_ | refine i_and ?_ | refine i_or ?_ | refine i_not ?_ | refine i_test ?_ | refine i_tB ?_ | refine i_bl ?_ | refine i_yes ?_
  | refine i_op ?_ | refine i_un ?_ | refine i_chain ?_ | refine i_andV ?_ | refine i_orV ?_ | refine i_notV ?_ | refine i_cb ?_ | refine i_cons ?_ | refine i_nil ?_ | refine i_bm ?_ | refine i_bm0 ?_ | refine i_c ?_ | refine i_name ?_ | refine i_sub ?_
  | refine i_call ?_ | refine i_lst ?_ | refine i_tup ?_ | refine i_par ?_ | refine i_par2 ?_ | refine i_sl ?_ | refine i_np ?_ | refine i_pt ?_ | refine i_int ?_ | refine i_m0 ?_ | refine i_m1 ?_ | refine i_isS ?_
  | refine i_rI0 ?_ | refine i_inSign ?_ | refine i_notInSign ?_ | refine i_int1 ?_ | refine i_tru ?_ | refine i_isN ?_ | refine i_notN ?_ | refine iteT ?_ | refine iteF ?_ | refine i_brk ?_ | refine i_rt ?_ | refine i_nx ?_ | refine i_bk ?_ | refine i_ct ?_ | refine i_for ?_ | refine i_lc ?_ | refine i_dc ?_ | refine i_iL ?_ | refine i_iT ?_ | refine i_iR1 ?_ | refine i_iR2 ?_ | refine i_iS ?_ | refine i_iE ?_ | refine i_iEK ?_ | refine i_iEQ ?_ | refine i_iZS ?_ | refine i_dget ?_ | refine i_fld ?_ | refine i_sfld ?_ | refine i_dput ?_ | refine i_meth ?_ | refine i_rU ?_ | refine i_cont ?_ | refine i_make ?_))
local macro_rules | `(tactic| walk_at "v2") => `(tactic| (first
  | ((with_reducible refine' i_var ?k1 ?_); (case k1 => exact rfl))
  | ((with_reducible refine' i_eq ?k1 ?_); (case k1 => exact rfl))
  | ((with_reducible refine' i_ne ?k1 ?_); (case k1 => exact rfl))
  | ((with_reducible refine' i_ixL ?k1 ?k2 ?_); (case k1 => walk_at "h"); (case k2 => exact rfl))
  | ((with_reducible refine' i_ixT ?k1 ?k2 ?_); (case k1 => walk_at "h"); (case k2 => exact rfl))
  | ((with_reducible refine' i_lenL ?k1 ?_); (case k1 => walk_at "h"))
  | ((with_reducible refine' i_lenT ?k1 ?_); (case k1 => walk_at "h"))
  | (refine i_wipe (show wipe _ _ = wipe _ _ from rfl) ?_)
  | ((with_reducible refine' i_setL ?k1 ?k2 ?_); (case k1 => walk_at "h"); (case k2 => exact rfl))
  | ((with_reducible refine' i_tyl ?k1 ?_); (case k1 => walk_at "h"))))
local macro_rules | `(tactic| walk_at "v") => `(tactic| repeat (first | walk_at "v1" | walk_at "v2"))

variable {P : Program} {w : World} {K :
      PySem.W.Frag} {mg : Str → Option Value} {base : Heap}
abbrev striple_in : Stmt := top 26
abbrev Ntriple_in : List Str := ["words", "names", "lots", "lot", "sign", "word"]
abbrev Ptriple_in : List Str := ["words", "names"]
theorem sctriple_in : FnScope Ntriple_in Ptriple_in (defScope striple_in) := ⟨rfl, rfl, rfl, by decide +kernel, rfl, by decide +kernel, by decide +kernel⟩
abbrev FdLotAmong' (K : PySem.W.Frag) (mg : Str → Option Value) := Fd K mg "lot_among" slot_among Plot_among
abbrev FdTripW (K : PySem.W.Frag) (mg : Str → Option Value) := Fd K mg "triple_words" striple_words Ptriple_words
/-- words that are handed on: few, short, none empty -/
structure WsOk (ws : List Str) : Prop where
  few : ws.length ≤ 63
  short : ∀ x ∈ ws, x.length ≤ 10000
  ne : ∀ x ∈ ws, x ≠ ("" : Str)
theorem lots_len (c : Nat) (ws : List Str) : (lotsOf c ws).length ≤ ws.length := by
  unfold lotsOf; rw [List.length_map]; exact List.length_filter_le _ _
theorem cut_tl1 (z : Str) : cutS z (some 1) none = tl1 z := by
  refine ext_tl ?_
  show (((z.cps.toList.drop (HT.sIx z.length 0 (some 1))).take (HT.sIx z.length z.length none - HT.sIx z.length 0 (some 1))).toArray).toList = z.cps.toList.tail
  have e1 : HT.sIx z.length 0 (some 1) = min 1 z.length := HT.sIx_nat _ _ 1
  have e2 : HT.sIx z.length z.length none = z.length := rfl
  have ez : z.length = z.cps.toList.length := by rw [Array.length_toList]; rfl
  rw [e1, e2, ez, List.toList_toArray]
  cases z.cps.toList with
  | nil => rfl
  | cons c r => simp
def spTripIn : Sp := fun vs H Q _ => ∃ (W N : Addr) (ws pg : List Str), vs = [.ref W, .ref N] ∧ H W = some (.lst (ws.map V.str)) ∧ WsOk ws ∧ H N = some (.lst (pg.map V.str)) ∧ PgOk pg ∧
  (triP pg ws = none → ∀ H', Same H H' → Q .non H') ∧ (∀ t, triP pg ws = some t → ∀ q H', New H H' (triD t) (.ref q) → Same H H' → Q (.ref q) H')
theorem ok_triplein (d : Fd K mg "triple_in" striple_in Ptriple_in) (dtriple_words : FdTripW K mg) (dlot_among : FdLotAmong K mg) (dnames_of : FdNamesOf K mg) (dis_name : FdIsName K mg) (B : Blt2 K mg) : FnOk P w K mg base CX0 4 d.f d.fd Ptriple_in spTripIn := by
  have Gtriple_words : FnOk P w K mg base CX0 1 dtriple_words.f dtriple_words.fd Ptriple_words spTripW := ok_triplewords dtriple_words B
  have Glot_among : FnOk P w K mg base CX0 3 dlot_among.f dlot_among.fd Plot_among spLotAmong := ok_lotamong dlot_among dnames_of dis_name B.toBlt
  refine d.F.ok sctriple_in (fun vs H Q E h => ?_) (fun cdv A outer s H vs Q E hr h => ?_)
  · obtain ⟨W, N, ws, pg, rfl, _⟩ := h
    rfl
  · obtain ⟨W, N, ws, pg, rfl, hW, wo, hN, po, k0, k1⟩ := h
    refine ⟨_, (pss_cons (ps_if (pt_cmpR (o_eqP K hr.units) (pv 0) (pe_lst (pa_cons pe_str pa_nil)) (nomark _)) (pss_one (ps_ret (pe_tup (pa_cons (pe_tup pa_nil) (pa_cons (pe_tup pa_nil) (pa_cons (pe_tup pa_nil) pa_nil)))))) pss_nil)
      (pss_cons (ps_setLc (i := 2) (own := [("sign", 4)]) (g := gName 4) (tt := tYes) rfl sctriple_in.nd rfl rfl (sw_true rfl rfl rfl (by decide +kernel)) (pi_str (e_glob B.gSIGNS)) (blkOk_by (own := [("sign", 4)]) (N := Ntriple_in) (sc := defScope striple_in) (by decide +kernel)) (fun _ _ _ _ _ => by exact (pg_name (i := 4) sctriple_in.nd rfl (by first | exact Or.inl rfl | exact Or.inr rfl))) (fun _ _ _ _ _ => pts_nil) (fun _ _ _ _ _ => by exact (pe_lc (own := [("word", 5)]) (g := gName 5) rfl sctriple_in.nd (w_list K (pv 0)) (blkOk_by (own := [("word", 5)]) (N := Ntriple_in) (by rfl)) (fun _ _ _ _ _ => by exact (pg_name (i := 5) sctriple_in.nd rfl (by first | exact Or.inl rfl | exact Or.inr rfl))) (fun _ _ _ _ _ => by exact (pts_one (pt_cmpR op_eq (pe_ix ix_str (pv 5) pe_int (fun _ _ => rfl)) (pv 4) (nomark _)))) (fun _ _ _ _ _ => by exact (pe_slice sl_str (pv 5) (po_some pe_int) po_none)))))
      (pss_cons (ps_if (PW.pt (pw_or (pt_not (t_truth K (pv 0))) (pw_or1 (pt_cmpR (o_neP K hr.units) (pv 0) (pe_call Gtriple_words (hr.mono (by decide)) (by rfl) dtriple_words.g dtriple_words.F.kp dtriple_words.b .nil pass0 (pa_cons (pv 2) pa_nil)) (nomark _))))) (pss_one (ps_ret pe_non)) pss_nil)
      (pss_cons (ps_for PassesOwn.never rfl (w_list K (pv 2)) (pg_name (i := 3) sctriple_in.nd rfl (by first | exact Or.inl rfl | exact Or.inr rfl))
      (pss_one (ps_if (pt_cmpR (o_neP K hr.units) (pe_call Glot_among (hr.mono (by decide)) (by rfl) dlot_among.g dlot_among.F.kp dlot_among.b .nil pass0 (pa_cons (pv 3) (pa_cons (pv 1) pa_nil))) (pv 3) (nomark _)) (pss_one (ps_ret pe_non)) pss_nil)))
      (pss_one (ps_ret (pe_tup (pa_cons (pe_callTy (c_tuple K) (by rfl) B.tuple (by decide +kernel) (pa_cons (pe_ix (x_list K) (pv 2) pe_int (fun _ _ => rfl)) pa_nil)) (pa_cons (pe_callTy (c_tuple K) (by rfl) B.tuple (by decide +kernel) (pa_cons (pe_ix (x_list K) (pv 2) pe_int (fun _ _ => rfl)) pa_nil)) (pa_cons (pe_callTy (c_tuple K) (by rfl) B.tuple (by decide +kernel) (pa_cons (pe_ix (x_list K) (pv 2) pe_int (fun _ _ => rfl)) pa_nil)) pa_nil)))))))))), ?_⟩
    walk_at "v"
    refine ⟨show 1 ≤ sizeLine by decide, fun q0 hq0 => ?_⟩
    have dW : ∀ {H' : Hp}, Same H H' → Dt [] H' (lstS ws) (.ref W) := fun s => dt_strs (s _ _ hW)
    have s0 := (Same.refl H).new (o := .lst [.str sMI]) hq0
    refine i_eqP (dW s0) (dt_strs (l := [sMI]) upd_same) (.inl (by show PyData.depth (.list (ws.map .str)) ≤ 60; simp [PyData.depth, depth_strs])) ?_
    rw [show PyData.eqv (lstS ws) (.list (([sMI] : List Str).map .str)) = decide (ws = [sMI]) from eqv_strs ws [sMI]]
    walk_at "v"
    refine ifd (fun e => ?_) (fun e => ?_)
    · walk_at "v"
      refine ⟨show 0 ≤ sizeLine by decide, fun t1 ht1 => ?_⟩
      walk_at "v"
      refine ⟨show 0 ≤ sizeLine by decide, fun t2 ht2 => ?_⟩
      walk_at "v"
      refine ⟨show 0 ≤ sizeLine by decide, fun t3 ht3 => ?_⟩
      walk_at "v"
      refine ⟨show 3 ≤ sizeLine by decide, fun t4 ht4 => ?_⟩
      have z1 := s0.new (o := .tup []) ht1
      have z2 := z1.new (o := .tup []) ht2
      have z3 := z2.new (o := .tup []) ht3
      have fr : ∀ {H' : Hp} {t : Addr}, Same H H' → H' t = none → H t = none := fun s h => (Keep.of_same (S := []) s).free h
      refine k1 ⟨[], [], []⟩ (by unfold triP; rw [if_pos e]) t4 _ (fun S tS => ?_) (z3.new ht4)
      refine dt_tup upd_same ?_ (tS.nm (fr z3 ht4))
      exact DtAll.cons (dt_tup (h_new (h_new (h_new upd_same ht2) ht3) ht4) DtAll.nil (tS.nm (fr s0 ht1))) (DtAll.cons (dt_tup (h_new (h_new upd_same ht3) ht4) DtAll.nil (tS.nm (fr z1 ht2))) (DtAll.cons (dt_tup (h_new upd_same ht4) DtAll.nil (tS.nm (fr z2 ht3))) DtAll.nil))
    walk_at "v"
    obtain ⟨H1, e1⟩ : ∃ H1, H1 = upd H q0 (.lst [.str sMI]) := ⟨_, rfl⟩
    rw [← e1] at s0 ⊢
    clear e1
    have sgl : ("=+!" : Str).cps = #[cEQ, cPL, cEX] := by decide +kernel
    refine w_str ?_
    refine lc_by (walk_str (z := ("=+!" : Str))) fun D hD => ⟨fun i H' => Acc [] H1 H' D (([cEQ, cPL, cEX].take i).map fun c => lstS (lotsOf c ws)), Acc.start (Keep.refl _ _) hD, fun _ _ _ _ => trivial, ?_, ?_⟩
    · rintro i x H3 H2 hi ac ⟨rfl, c, hc, rfl⟩
      rw [sgl] at hc
      have hc' : [cEQ, cPL, cEX][i]? = some c := by simpa using hc
      have sm2 := s0.trans ac.kp.same
      walk_at "v"
      refine w_lst (sm2 _ _ hW) ?_
      refine lc_by (walk_list (xs := ws.map V.str)) fun D2 hD2 => ⟨fun j H' => H' D2 = some (.lst ((lotsOf c (ws.take j)).map V.str)) ∧ Same H2 H', ⟨upd_same, (Same.refl _).new hD2⟩, fun j H' _ ⟨_, s⟩ => SqL.of (s _ _ (sm2 _ _ hW)), ?_, ?_⟩
      · rintro j y H5 H4 hj ⟨hd4, s4⟩ ⟨rfl, hy⟩
        rw [List.getElem?_map] at hy
        obtain ⟨y, hyj, rfl⟩ := Option.map_eq_some_iff.mp hy
        have my := List.mem_of_getElem? hyj
        have ny := wo.ne y my
        have ly : y.length ≤ sizeLine := Nat.le_trans (wo.short y my) (by decide)
        obtain ⟨c0, r0, ey⟩ : ∃ c0 r0, y.cps.toList = c0 :: r0 := by
          cases e : y.cps.toList with
          | nil => exact absurd (ext_tl (x := y) (y := "") (by show y.cps.toList = _; rw [e]; rfl)) ny
          | cons c r => exact ⟨c, r, rfl⟩
        have et : ws.take (j + 1) = ws.take j ++ [y] := by rw [List.take_succ, hyj]; rfl
        walk_at "v"
        refine i_ixS ly (atI_nat (j := 0) (by rw [ey]; rfl)) ?_
        walk_at "v"
        have eb : decide (V.str (⟨#[c0]⟩ : Str) = V.str ⟨#[c]⟩) = decide (hd0 y = some c) := by
          unfold hd0; rw [ey, dec_strE]
          by_cases z : c0 = c
          · subst z; simp
          · rw [decide_eq_false (by intro h; injection h with h; simp at h; exact z h), decide_eq_false (by simpa using z)]
        rw [eb]
        refine ifd (fun h => ?_) (fun h => ?_)
        · walk_at "v"
          refine ⟨y, rfl, ly, ?_⟩
          refine ⟨_, hd4, by rw [List.length_map]; exact small1000 (Nat.le_trans (lots_len _ _) (by rw [List.length_take]; have := wo.few; omega)), ?_, s4.put hD2⟩
          rw [cut_tl1, et, lots_app, List.map_append]
          have : lotsOf c [y] = [tl1 y] := by simp [lotsOf, h]
          rw [this]
          exact upd_same
        · refine ⟨?_, s4⟩
          rw [et, lots_app]
          have : lotsOf c [y] = [] := by simp [lotsOf, h]
          rw [this, List.append_nil]
          exact hd4
      · rintro H4 ⟨hd4, s4⟩
        rw [List.length_map, List.take_length] at hd4
        obtain ⟨acc, ea, la, _⟩ := id ac.ex
        have nv : New H2 H4 (lstS (lotsOf c ws)) (.ref D2) := fun S tS => dt_list hd4 (DtAll.strs _) (tS.nm hD2)
        obtain ⟨e5, ac5⟩ := ac.step trk_nil ea nv.toM (Keep.of_same s4)
        refine ⟨acc, e5, ?_, ?_⟩
        · rw [la, List.length_map, List.length_take]; exact small1000 (by simp; omega)
        · show Acc [] H1 _ D (([cEQ, cPL, cEX].take (i + 1)).map fun c => lstS (lotsOf c ws))
          rw [List.take_succ, hc', List.map_append]; exact ac5
    rintro H2 ac
    rw [show ("=+!" : Str).cps.size = 3 by rw [sgl]; rfl] at ac
    have s2 := s0.trans ac.kp.same
    have dn := ac.done.toN
    obtain ⟨acc, ea, la, dacc⟩ := ac.ex
    have dl : ∀ S, Trk S H1 → DtAll (D :: S) H2 [lstS (lotsOf cEQ ws), lstS (lotsOf cPL ws), lstS (lotsOf cEX ws)] acc := fun S t => dacc S t (by simp)
    walk_at "v"
    refine ⟨_, .inl ⟨_, SqL.of (s2 _ _ hW), rfl⟩, ?_⟩
    by_cases ew : ws = []
    · subst ew
      refine iteT ?_
      refine iteT ?_
      walk_at "v"
      exact k0 (by unfold triP; rw [if_neg (by simp), if_neg (by simp)]) _ s2
    rw [show (!(!List.isEmpty (ws.map V.str))) = false by cases ws <;> simp_all]
    refine iteF ?_
    walk_at "v"
    have dlots : Dt [] H2 (.list [lstS (lotsOf cEQ ws), lstS (lotsOf cPL ws), lstS (lotsOf cEX ws)]) (.ref D) := dt_list ea (DtAll.mono (by simp) _ _ (dl [] trk_nil)) (by simp)
    have few := wo.few
    have lsz : ∀ c, (lotsOf c ws).length ≤ 63 := fun c => Nat.le_trans (lots_len c ws) few
    have lsh : ∀ c, ∀ x ∈ lotsOf c ws, x.length ≤ 10000 := fun c x hx => by
      unfold lotsOf at hx
      obtain ⟨y, hy, rfl⟩
            := List.mem_map.mp hx
      have h1 := wo.short y (List.mem_filter.mp hy |>.1)
      have h2 : (tl1 y).length ≤ y.length := by rw [← cut_tl1]; exact cutS_length y _ _
      omega
    refine ⟨[], _, .ref D, triOf ws, rfl, dlots, by rw [un_tri]; simp only [un, unAll, lstS, unAll_id]; rfl, Nat.le_trans (lsz _) (by decide), Nat.le_trans (lsz _) (by decide), Nat.le_trans (lsz _) (by decide), fun x hx => ?_, fun q H3 nq s3 => ?_⟩
    · rcases List.mem_append.mp
          hx with hx | hx
      · exact lsh _ x hx
      · rcases List.mem_append.mp
            hx with hx | hx
        · exact lsh _ x hx
        · exact lsh _ x hx
    walk_at "v"
    have s03 := s2.trans s3
    refine i_neP (dW s03) (nq [] trk_nil) (.inl (by show PyData.depth (.list (ws.map .str)) ≤ 60; simp [PyData.depth, depth_strs])) ?_
    rw [show PyData.eqv (lstS ws) (lstS (triW (triOf ws))) = decide (ws = triW (triOf ws)) from eqv_strs ws _]
    walk_at "v"
    refine ifn (fun e3 => ?_) (fun e3 => ?_)
    · walk_at "v"
      refine k0 ?_ _ s03
      unfold triP
      rw [if_neg e, if_neg]
      rintro ⟨z1, z2, _⟩
      refine e3 ?_
      unfold triW
      rw [if_neg (by rw [← z2]; exact z1)]
      exact z2
    walk_at "v"
    have eL : ws = triL (triOf ws) := by
      by_cases z : triL (triOf ws) = []
      · have : triW (triOf ws) = [sMI] := by unfold triW; rw [if_pos z]
        exact absurd (e3.trans this) e
      · have : triW (triOf ws) = triL (triOf ws) := by unfold triW; rw [if_neg z]
        exact e3.trans this
    have ea3 := s3 _ _ ea
    have dl3 : DtAll [] H3 [lstS (lotsOf cEQ ws), lstS (lotsOf cPL ws), lstS (lotsOf cEX ws)] acc := DtAll.keep (Keep.of_same s3) _ _ (DtAll.mono (by simp) _ _ (dl [] trk_nil))
    refine w_lst ea3 ?_
    have la3 : acc.length = 3 := by rw [la]; rfl
    refine for_by (walk_list (xs := acc)) ⟨fun i σ H' => (∃ v3 v4 v5 : Option V, σ = [some (.ref W), some (.ref N), some (.ref D), v3, v4, v5]) ∧ Same H3 H' ∧ ∀ j c, j < i → [cEQ, cPL, cEX][j]? = some c → (lotsOf c ws).Sublist pg, ?_, fun i σ H' _ ⟨_, s, _⟩ => SqL.of (s _ _ ea3), ?_, ?_⟩
    · exact ⟨⟨_, _, _, rfl⟩, Same.refl _, fun j c h => by omega⟩
    · rintro i x σ H5 H4 hi ⟨⟨v3, v4, v5, rfl⟩, s4, sub⟩ ⟨rfl, hx⟩
      obtain ⟨c, hc⟩ : ∃ c, [cEQ, cPL, cEX][i]? = some c := ⟨_, List.getElem?_eq_getElem (by rw [la3] at hi; exact hi)⟩
      obtain ⟨dx, gx, ddx⟩ := dl3.get' hx
      obtain rfl : dx = lstS (lotsOf c ws) := by
        match i, hc with
        | 0, hc => cases hc; cases gx; rfl
        | 1, hc => cases hc; cases gx; rfl
        | 2, hc => cases hc; cases gx; rfl
      have ddx4 := ddx.same s4
      walk_at "v"
      refine ⟨[], lstS (lotsOf c ws), x, N, _, pg, rfl, ddx4, fun z hz => ?_, by show ((lotsOf c ws).map PyData.str).length < 64; rw [List.length_map]; have := lsz c; omega, s4 _ _ (s03 _ _ hN), .inl rfl, fun en H5 s5 => ?_, fun xs ex ys q5 H5 pm so hq5 h5 s5 => ?_⟩
      · obtain ⟨y, hy, rfl⟩ := List.mem_map.mp (show z ∈ (lotsOf c ws).map PyData.str from hz)
        exact Nat.le_trans (lsh c y hy) (by decide)
      · walk_at "v"
        refine i_neP (dt_n (S := [])) (ddx4.same s5) (.inl (by decide)) ?_
        walk_at "v"
        refine iteT ?_
        walk_at "v"
        refine k0 ?_ _ ((s03.trans s4).trans s5)
        have ns := lot_none po.nm (un_lst _) en
        unfold triP
        rw [if_neg e, if_neg]
        rintro ⟨_, _, ok⟩
        match i, hc with
        | 0, hc => cases hc; exact ns ok.c
        | 1, hc => cases hc; exact ns ok.f
        | 2, hc => cases hc; exact ns ok.s
      · have le := lot_eq po.nm (un_lst _) ex pm so
        walk_at "v"
        refine i_neP (dt_strs h5) (ddx4.same s5) (.inr (by show PyData.depth (.list ((lotsOf c ws).map .str)) ≤ 60; simp [PyData.depth, depth_strs])) ?_
        rw [show PyData.eqv (.list (ys.map .str)) (lstS (lotsOf c ws)) = decide (ys = lotsOf c ws) from eqv_strs ys _]
        walk_at "v"
        refine ifn (fun ne => ?_) (fun eq => ?_)
        · walk_at "v"
          refine k0 ?_ _ ((s03.trans s4).trans s5)
          have ns : ¬ (lotsOf c ws).Sublist pg := fun z => ne (le.mpr z)
          unfold triP
          rw [if_neg e, if_neg]
          rintro ⟨_, _, ok⟩
          match i, hc with
          | 0, hc => cases hc; exact ns ok.c
          | 1, hc => cases hc; exact ns ok.f
          | 2, hc => cases hc; exact ns ok.s
        · walk_at "v"
          refine ⟨⟨_, _, _, rfl⟩, s4.trans s5, fun j c' hj hc' => ?_⟩
          by_cases z : j = i
          · subst z
            rw [hc] at hc'; cases hc'
            exact le.mp eq
          · exact sub j c' (by omega) hc'
    · rintro σ H4 ⟨⟨v3, v4, v5, rfl⟩, s4, sub⟩
      rw [la3] at sub
      have ok : (triOf ws).Ok pg := ⟨sub 0 _ (by omega) rfl, sub 1 _ (by omega) rfl, sub 2 _ (by omega) rfl⟩
      have ex : triP pg ws = some (triOf ws) := by
        unfold triP
        rw [if_neg e, if_pos ⟨ew, eL, ok⟩]
      obtain ⟨x1, y1, rfl, z1, da⟩ := DtAll.cons_iff.mp dl3
      obtain ⟨x2, y2, rfl, z2, da⟩ := DtAll.cons_iff.mp da
      obtain ⟨x3, y3, rfl, z3, da⟩ := DtAll.cons_iff.mp da
      obtain rfl := DtAll.nil_iff.mp da
      obtain ⟨a1, r1, rfl, _, h1, b1⟩ := (by unfold lstS Dt at z1; exact z1)
      obtain ⟨a2, r2, rfl, _, h2, b2⟩ := (by unfold lstS Dt at z2; exact z2)
      obtain ⟨a3, r3, rfl, _, h3, b3⟩ := (by unfold lstS Dt at z3; exact z3)
      obtain rfl := DtAll.of_strs b1
      obtain rfl := DtAll.of_strs b2
      obtain rfl := DtAll.of_strs b3
      have ea4 := s4 _ _ ea3
      have g1 := s4 _ _ h1
      have g2 := s4 _ _ h2
      have g3 := s4 _ _ h3
      walk_at "v"
      refine i_tupleL g1 (fun t1 ht1 => ?_)
      walk_at "v"
      refine i_tupleL (h_new g2 ht1) (fun t2 ht2 => ?_)
      walk_at "v"
      refine i_tupleL (h_new (h_new g3 ht1) ht2) (fun t3 ht3 => ?_)
      walk_at "v"
      refine ⟨show 3 ≤ sizeLine by decide, fun t4 ht4 => ?_⟩
      have q0 := s03.trans s4
      have q1 := q0.new (o := .tup ((lotsOf cEQ ws).map V.str)) ht1
      have q2 := q1.new (o := .tup ((lotsOf cPL ws).map V.str)) ht2
      have q3 := q2.new (o := .tup ((lotsOf cEX ws).map V.str)) ht3
      have fr : ∀ {H' : Hp} {t : Addr}, Same H H' → H' t = none → H t = none := fun s h => (Keep.of_same (S := []) s).free h
      refine k1 _ ex t4 _ (fun S tS => ?_) (q3.new ht4)
      refine dt_tup upd_same ?_ (tS.nm (fr q3 ht4))
      exact DtAll.cons (dt_tup (h_new (h_new (h_new upd_same ht2) ht3) ht4) (DtAll.strs _) (tS.nm (fr q0 ht1))) (DtAll.cons (dt_tup (h_new (h_new upd_same ht3) ht4) (DtAll.strs _) (tS.nm (fr q1 ht2))) (DtAll.cons (dt_tup (h_new upd_same ht4) (DtAll.strs _) (tS.nm (fr q2 ht3))) DtAll.nil))
end Lr
set_option Elab.async false
set_option linter.all false
set_option maxRecDepth 100000
set_option maxHeartbeats 4000000
namespace Lr
open PySem PySem.Spec PyProof.Rows L2 TL
local macro_rules | `(tactic| walk_at "ne") => `(tactic| (first | assumption | (refine ne_sym ?_; assumption) | (exact ne_of_none (by assumption) (by assumption)) | (exact ne_sym (ne_of_none (by assumption) (by assumption)))))
local macro_rules | `(tactic| walk_at "h") => `(tactic| (first | assumption | exact upd_same | (refine h_new ?_ (by assumption); walk_at "h") | (refine h_ne (by walk_at "ne") ?_; walk_at "h")))
local macro_rules | `(tactic| walk_at "v1") => `(tactic| (with_reducible first
  | refine i_seq ?_ | refine i_asg ?_ | refine i_ret ?_ | refine i_next ?_ | refine i_drop ?_ | refine i_ifS ?_ | refine i_if ?_ | refine i_and ?_ | refine i_or ?_ | refine i_not ?_ | refine i_test ?_ | refine i_tB ?_ | refine i_bl ?_ | refine i_yes ?_
  | refine i_op ?_ | refine i_un ?_ | refine i_chain ?_ | refine i_andV ?_ | refine i_orV ?_ | refine i_notV ?_ | refine i_cb ?_ | refine i_cons ?_ | refine i_nil ?_ | refine i_bm ?_ | refine i_bm0 ?_ | refine i_c ?_ | refine i_name ?_ | refine i_sub ?_
  | refine i_call ?_ | refine i_lst ?_ | refine i_tup ?_ | refine i_par ?_ | refine i_par2 ?_ | refine i_sl ?_ | refine i_np ?_ | refine i_pt ?_ | refine i_int ?_ | refine i_m0 ?_ | refine i_m1 ?_ | refine i_isS ?_
  | refine i_rI0 ?_ | refine i_inSign ?_ | refine i_notInSign ?_ | refine i_int1 ?_ | refine i_tru ?_ | refine i_isN ?_ | refine i_notN ?_ | refine iteT ?_ | refine iteF ?_ | refine i_brk ?_ | refine i_rt ?_ | refine i_nx ?_ | refine i_bk ?_ | refine i_ct ?_ | refine i_for ?_ | refine i_lc ?_ | refine i_dc ?_ | refine i_iL ?_ | refine i_iT ?_ | refine i_iR1 ?_ | refine i_iR2 ?_ | refine i_iS ?_ | refine i_iE ?_ | refine i_iEK ?_ | refine i_iEQ ?_ | refine i_iZS ?_ | refine i_dget ?_ | refine i_fld ?_ | refine i_sfld ?_ | refine i_dput ?_ | refine i_meth ?_ | refine i_rU ?_ | refine i_cont ?_ | refine i_make ?_))
local macro_rules | `(tactic| walk_at "v2") => `(tactic| (first
  | ((with_reducible refine' i_var ?k1 ?_); (case k1 => exact rfl))
  | ((with_reducible refine' i_eq ?k1 ?_); (case k1 => exact rfl))
  | ((with_reducible refine' i_ne ?k1 ?_); (case k1 => exact rfl))
  | ((with_reducible refine' i_ixL ?k1 ?k2 ?_); (case k1 => walk_at "h"); (case k2 => exact rfl))
  | ((with_reducible refine' i_ixT ?k1 ?k2 ?_); (case k1 => walk_at "h"); (case k2 => exact rfl))
  | ((with_reducible refine' i_lenL ?k1 ?_); (case k1 => walk_at "h"))
  | ((with_reducible refine' i_lenT ?k1 ?_); (case k1 => walk_at "h"))
  | (refine i_wipe (show wipe _ _ = wipe _ _ from rfl) ?_)
  | ((with_reducible refine' i_setL ?k1 ?k2 ?_); (case k1 => walk_at "h"); (case k2 => exact rfl))
  | ((with_reducible refine' i_tyl ?k1 ?_); (case k1 => walk_at "h"))))
local macro_rules | `(tactic| walk_at "v") => `(tactic| repeat (first | walk_at "v1" | walk_at "v2"))

variable {P : Program} {w : World} {K :
      PySem.W.Frag} {mg : Str → Option Value} {base : Heap}
abbrev swhen_in : Stmt := top 27
abbrev Nwhen_in : List Str := ["words", "names", "found", "part"]
abbrev Pwhen_in : List Str := ["words", "names"]
theorem scwhen_in : FnScope Nwhen_in Pwhen_in (defScope swhen_in) := ⟨rfl, rfl, rfl, by decide +kernel, rfl, by decide +kernel, by decide +kernel⟩
abbrev FdParted (K : PySem.W.Frag) (mg : Str → Option Value) := Fd K mg "parted" sparted Pparted
abbrev FdTripIn (K : PySem.W.Frag) (mg : Str → Option Value) := Fd K mg "triple_in" striple_in Ptriple_in
theorem WsOk.part {ws : List Str} (h : WsOk ws) (sg : Str) : ∀ p ∈ partW sg ws, WsOk p := fun p hp => ⟨Nat.le_trans (partW_all sg ws p hp) h.few, fun x hx => h.short x (partW_mem sg ws p hp x hx), fun x hx => h.ne x (partW_mem sg ws p hp x hx)⟩
theorem lst_at {S : List Addr} {H : Hp} {l : List Str} {v : V} (h : Dt S H (lstS l) v) : ∃ a, v = .ref a ∧ H a = some (.lst (l.map V.str)) ∧ a ∉ S := by
  obtain ⟨a, xs, rfl, n, h1, h2⟩ := (by unfold lstS Dt at h; exact h)
  obtain rfl := DtAll.of_strs h2
  exact ⟨a, rfl, h1, n⟩
theorem list_at {S : List Addr} {H : Hp} {ds : List PyData} {a : Addr} (h : Dt S H (.list ds) (.ref a)) : ∃ xs, H a = some (.lst xs) ∧ DtAll S H ds xs ∧ a ∉ S := by
  unfold Dt at h
  obtain ⟨a', xs, e, n, h1, h2⟩ := h
  cases e
  exact ⟨xs, h1, h2, n⟩
/-- what is made anew, item by item -/
theorem New.items {H H' : Hp} {ds : List PyData} {q : Addr} {xs : List V} (n : New H H' (.list ds) (.ref q)) (h : H' q = some (.lst xs)) : ∀ S, Trk S H → DtAll S H' ds xs := fun S t => by
  obtain ⟨ys, h1, h2, _⟩ := list_at (n S t)
  rw [h] at h1; cases h1; exact h2
theorem New.of_items {H H' : Hp} {ds : List PyData} {xs : List V} (n : ∀ S, Trk S H → DtAll S H' ds xs) {i : Nat} {d : PyData} {v : V} (hd : ds[i]? = some d) (hv : xs[i]? = some v) : New H H' d v := fun S t => by
  obtain ⟨y, h1, h2⟩ := (n S t).get hd
  rw [hv] at h1; cases h1; exact h2
def spWhenIn : Sp := fun vs H Q _ => ∃ (W N : Addr) (ws pg : List Str), vs = [.ref W, .ref N] ∧ H W = some (.lst (ws.map V.str)) ∧ WsOk ws ∧ H N = some (.lst (pg.map V.str)) ∧ PgOk pg ∧
  (whenP pg ws = none → ∀ H', Same H H' → Q .non H') ∧ (∀ ts, whenP pg ws = some ts → ∀ q H', New H H' (whenD ts) (.ref q) → Same H H' → Q (.ref q) H')
theorem ok_whenin (d : Fd K mg "when_in" swhen_in Pwhen_in) (dparted : FdParted K mg) (dtriple_in : FdTripIn K mg) (dtriple_words : FdTripW K mg) (dlot_among : FdLotAmong K mg) (dnames_of : FdNamesOf K mg) (dis_name : FdIsName K mg) (B : Blt2 K mg) : FnOk P w K mg base CX0 5 d.f d.fd Pwhen_in spWhenIn := by
  have Gparted : FnOk P w K mg base CX0 1 dparted.f dparted.fd Pparted spParted := ok_parted dparted B.toBlt
  have Gtriple_in : FnOk P w K mg base CX0 4 dtriple_in.f dtriple_in.fd Ptriple_in spTripIn := ok_triplein dtriple_in dtriple_words dlot_among dnames_of dis_name B
  refine d.F.ok scwhen_in (fun vs H Q E h => ?_) (fun cdv A outer s H vs Q E hr h => ?_)
  · obtain ⟨W, N, ws, pg, rfl, _⟩ := h
    rfl
  · obtain ⟨W, N, ws, pg, rfl, hW, wo, hN, po, k0, k1⟩ := h
    refine ⟨_, (pss_cons (ps_if (pt_not (t_truth K (pv 0))) (pss_one (ps_ret (pe_tup pa_nil))) pss_nil)
      (pss_cons (ps_setLc (i := 2) (own := [("part", 3)]) (g := gName 3) (tt := tYes) rfl scwhen_in.nd rfl rfl (sw_true rfl rfl rfl (by decide +kernel)) (w_list K (pe_call Gparted (hr.mono (by decide)) (by rfl) dparted.g dparted.F.kp dparted.b .nil pass0 (pa_cons (pv 0) (pa_cons pe_str pa_nil)))) (blkOk_by (own := [("part", 3)]) (N := Nwhen_in) (sc := defScope swhen_in) (by decide +kernel)) (fun _ _ _ _ _ => by exact (pg_name (i := 3) scwhen_in.nd rfl (by first | exact Or.inl rfl | exact Or.inr rfl))) (fun _ _ _ _ _ => pts_nil) (fun _ _ _ _ _ => by exact (pe_call Gtriple_in (hr.mono (by decide)) (by rfl) dtriple_in.g dtriple_in.F.kp dtriple_in.b .nil pass0 (pa_cons (pv 3) (pa_cons (pv 1) pa_nil)))))
      (pss_one (ps_ret (pe_ifExp (pt_cmpR (o_inP K hr.units) pe_non (pv 2) (by rfl)) pe_non (pe_callTy (c_tuple K) (by rfl) B.tuple (by decide +kernel) (pa_cons (pv 2) pa_nil))))))), ?_⟩
    walk_at "v"
    refine ⟨_, .inl ⟨_, SqL.of hW, rfl⟩, ?_⟩
    by_cases ew : ws = []
    · subst ew
      refine iteT ?_
      walk_at "v"
      refine ⟨show 0 ≤ sizeLine by decide, fun t ht => ?_⟩
      exact k1 [] rfl t _ (fun S tS => dt_tup upd_same DtAll.nil (tS.nm ht)) ((Same.refl _).new ht)
    rw [show (!(!List.isEmpty (ws.map V.str))) = false by cases ws <;> simp_all]
    refine iteF ?_
    have few := wo.few
    walk_at "v"
    refine ⟨W, ws, sSL, rfl, hW, by omega, fun q H1 nq s1 => ?_⟩
    obtain ⟨xp, hq, dq, _⟩ := list_at (nq [] trk_nil)
    have lxp : xp.length = (partW sSL ws).length := by rw [dq.length]; simp
    have lpw := partW_len sSL ws
    walk_at "v"
    refine w_lst hq ?_
    refine lc_by (walk_list (xs := xp)) fun D hD => ⟨fun i H' => Acc [] H1 H' D (((partW sSL ws).take i).map fun p => triO (triP pg p)), Acc.start (Keep.refl _ _) hD, fun i H' _ ac => SqL.of (ac.kp.same _ _ hq), ?_, ?_⟩
    · rintro i x H3 H2 hi ac ⟨rfl, hx⟩
      obtain ⟨dp, gp, zp⟩ := dq.get' hx
      rw [List.getElem?_map] at gp
      obtain ⟨p, hp, rfl⟩ := Option.map_eq_some_iff.mp gp
      obtain ⟨a, rfl, ha, _⟩ := lst_at zp
      have stepO : ∀ (o : Option Tri) (v : V) (H5 : Hp), triP pg p = o → New H2 H5 (triO o) v → Same H2 H5 → ∃ acc, H5 D = some (.lst acc) ∧ acc.length < sizeLine ∧ Acc [] H1 (upd H5 D (.lst (acc ++ [v]))) D (((partW sSL ws).take (i + 1)).map fun p => triO (triP pg p)) := by
        intro o v H5 eo nv s5
        obtain ⟨acc, ea, la, _⟩ := id ac.ex
        obtain ⟨e5, ac5⟩ := ac.step trk_nil ea nv.toM (Keep.of_same s5)
        refine ⟨acc, e5, ?_, ?_⟩
        · rw [la, List.length_map, List.length_take]; exact small1000 (by omega)
        · rw [List.take_succ, hp, List.map_append]
          show Acc [] H1 _ D (_ ++ [triO (triP pg p)])
          rw [eo]; exact ac5
      walk_at "v"
      refine ⟨a, N, p, pg, rfl, ac.kp.same _ _ ha, wo.part sSL p (List.mem_of_getElem? hp), ac.kp.same _ _ (s1 _ _ hN), po, fun en H5 s5 => ?_, fun t et q5 H5 n5 s5 => ?_⟩
      · exact stepO none _ _ en (fun S t => dt_n) s5
      · exact stepO (some t) _ _ et n5 s5
    rintro H2 ac
    rw [lxp, List.take_length] at ac
    obtain ⟨acc, ea, la, dacc⟩ := id ac.ex
    have s2 := s1.trans ac.kp.same
    have nd := ac.done.toN
    have dl := nd [] trk_nil
    walk_at "v"
    refine ⟨.none, _, Dt.dp _ _ (dt_n (S := [])), .inl (Dt.dp _ _ dl), Dt.plain _ _ dl, rfl, by decide, ?_⟩
    have wp : whenP pg ws = triPs pg (partW sSL ws) := by unfold whenP; rw [if_neg ew]
    have ean : ((((partW sSL ws).map fun p => triO (triP pg p))).any fun y => PyData.eqv y .none) = decide (whenP pg ws = none) := by
      rw [wp]
      cases e : triPs pg (partW sSL ws) with
      | none =>
        obtain ⟨p, hp, z⟩ := triPs_none e
        rw [decide_eq_true rfl, List.any_eq_true]
        exact ⟨_, List.mem_map.mpr ⟨p, hp, rfl⟩, by rw [z]; rfl⟩
      | some ts =>
        rw [decide_eq_false (by simp), List.any_eq_false]
        intro y hy
        obtain ⟨p, hp, rfl⟩ := List.mem_map.mp hy
        cases z : triP pg p with
        | none => rw [triPs_no hp z] at e; cases e
        | some t => rw [show (triO (some t)).eqv PyData.none = false from rfl]; simp
    refine ⟨_, rfl, ?_⟩
    show if (((partW sSL ws).map fun p => triO (triP pg p)).any fun y => PyData.eqv y .none) = true then _ else _
    rw [ean]
    refine ifd (fun e => ?_) (fun e => ?_)
    · walk_at "v"
      exact k0 e _ s2
    · walk_at "v"
      refine i_tupleL ea (fun t ht => ?_)
      walk_at "v"
      cases ets : whenP pg ws with
      | none => exact absurd ets e
      | some ts =>
        refine k1 ts ets t _ (fun S tS => ?_) (s2.new ht)
        have em : ((partW sSL ws).map fun p => triO (triP pg p)) = ts.map triD := by
          have := triPs_map (by rw [← wp]; exact ets : triPs pg (partW sSL ws) = some ts)
          have := congrArg (List.map triO) this
          simpa [List.map_map, Function.comp_def, triO] using this
        have z := (nd.same ((Same.refl _).new (o := .tup acc) ht)) S (tS.same s1)
        rw [em] at z
        obtain ⟨xs, h1, h2, h3⟩ := list_at z
        have : xs = acc := by
          have e1 : upd H2 t (.tup acc) D = some (.lst acc) := h_new ea ht
          rw [e1] at h1; cases h1; rfl
        subst this
        exact dt_tup upd_same h2 (tS.nm ((Keep.of_same (S := []) s2).free ht))
end Lr
set_option Elab.async false
set_option linter.all false
set_option maxRecDepth 100000
set_option maxHeartbeats 4000000
namespace Lr
open PySem PySem.Spec PyProof.Rows L2 TL
local macro_rules | `(tactic| walk_at "ne") => `(tactic| (first | assumption | (refine ne_sym ?_; assumption) | (exact ne_of_none (by assumption) (by assumption)) | (exact ne_sym (ne_of_none (by assumption) (by assumption)))))
local macro_rules | `(tactic| walk_at "h") => `(tactic| (first | assumption | exact upd_same | (refine h_new ?_ (by assumption); walk_at "h") | (refine h_ne (by walk_at "ne") ?_; walk_at "h")))
local macro_rules | `(tactic| walk_at "v1") => `(tactic| (with_reducible first
  | refine i_seq ?_ | refine i_asg ?_ | refine i_ret ?_ | refine i_next ?_ | refine i_drop ?_ | refine i_ifS ?_ | refine i_if ?_ | refine i_and ?_ | refine i_or ?_ | refine i_not ?_ | refine i_test ?_ | refine i_tB ?_ | refine i_bl ?_ | refine i_yes ?_
  | refine i_op ?_ | refine i_un ?_ | refine i_chain ?_ | refine i_andV ?_ | refine i_orV ?_ | refine i_notV ?_ | refine i_cb ?_ | refine i_cons ?_ | refine i_nil ?_ | refine i_bm ?_ | refine i_bm0 ?_ | refine i_c ?_ | refine i_name ?_ | refine i_sub ?_
  | refine i_call ?_ | refine i_lst ?_ | refine i_tup ?_ | refine i_par ?_ | refine i_par2 ?_ | refine i_sl ?_ | refine i_np ?_ | refine i_pt ?_ | refine i_int ?_ | refine i_m0 ?_ | refine i_m1 ?_ | refine i_isS ?_
  | refine i_rI0 ?_ | refine i_inSign ?_ | refine i_notInSign ?_ | refine i_int1 ?_ | refine i_tru ?_ | refine i_isN ?_ | refine i_notN ?_ | refine iteT ?_ | refine iteF ?_ | refine i_brk ?_ | refine i_rt ?_ | refine i_nx ?_ | refine i_bk ?_ | refine i_ct ?_ | refine i_for ?_ | refine i_lc ?_ | refine i_dc ?_ | refine i_iL ?_ | refine i_iT ?_ | refine i_iR1 ?_ | refine i_iR2 ?_ | refine i_iS ?_ | refine i_iE ?_ | refine i_iEK ?_ | refine i_iEQ ?_ | refine i_iZS ?_ | refine i_dget ?_ | refine i_fld ?_ | refine i_sfld ?_ | refine i_dput ?_ | refine i_meth ?_ | refine i_rU ?_ | refine i_cont ?_ | refine i_make ?_))
local macro_rules | `(tactic| walk_at "v2") => `(tactic| (first
  | ((with_reducible refine' i_var ?k1 ?_); (case k1 => exact rfl))
  | ((with_reducible refine' i_eq ?k1 ?_); (case k1 => exact rfl))
  | ((with_reducible refine' i_ne ?k1 ?_); (case k1 => exact rfl))
  | ((with_reducible refine' i_ixL ?k1 ?k2 ?_); (case k1 => walk_at "h"); (case k2 => exact rfl))
  | ((with_reducible refine' i_ixT ?k1 ?k2 ?_); (case k1 => walk_at "h"); (case k2 => exact rfl))
  | ((with_reducible refine' i_lenL ?k1 ?_); (case k1 => walk_at "h"))
  | ((with_reducible refine' i_lenT ?k1 ?_); (case k1 => walk_at "h"))
  | (refine i_wipe (show wipe _ _ = wipe _ _ from rfl) ?_)
  | ((with_reducible refine' i_setL ?k1 ?k2 ?_); (case k1 => walk_at "h"); (case k2 => exact rfl))
  | ((with_reducible refine' i_tyl ?k1 ?_); (case k1 => walk_at "h"))))
local macro_rules | `(tactic| walk_at "v") => `(tactic| repeat (first | walk_at "v1" | walk_at "v2"))

variable {P : Program} {w : World} {K :
      PySem.W.Frag} {mg : Str → Option Value} {base : Heap}
abbrev slots_in : Stmt := top 28
abbrev Nlots_in : List Str := ["words", "names", "parts", "more", "lots", "lot"]
abbrev Plots_in : List Str := ["words", "names"]
theorem sclots_in : FnScope Nlots_in Plots_in (defScope slots_in) := ⟨rfl, rfl, rfl, by decide +kernel, rfl, by decide +kernel, by decide +kernel⟩
def spLotsIn : Sp := fun vs H Q _ => ∃ (W N : Addr) (ws pg : List Str), vs = [.ref W, .ref N] ∧ H W = some (.lst (ws.map V.str)) ∧ WsOk ws ∧ H N = some (.lst (pg.map V.str)) ∧ PgOk pg ∧
  (kdP pg (("do" : Str) :: ws) = none → ∀ H', Same H H' → Q .non H') ∧ (∀ r w v, kdP pg (("do" : Str) :: ws) = some (.do_ r w v) → ∀ q H', New H H' (.list [lstS r, lstS w, lstS v]) (.ref q) → Same H H' → Q (.ref q) H')
theorem len_pair {α : Type} {l : List α} (h : l.length = 2) : ∃ a b, l = [a, b] := by
  match l, h with
  | [a, b], _ => exact ⟨a, b, rfl⟩
theorem ok_lotsin (d : Fd K mg "lots_in" slots_in Plots_in) (dparted : FdParted K mg) (dlot_among : FdLotAmong K mg) (dnames_of : FdNamesOf K mg) (dis_name : FdIsName K mg) (B : Blt2 K mg) : FnOk P w K mg base CX0 4 d.f d.fd Plots_in spLotsIn := by
  have Gparted : FnOk P w K mg base CX0 1 dparted.f dparted.fd Pparted spParted := ok_parted dparted B.toBlt
  have Glot_among : FnOk P w K mg base CX0 3 dlot_among.f dlot_among.fd Plot_among spLotAmong := ok_lotamong dlot_among dnames_of dis_name B.toBlt
  refine d.F.ok sclots_in (fun vs H Q E h => ?_) (fun cdv A outer s H vs Q E hr h => ?_)
  · obtain ⟨W, N, ws, pg, rfl, _⟩ := h
    rfl
  · obtain ⟨W, N, ws, pg, rfl, hW, wo, hN, po, k0, k1⟩ := h
    refine ⟨_, (pss_cons (ps_set (i := 2) sclots_in.nd rfl (by first | exact Or.inl rfl | exact Or.inr rfl) (pe_call Gparted (hr.mono (by decide)) (by rfl) dparted.g dparted.F.kp dparted.b .nil pass0 (pa_cons (pv 0) (pa_cons pe_str pa_nil))))
      (pss_cons (ps_if (pt_cmpR op_ne (pe_callB (c_len K) (by rfl) B.len (by decide +kernel) (pa_cons (pv 2) pa_nil)) pe_int (nomark _)) (pss_one (ps_ret pe_non)) pss_nil)
      (pss_cons (ps_set (i := 3) sclots_in.nd rfl (by first | exact Or.inl rfl | exact Or.inr rfl) (pe_call Gparted (hr.mono (by decide)) (by rfl) dparted.g dparted.F.kp dparted.b .nil pass0 (pa_cons (pe_ix (x_list K) (pv 2) pe_int (fun _ _ => rfl)) (pa_cons pe_str pa_nil))))
      (pss_cons (ps_if (pt_cmpR op_ne (pe_callB (c_len K) (by rfl) B.len (by decide +kernel) (pa_cons (pv 3) pa_nil)) pe_int (nomark _)) (pss_one (ps_ret pe_non)) pss_nil)
      (pss_cons (ps_set (i := 4) sclots_in.nd rfl (by first | exact Or.inl rfl | exact Or.inr rfl) (pe_lst (pa_cons (pe_ix (x_list K) (pv 2) pe_int (fun _ _ => rfl)) (pa_cons (pe_ix (x_list K) (pv 3) pe_int (fun _ _ => rfl)) (pa_cons (pe_ix (x_list K) (pv 3) pe_int (fun _ _ => rfl)) pa_nil)))))
      (pss_cons (ps_for PassesOwn.never rfl (w_list K (pv 4)) (pg_name (i := 5) sclots_in.nd rfl (by first | exact Or.inl rfl | exact Or.inr rfl))
      (pss_one (ps_if (pt_cmpR (o_neP K hr.units) (pe_call Glot_among (hr.mono (by decide)) (by rfl) dlot_among.g dlot_among.F.kp dlot_among.b .nil pass0 (pa_cons (pv 5) (pa_cons (pv 1) pa_nil))) (pv 5) (nomark _)) (pss_one (ps_ret pe_non)) pss_nil)))
      (pss_cons (ps_if (PW.pt (pw_or (pt_not (t_truth K (pe_ix (x_list K) (pv 4) pe_int (fun _ _ => rfl)))) (pw_or1 (pt_cmpR o_isN (pe_call Glot_among (hr.mono (by decide)) (by rfl) dlot_among.g dlot_among.F.kp dlot_among.b .nil pass0 (pa_cons (pe_ix (x_list K) (pv 4) pe_int (fun _ _ => rfl)) (pa_cons (pe_ix (x_list K) (pv 4) pe_int (fun _ _ => rfl)) pa_nil))) pe_non (nomark _))))) (pss_one (ps_ret pe_non)) pss_nil)
      (pss_one (ps_ret (pv 4)))))))))), ?_⟩
    have few := wo.few
    rw [kdP_cons, if_pos rfl] at k0 k1
    walk_at "v"
    refine ⟨W, ws, sGT, rfl, hW, by omega, fun q H1 nq s1 => ?_⟩
    obtain ⟨xp, hq, dq, _⟩ := list_at (nq [] trk_nil)
    have nqi := nq.items hq
    have lxp : xp.length = (partW sGT ws).length := by rw [dq.length]; simp
    walk_at "v"
    refine ifn (fun e => ?_) (fun e => ?_)
    · walk_at "v"
      refine k0 ?_ _ s1
      split
      · rename_i r m e1
        rw [e1] at lxp
        exact absurd (by rw [lxp]; rfl) e
      · rfl
    have lp2 : (partW sGT ws).length = 2 := by rw [← lxp]; injection e with e; omega
    obtain ⟨r, m, erm⟩ := len_pair lp2
    rw [erm] at k0 k1 dq nqi
    obtain ⟨x0, y0, exp, z0, dq⟩ := DtAll.cons_iff.mp dq
    obtain ⟨x1, y1, ey, z1, dq⟩ := DtAll.cons_iff.mp dq
    obtain rfl := DtAll.nil_iff.mp dq
    subst ey exp
    obtain ⟨a0, rfl, ha0, _⟩ := lst_at z0
    obtain ⟨a1, rfl, ha1, _⟩ := lst_at z1
    have n0 : New H H1 (lstS r) (.ref a0) := New.of_items nqi (i := 0) rfl rfl
    have mr : r ∈ partW sGT ws := by rw [erm]; simp
    have mm : m ∈ partW sGT ws := by rw [erm]; simp
    have wr := wo.part sGT r mr
    have wm := wo.part sGT m mm
    have fm := wm.few
    walk_at "v"
    refine ⟨a1, m, sCO, rfl, ha1, by omega, fun q2 H2 nq2 s2 => ?_⟩
    obtain ⟨xm, hq2, dq2, _⟩ := list_at (nq2 [] trk_nil)
    have nqi2 := nq2.items hq2
    have lxm : xm.length = (partW sCO m).length := by rw [dq2.length]; simp
    walk_at "v"
    refine ifn (fun e2 => ?_) (fun e2 => ?_)
    · walk_at "v"
      refine k0 ?_ _ (s1.trans s2)
      show (match partW sCO m with | [w, v] => _ | _ => none) = none
      split
      · rename_i w v e3
        rw [e3] at lxm
        exact absurd (by rw [lxm]; rfl) e2
      · rfl
    have lp3 : (partW sCO m).length = 2 := by rw [← lxm]; injection e2 with e2; omega
    obtain ⟨w', v', ewv⟩ := len_pair lp3
    change ((match partW sCO m with | [w, v] => _ | _ => none) = none → _) at k0
    change ∀ r₁ w v, (match partW sCO m with | [w, v] => _ | _ => none) = some (Kd.do_ r₁ w v) → _ at k1
    rw [ewv] at k0 k1 dq2 nqi2
    have K0 : ¬ (Kd.do_ r w' v').Ok pg → ∀ H', Same H H' → Q .non H' := fun n => k0 (if_neg n)
    have K1 : (Kd.do_ r w' v').Ok pg → ∀ q H', New H H' (.list [lstS r, lstS w', lstS v']) (.ref q) → Same H H' → Q (.ref q) H' := fun n => k1 r w' v' (if_pos n)
    clear k0 k1
    obtain ⟨x2, y2, exm, z2, dq2⟩ := DtAll.cons_iff.mp dq2
    obtain ⟨x3, y3, ey3, z3, dq2⟩ := DtAll.cons_iff.mp dq2
    obtain rfl := DtAll.nil_iff.mp dq2
    subst ey3 exm
    obtain ⟨a2, rfl, ha2, _⟩ := lst_at z2
    obtain ⟨a3, rfl, ha3, _⟩ := lst_at z3
    have n2 : New H1 H2 (lstS w') (.ref a2) := New.of_items nqi2 (i := 0) rfl rfl
    have n3 : New H1 H2 (lstS v') (.ref a3) := New.of_items nqi2 (i := 1) rfl rfl
    have mw : w' ∈ partW sCO m := by rw [ewv]; simp
    have mv : v' ∈ partW sCO m := by rw [ewv]; simp
    have ww := wm.part sCO w' mw
    have wv := wm.part sCO v' mv
    have hq' := s2 _ _ hq
    have ha0' := s2 _ _ ha0
    have s12 := s1.trans s2
    walk_at "v"
    refine ⟨show 3 ≤ sizeLine by decide, fun D hD => ?_⟩
    obtain ⟨H3, e3⟩ : ∃ H3, H3 = upd H2 D (.lst [.ref a0, .ref a2, .ref a3]) := ⟨_, rfl⟩
    have hD3 : H3 D = some (.lst [.ref a0, .ref a2, .ref a3]) := by rw [e3]; exact upd_same
    have s23 : Same H2 H3 := by rw [e3]; exact (Same.refl _).new hD
    rw [← e3]
    clear e3
    have s13 := s12.trans s23
    walk_at "v"
    refine w_lst hD3 ?_
    have lots : ∀ (i : Nat) (x : V), ([V.ref a0, .ref a2, .ref a3] : List V)[i]? = some x → ∃ (a : Addr) (l : List Str), x = .ref a ∧ ([r, w', v'] : List (List Str))[i]? = some l ∧ H3 a = some (.lst (l.map V.str)) ∧ WsOk l := fun i x hx => by
      match i, hx with
      | 0, hx => cases hx; exact ⟨a0, r, rfl, rfl, s23 _ _ ha0', wr⟩
      | 1, hx => cases hx; exact ⟨a2, w', rfl, rfl, s23 _ _ ha2, ww⟩
      | 2, hx => cases hx; exact ⟨a3, v', rfl, rfl, s23 _ _ ha3, wv⟩
    have notok : ∀ (i : Nat) (l : List Str), ([r, w', v'] : List (List Str))[i]? = some l → ¬ l.Sublist pg → ¬ (Kd.do_ r w' v').Ok pg := fun i l hl n ok => by
      match i, hl with
      | 0, hl => cases hl; exact n ok.1
      | 1, hl => cases hl; exact n ok.2.1
      | 2, hl => cases hl; exact n (ok.2.2.2.trans ok.2.1)
    refine for_by (walk_list (xs := [V.ref a0, .ref a2, .ref a3])) ⟨fun i σ H' => (∃ v5 : Option V, σ = [some (.ref W), some (.ref N), some (.ref q), some (.ref q2), some (.ref D), v5]) ∧ Same H3 H' ∧ ∀ (j : Nat) (l : List Str), j < i → ([r, w', v'] : List (List Str))[j]? = some l → l.Sublist pg, ?_, fun i σ H' _ ⟨_, s, _⟩ => SqL.of (s _ _ hD3), ?_, ?_⟩
    · exact ⟨⟨_, rfl⟩, Same.refl _, fun j c h => by omega⟩
    · rintro i x σ H5 H4 hi ⟨⟨v5, rfl⟩, s4, sub⟩ ⟨rfl, hx⟩
      obtain ⟨a, l, rfl, hl, hal, wl⟩ := lots i x hx
      have ddx4 : Dt [] H4 (lstS l) (.ref a) := dt_strs (s4 _ _ hal)
      walk_at "v"
      refine ⟨[], lstS l, .ref a, N, _, pg, rfl, ddx4, fun z hz => ?_, by show (l.map PyData.str).length < 64; rw [List.length_map]; have := wl.few; omega, s4 _ _ (s13 _ _ hN), .inl rfl, fun en H5 s5 => ?_, fun xs ex ys q5 H5 pm so hq5 h5 s5 => ?_⟩
      · obtain ⟨y, hy, rfl⟩ := List.mem_map.mp (show z ∈ l.map PyData.str from hz)
        exact Nat.le_trans (wl.short y hy) (by decide)
      · walk_at "v"
        refine i_neP (dt_n (S := [])) (ddx4.same s5) (.inl (by decide)) ?_
        walk_at "v"
        refine iteT ?_
        walk_at "v"
        exact K0 (notok i l hl (lot_none po.nm (un_lst _) en)) _ ((s13.trans s4).trans s5)
      · have le := lot_eq po.nm (un_lst _) ex pm so
        walk_at "v"
        refine i_neP (dt_strs h5) (ddx4.same s5) (.inr (by show PyData.depth (.list (l.map .str)) ≤ 60; simp [PyData.depth, depth_strs])) ?_
        rw [show PyData.eqv (.list (ys.map .str)) (lstS l) = decide (ys = l) from eqv_strs ys _]
        walk_at "v"
        refine ifn (fun ne => ?_) (fun eq => ?_)
        · walk_at "v"
          exact K0 (notok i l hl fun z => ne (le.mpr z)) _ ((s13.trans s4).trans s5)
        · walk_at "v"
          refine ⟨⟨_, rfl⟩, s4.trans s5, fun j c' hj hc' => ?_⟩
          by_cases z : j = i
          · subst z
            rw [hl] at hc'; cases hc'
            exact le.mp eq
          · exact sub j c' (by omega) hc'
    · rintro σ H4 ⟨⟨v5, rfl⟩, s4, sub⟩
      have sr := sub 0 r (by simp) rfl
      have sw := sub 1 w' (by simp) rfl
      have sv := sub 2 v' (by simp) rfl
      have hD4 := s4 _ _ hD3
      have s14 := s13.trans s4
      walk_at "v"
      have ga2 := s4 _ _ (s23 _ _ ha2)
      have ga3 := s4 _ _ (s23 _ _ ha3)
      refine ⟨_, .inl ⟨_, SqL.of ga2, rfl⟩, ?_⟩
      by_cases ew : w' = []
      · rw [ew]
        refine iteT ?_
        refine iteT ?_
        walk_at "v"
        exact K0 (fun ok => ok.2.2.1 ew) _ s14
      rw [show (!(!List.isEmpty (w'.map V.str))) = false by cases w' <;> simp_all]
      refine iteF ?_
      walk_at "v"
      refine ⟨[], lstS v', .ref a3, a2, _, w', rfl, dt_strs ga3, fun z hz => ?_, by show (v'.map PyData.str).length < 64; rw [List.length_map]; have := wv.few; omega, ga2, .inl rfl, fun en H5 s5 => ?_, fun xs ex ys q5 H5 pm so hq5 h5 s5 => ?_⟩
      · obtain ⟨y, hy, rfl⟩ := List.mem_map.mp (show z ∈ v'.map PyData.str from hz)
        exact Nat.le_trans (wv.short y hy) (by decide)
      · walk_at "v"
        refine iteT ?_
        walk_at "v"
        exact K0 (fun ok => lot_none (po.nm.sub sw) (un_lst _) en ok.2.2.2) _ (s14.trans s5)
      · walk_at "v"
        refine iteF ?_
        walk_at "v"
        obtain ⟨_, _, _, sb⟩ := lotD_some (un_lst _) ex
        have nv := po.nm.sub sv
        have nw := po.nm.sub sw
        have s15 := s14.trans s5
        refine K1 ⟨sr, sw, ew, sub_sorted nw.pw nw.nd nv.pw nv.nd sb⟩ D _ (fun S tS => ?_) s15
        have t1 := tS.same s1
        refine dt_list (s5 _ _ hD4) ?_ (tS.nm ((Keep.of_same (S := []) s12).free hD))
        have z0 := ((n0 S tS).same (((s2.trans s23).trans s4).trans s5))
        have z2 := ((n2 S t1).same ((s23.trans s4).trans s5))
        have z3 := ((n3 S t1).same ((s23.trans s4).trans s5))
        exact DtAll.cons z0 (DtAll.cons z2 (DtAll.cons z3 DtAll.nil))
end Lr
set_option Elab.async false
set_option linter.all false
set_option maxRecDepth 100000
set_option maxHeartbeats 4000000
namespace Lr
open PySem PySem.Spec PyProof.Rows L2 TL
local macro_rules | `(tactic| walk_at "ne") => `(tactic| (first | assumption | (refine ne_sym ?_; assumption) | (exact ne_of_none (by assumption) (by assumption)) | (exact ne_sym (ne_of_none (by assumption) (by assumption)))))
local macro_rules | `(tactic| walk_at "h") => `(tactic| (first | assumption | exact upd_same | (refine h_new ?_ (by assumption); walk_at "h") | (refine h_ne (by walk_at "ne") ?_; walk_at "h")))
local macro_rules | `(tactic| walk_at "v1") => `(tactic| (with_reducible first
  | refine i_seq ?_ | refine i_asg ?_ | refine i_ret ?_ | refine i_next ?_ | refine i_drop ?_ | refine i_ifS ?_ | refine i_if ?_ | refine i_and ?_ | refine i_or ?_ | refine i_not ?_ | refine i_test ?_ | refine i_tB ?_ | refine i_bl ?_ | refine i_yes ?_
  | refine i_op ?_ | refine i_un ?_ | refine i_chain ?_ | refine i_andV ?_ | refine i_orV ?_ | refine i_notV ?_ | refine i_cb ?_ | refine i_cons ?_ | refine i_nil ?_ | refine i_bm ?_ | refine i_bm0 ?_ | refine i_c ?_ | refine i_name ?_ | refine i_sub ?_
  | refine i_call ?_ | refine i_lst ?_ | refine i_tup ?_ | refine i_par ?_ | refine i_par2 ?_ | refine i_sl ?_ | refine i_np ?_ | refine i_pt ?_ | refine i_int ?_ | refine i_m0 ?_ | refine i_m1 ?_ | refine i_isS ?_
  | refine i_rI0 ?_ | refine i_inSign ?_ | refine i_notInSign ?_ | refine i_int1 ?_ | refine i_tru ?_ | refine i_isN ?_ | refine i_notN ?_ | refine iteT ?_ | refine iteF ?_ | refine i_brk ?_ | refine i_rt ?_ | refine i_nx ?_ | refine i_bk ?_ | refine i_ct ?_ | refine i_for ?_ | refine i_lc ?_ | refine i_dc ?_ | refine i_iL ?_ | refine i_iT ?_ | refine i_iR1 ?_ | refine i_iR2 ?_ | refine i_iS ?_ | refine i_iE ?_ | refine i_iEK ?_ | refine i_iEQ ?_ | refine i_iZS ?_ | refine i_dget ?_ | refine i_fld ?_ | refine i_sfld ?_ | refine i_dput ?_ | refine i_meth ?_ | refine i_rU ?_ | refine i_cont ?_ | refine i_make ?_))
local macro_rules | `(tactic| walk_at "v2") => `(tactic| (first
  | ((with_reducible refine' i_var ?k1 ?_); (case k1 => exact rfl))
  | ((with_reducible refine' i_eq ?k1 ?_); (case k1 => exact rfl))
  | ((with_reducible refine' i_ne ?k1 ?_); (case k1 => exact rfl))
  | ((with_reducible refine' i_ixL ?k1 ?k2 ?_); (case k1 => walk_at "h"); (case k2 => exact rfl))
  | ((with_reducible refine' i_ixT ?k1 ?k2 ?_); (case k1 => walk_at "h"); (case k2 => exact rfl))
  | ((with_reducible refine' i_lenL ?k1 ?_); (case k1 => walk_at "h"))
  | ((with_reducible refine' i_lenT ?k1 ?_); (case k1 => walk_at "h"))
  | (refine i_wipe (show wipe _ _ = wipe _ _ from rfl) ?_)
  | ((with_reducible refine' i_setL ?k1 ?k2 ?_); (case k1 => walk_at "h"); (case k2 => exact rfl))
  | ((with_reducible refine' i_tyl ?k1 ?_); (case k1 => walk_at "h"))))
local macro_rules | `(tactic| walk_at "v") => `(tactic| repeat (first | walk_at "v1" | walk_at "v2"))

variable {P : Program} {w : World} {K :
      PySem.W.Frag} {mg : Str → Option Value} {base : Heap}
abbrev sstep_in : Stmt := top 29
abbrev Nstep_in : List Str := ["line", "names", "words", "at", "when", "rest", "lots"]
abbrev Pstep_in : List Str := ["line", "names"]
theorem scstep_in : FnScope Nstep_in Pstep_in (defScope sstep_in) := ⟨rfl, rfl, rfl, by decide +kernel, rfl, by decide +kernel, by decide +kernel⟩
abbrev FdWhenIn (K : PySem.W.Frag) (mg : Str → Option Value) := Fd K mg "when_in" swhen_in Pwhen_in
abbrev FdLotsIn (K : PySem.W.Frag) (mg : Str → Option Value) := Fd K mg "lots_in" slots_in Plots_in
abbrev FdWordsIn (K : PySem.W.Frag) (mg : Str → Option Value) := Fd K mg "words_in" swords_in Pwords_in
def spStepIn : Sp := fun vs H Q _ => ∃ (z : Str) (N : Addr) (pg : List Str), vs = [.str z, .ref N] ∧ z.length ≤ 10000 ∧ (words z).length ≤ 64 ∧ H N = some (.lst (pg.map V.str)) ∧ PgOk pg ∧
  (stepP pg (words z) = none → ∀ H', Same H H' → Q .non H') ∧ (∀ s, stepP pg (words z) = some s → ∀ d v H', un d = un (stepD s) → New H H' d v → Same H H' → Q v H')
theorem ok_stepin (d : Fd K mg "step_in" sstep_in Pstep_in) (dwords_in : FdWordsIn K mg) (dwhen_in : FdWhenIn K mg) (dlots_in : FdLotsIn K mg) (dparted : FdParted K mg) (dtriple_in : FdTripIn K mg) (dtriple_words : FdTripW K mg) (dlot_among : FdLotAmong K mg) (dnames_of : FdNamesOf K mg) (dis_name : FdIsName K mg) (B : Blt2 K mg) : FnOk P w K mg base CX0 6 d.f d.fd Pstep_in spStepIn := by
  have Gwords_in : FnOk P w K mg base CX0 1 dwords_in.f dwords_in.fd Pwords_in spWordsIn := ok_wordsin dwords_in B.toBlt
  have Gwhen_in : FnOk P w K mg base CX0 5 dwhen_in.f dwhen_in.fd Pwhen_in spWhenIn := ok_whenin dwhen_in dparted dtriple_in dtriple_words dlot_among dnames_of dis_name B
  have Glots_in : FnOk P w K mg base CX0 4 dlots_in.f dlots_in.fd Plots_in spLotsIn := ok_lotsin dlots_in dparted dlot_among dnames_of dis_name B
  have Glot_among : FnOk P w K mg base CX0 3 dlot_among.f dlot_among.fd Plot_among spLotAmong := ok_lotamong dlot_among dnames_of dis_name B.toBlt
  refine d.F.ok scstep_in (fun vs H Q E h => ?_) (fun cdv A outer s H vs Q E hr h => ?_)
  · obtain ⟨z, N, pg, rfl, _⟩ := h
    rfl
  · obtain ⟨z, N, pg, rfl, lz, lw, hN, po, k0, k1⟩ := h
    refine ⟨_, (pss_cons (ps_set (i := 2) scstep_in.nd rfl (by first | exact Or.inl rfl | exact Or.inr rfl) (pe_call Gwords_in (hr.mono (by decide)) (by rfl) dwords_in.g dwords_in.F.kp dwords_in.b .nil pass0 (pa_cons (pv 0) pa_nil)))
      (pss_cons (ps_if (PW.pt (pw_or (pt_cmpR o_isN (pv 2) pe_non (nomark _)) (pw_or1 (pt_cmpR (o_notIn K) pe_str (pv 2) (by rfl))))) (pss_one (ps_ret pe_non)) pss_nil)
      (pss_cons (ps_set (i := 3) scstep_in.nd rfl (by first | exact Or.inl rfl | exact Or.inr rfl) (e_bm K PySem.F.plainAttrs_list PySem.F.slot_list_index PySem.F.type_list_index mt_index (pv 2) (pa_cons pe_str pa_nil)))
      (pss_cons (ps_set (i := 4) scstep_in.nd rfl (by first | exact Or.inl rfl | exact Or.inr rfl) (pe_call Gwhen_in (hr.mono (by decide)) (by rfl) dwhen_in.g dwhen_in.F.kp dwhen_in.b .nil pass0 (pa_cons (pe_slice (s_list K) (pv 2) (po_some (pe_op op_add (pv 3) pe_int)) po_none) (pa_cons (pv 1) pa_nil))))
      (pss_cons (ps_set (i := 5) scstep_in.nd rfl (by first | exact Or.inl rfl | exact Or.inr rfl) (pe_slice (s_list K) (pv 2) (po_some pe_int) (po_some (pv 3))))
      (pss_cons (ps_if (PW.pt (pw_or (pt_cmpR o_isN (pv 4) pe_non (nomark _)) (pw_or1 (pt_cmpR op_eq (pv 3) pe_int (nomark _))))) (pss_one (ps_ret pe_non)) pss_nil)
      (pss_cons (ps_if (pt_cmpR op_eq (pe_ix (x_list K) (pv 2) pe_int (fun _ _ => rfl)) pe_str (nomark _)) (pss_cons (ps_set (i := 6) scstep_in.nd rfl (by first | exact Or.inl rfl | exact Or.inr rfl) (pe_call Glots_in (hr.mono (by decide)) (by rfl) dlots_in.g dlots_in.F.kp dlots_in.b .nil pass0 (pa_cons (pv 5) (pa_cons (pv 1) pa_nil))))
      (pss_one (ps_ret (pe_ifExp (pt_cmpR o_isN (pv 6) pe_non (nomark _)) pe_non (pe_tup (pa_cons pe_str (pa_cons (pe_ix (x_list K) (pv 6) pe_int (fun _ _ => rfl)) (pa_cons (pe_ix (x_list K) (pv 6) pe_int (fun _ _ => rfl)) (pa_cons (pe_ix (x_list K) (pv 6) pe_int (fun _ _ => rfl)) (pa_cons (pv 4) pa_nil)))))))))) pss_nil)
      (pss_cons (ps_if (pt_cmpR op_eq (pe_ix (x_list K) (pv 2) pe_int (fun _ _ => rfl)) pe_str (nomark _)) (pss_one (ps_ret (pe_ifExp (PW.pt (pw_and (t_truth K (pv 5)) (pw_and1 (pt_cmpR (o_eqP K hr.units) (pe_call Glot_among (hr.mono (by decide)) (by rfl) dlot_among.g dlot_among.F.kp dlot_among.b .nil pass0 (pa_cons (pv 5) (pa_cons (pv 1) pa_nil))) (pv 5) (nomark _))))) (pe_tup (pa_cons pe_str (pa_cons (pv 5) (pa_cons (pv 4) pa_nil)))) pe_non))) pss_nil)
      (pss_cons (ps_if (PW.pt (pw_and (pt_cmpR (o_in K) (pe_ix (x_list K) (pv 2) pe_int (fun _ _ => rfl)) (pe_tup (pa_cons pe_str (pa_cons pe_str (pa_cons pe_str pa_nil)))) (by rfl)) (pw_and1 (pt_not (t_truth K (pv 5)))))) (pss_one (ps_ret (pe_tup (pa_cons (pe_ix (x_list K) (pv 2) pe_int (fun _ _ => rfl)) (pa_cons (pv 4) pa_nil))))) pss_nil)
      (pss_one (ps_ret pe_non))))))))))), ?_⟩
    walk_at "v"
    refine ⟨z, rfl, Nat.le_trans lz (by decide), fun he H1 s1 => ?_, fun hne W H1 hW s1 => ?_⟩
    · walk_at "v"
      refine iteT ?_
      refine iteT ?_
      walk_at "v"
      refine k0 ?_ _ s1
      cases e : stepP pg (words z) with
      | none => rfl
      | some sd =>
        obtain ⟨ok, eq⟩ := stepP_some e
        exact absurd (by rw [eq]; exact he) (stepW_ne po ok)
    obtain ⟨ws, ews⟩ : ∃ ws, ws = words z := ⟨_, rfl⟩
    rw [← ews] at lw hne hW k0 k1
    have wsh : ∀ x ∈ ws, x.length ≤ 10000 := fun x hx => Nat.le_trans (len_sum_split tl_spc (by decide) x (by rw [ews] at hx; exact hx)) lz
    have wne : ∀ x ∈ ws, x ≠ ("" : Str) := fun x hx e => hne (e ▸ hx)
    walk_at "v"
    refine iteF ?_
    walk_at "v"
    refine ⟨W, ws.map V.str, rfl, .inl (SqL.of hW), rfl, flat_strs _, ?_⟩
    rw [if_pos rfl, inV_strs]
    refine ⟨_, rfl, ?_⟩
    refine ifn (fun nq => ?_) (fun hq => ?_)
    · walk_at "v"
      exact k0 (by unfold stepP; rw [if_neg nq]) _ s1
    obtain ⟨j, ej, hj, fj, eh, et, lj⟩ := head_at hq
    have k0' : (match kdP pg (ws.take j), whenP pg (ws.drop (j + 1)) with | some k, some w => some (⟨k, w⟩ : Sd) | _, _ => none) = none → ∀ H', Same H H' → Q .non H' := fun e => k0 (by unfold stepP; rw [if_pos hq, eh, et]; exact e)
    have k1' : ∀ k w, kdP pg (ws.take j) = some k → whenP pg (ws.drop (j + 1)) = some w → ∀ d v H', un d = un (stepD ⟨k, w⟩) → New H H' d v → Same H H' → Q v H' := fun k w e1 e2 => k1 ⟨k, w⟩ (by unfold stepP; rw [if_pos hq, eh, et, e1, e2])
    clear k0 k1
    walk_at "v"
    refine ⟨W, ws.map V.str, .str sQ, j, .str sQ, rfl, rfl, SqL.of hW, rfl, flat_strs _, by rw [List.getElem?_map, hj]; rfl, by decide, fun m z' hm hz' => ?_, ?_⟩
    · rw [List.getElem?_map] at hz'
      obtain ⟨y, hy, rfl⟩ := Option.map_eq_some_iff.mp hz'
      have := fj m y hm hy
      simp [eqV, this]
    walk_at "v"
    refine ⟨W, _, rfl, SqL.of hW, fun p1 hp1 => ?_⟩
    have c1 : ((j : Int) + 1) = ((j + 1 : Nat) : Int) := by omega
    rw [c1, cut_from, ← List.map_drop]
    walk_at "v"
    obtain ⟨H2, e2⟩ : ∃ H2, H2 = upd H1 p1 (.lst ((ws.drop (j + 1)).map V.str)) := ⟨_, rfl⟩
    have h2 : H2 p1 = some (.lst ((ws.drop (j + 1)).map V.str)) := by rw [e2]; exact upd_same
    have s2 : Same H1 H2 := by rw [e2]; exact (Same.refl _).new hp1
    rw [← e2]
    clear e2
    have wt : WsOk (ws.drop (j + 1)) := ⟨by rw [List.length_drop]; omega, fun x hx => wsh x (List.mem_of_mem_drop hx), fun x hx => wne x (List.mem_of_mem_drop hx)⟩
    refine ⟨p1, N, ws.drop (j + 1), pg, rfl, h2, wt, s2 _ _ (s1 _ _ hN), po, fun en H3 s3 => ?_, fun ts ets t H3 nt s3 => ?_⟩
    · have s13 := (s1.trans s2).trans s3
      walk_at "v"
      refine ⟨W, _, rfl, SqL.of ((s2.trans s3) _ _ hW), fun p2 hp2 => ?_⟩
      walk_at "v"
      refine iteT ?_
      refine iteT ?_
      walk_at "v"
      refine k0' ?_ _ (s13.new hp2)
      rw [en]
      cases kdP pg (ws.take j) <;> rfl
    have s13 := (s1.trans s2).trans s3
    have hW3 := (s2.trans s3) _ _ hW
    walk_at "v"
    refine ⟨W, _, rfl, SqL.of hW3, fun p2 hp2 => ?_⟩
    rw [cut_mid1, ← List.map_take, ← List.map_drop]
    walk_at "v"
    refine iteF ?_
    walk_at "v"
    obtain ⟨H4, e4⟩ : ∃ H4, H4 = upd H3 p2 (.lst (((ws.take j).drop 1).map V.str)) := ⟨_, rfl⟩
    have h4 : H4 p2 = some (.lst (((ws.take j).drop 1).map V.str)) := by rw [e4]; exact upd_same
    have s34 : Same H3 H4 := by rw [e4]; exact (Same.refl _).new hp2
    rw [← e4]
    clear e4
    have s14 := s13.trans s34
    have hW4 := s34 _ _ hW3
    have nt4 : New H2 H4 (whenD ts) (.ref t) := nt.same s34
    by_cases ej0 : j = 0
    · subst ej0
      refine iteT ?_
      walk_at "v"
      exact k0' rfl _ s14
    rw [decide_eq_false (by intro h; injection h with h; omega)]
    refine iteF ?_
    obtain ⟨w0, ws', ew⟩ : ∃ w0 ws', ws = w0 :: ws' := by
      cases e : ws with
      | nil => rw [e] at lj; simp at lj
      | cons x r =>
            exact ⟨x, r, rfl⟩
    obtain ⟨j', rfl⟩ : ∃ j', j = j' + 1 := ⟨j - 1, by omega⟩
    have tk : ws.take (j' + 1) = w0 :: ws'.take j' := by rw [ew]; rfl
    have rs : (ws.take (j' + 1)).drop 1 = ws'.take j' := by rw [tk]; rfl
    rw [rs] at h4
    rw [tk] at k0' k1'
    have hm : ∀ x ∈ ws'.take j', x ∈ ws := fun x hx => by rw [ew]; exact List.mem_cons_of_mem _ (List.mem_of_mem_take hx)
    have wr : WsOk (ws'.take j') := ⟨by rw [List.length_take]; rw [ew] at lw; simp at lw; omega, fun x hx => wsh x (hm x hx), fun x hx => wne x (hm x hx)⟩
    have hW4' : H4 W = some (.lst (.str w0 :: ws'.map V.str)) := by rw [ew] at hW4; exact hW4
    clear hW4 hW3 rs tk
    obtain ⟨rest, erest⟩ : ∃ r, r = ws'.take j' := ⟨_, rfl⟩
    rw [← erest] at h4 k0' k1' wr
    clear hm
    walk_at "v"
    refine i_ixL hW4' (atI_nat (j := 0) rfl) ?_
    walk_at "v"
    rw [dec_strE]
    refine ifd (fun ed => ?_) (fun ed => ?_)
    · subst ed
      walk_at "v"
      refine ⟨p2, N, rest, pg, rfl, h4, wr, s14 _ _ hN, po, fun en H5 s5 => ?_, fun r w v ek D H5 nd s5 => ?_⟩
      · walk_at "v"
        refine iteT ?_
        walk_at "v"
        exact k0' (by rw [en]) _ (s14.trans s5)
      · walk_at "v"
        refine iteF ?_
        obtain ⟨xd, hD, dd, _⟩ := list_at (nd [] trk_nil)
        have ndi := nd.items hD
        obtain ⟨x0, y0, rfl, z0, dd⟩ := DtAll.cons_iff.mp dd
        obtain ⟨x1, y1, rfl, z1, dd⟩ := DtAll.cons_iff.mp dd
        obtain ⟨x2, y2, rfl, z2, dd⟩ := DtAll.cons_iff.mp dd
        obtain rfl := DtAll.nil_iff.mp dd
        walk_at "v"
        refine ⟨show 5 ≤ sizeLine by decide, fun q hq => ?_⟩
        have s15 := s14.trans s5
        refine k1' _ _ ek ets (.tuple [.str ("do" : Str), lstS r, lstS w, lstS v, whenD ts]) _ _ ?_ (fun S tS => ?_) (s15.new hq)
        · show un (.tuple [.str ("do" : Str), lstS r, lstS w, lstS v, whenD ts]) = un (.tuple [.str ("do" : Str), lotT r, lotT w, lotT v, whenD ts])
          simp only [un, unAll, lstS, lotT]
        · have t4 := tS.same s14
          have t2 := tS.same (s1.trans s2)
          have k6 : Keep S H5 (upd H5 q (.tup [.str ("do" : Str), x0, x1, x2, .ref t])) := (Keep.refl _ _).new hq
          refine dt_tup upd_same (DtAll.cons dt_s (DtAll.cons (Dt.keep k6 _ _ ?_) (DtAll.cons (Dt.keep k6 _ _ ?_) (DtAll.cons (Dt.keep k6 _ _ ?_) (DtAll.cons (Dt.keep k6 _ _ ?_) DtAll.nil))))) (tS.nm ((Keep.of_same (S := []) s15).free hq))
          · exact New.of_items ndi (i := 0) rfl rfl S t4
          · exact New.of_items ndi (i := 1) rfl rfl S t4
          · exact New.of_items ndi (i := 2) rfl rfl S t4
          · exact (nt4.same s5) S t2
    walk_at "v"
    refine i_ixL hW4' (atI_nat (j := 0) rfl) ?_
    walk_at "v"
    rw [dec_strE]
    refine ifd (fun eo => ?_) (fun eo => ?_)
    · subst eo
      have K0 : ¬ (Kd.out (rest)).Ok pg → ∀ H', Same H H' → Q .non H' := fun n => k0' (by rw [kdP_outN n])
      have K1 : (Kd.out (rest)).Ok pg → ∀ d v H', un d = un (stepD ⟨.out (rest), ts⟩) → New H H' d v → Same H H' → Q v H' := fun ok => k1' _ _ (kdP_out ok) ets
      walk_at "v"
      refine ⟨_, .inl ⟨_, SqL.of h4, rfl⟩, ?_⟩
      by_cases er : rest = []
      · rw [er]
        refine iteF ?_
        refine iteF ?_
        walk_at "v"
        exact K0 (fun ok => ok.2 er) _ s14
      rw [show (!List.isEmpty (rest.map V.str)) = true by rw [ne_map er]; rfl]
      refine iteT ?_
      walk_at "v"
      have dp2 : Dt [] H4 (lstS (rest)) (.ref p2) := dt_strs h4
      refine ⟨[], lstS (rest), .ref p2, N, _, pg, rfl, dp2, fun z' hz => ?_, by show (rest.map PyData.str).length < 64; rw [List.length_map]; have := wr.few; omega, s14 _ _ hN, .inl rfl, fun en H5 s5 => ?_, fun xs ex ys q5 H5 pm so hq5 h5 s5 => ?_⟩
      · obtain ⟨y, hy, rfl⟩ := List.mem_map.mp (show z' ∈ rest.map PyData.str from hz)
        exact Nat.le_trans (wr.short y hy) (by decide)
      · walk_at "v"
        refine i_eqP (dt_n (S := [])) (dp2.same s5) (.inl (by decide)) ?_
        walk_at "v"
        refine iteF ?_
        walk_at "v"
        exact K0 (fun ok => lot_none po.nm (un_lst _) en ok.1) _ (s14.trans s5)
      · have le := lot_eq po.nm (un_lst _) ex pm so
        walk_at "v"
        refine i_eqP (dt_strs h5) (dp2.same s5) (.inr (by show PyData.depth (.list (rest.map .str)) ≤ 60; simp [PyData.depth, depth_strs])) ?_
        rw [show PyData.eqv (.list (ys.map .str)) (lstS (rest)) = decide (ys = rest) from eqv_strs ys _]
        walk_at "v"
        refine ifd (fun eq => ?_) (fun ne => ?_)
        · walk_at "v"
          refine ⟨show 3 ≤ sizeLine by decide, fun q hq => ?_⟩
          have s15 := s14.trans s5
          refine K1 ⟨le.mp eq, er⟩ (.tuple [.str ("out" : Str), lstS (rest), whenD ts]) _ _ ?_ (fun S tS => ?_) (s15.new hq)
          · show un (.tuple [.str ("out" : Str), lstS (rest), whenD ts]) = un (.tuple [.str ("out" : Str), lotT (rest), whenD ts])
            simp only [un, unAll, lstS, lotT]
          · have t2 := tS.same (s1.trans s2)
            have k6 : Keep S H5 (upd H5 q (.tup [.str ("out" : Str), .ref p2, .ref t])) := (Keep.refl _ _).new hq
            refine dt_tup upd_same (DtAll.cons dt_s (DtAll.cons (Dt.keep k6 _ _ ?_) (DtAll.cons (Dt.keep k6 _ _ ?_) DtAll.nil))) (tS.nm ((Keep.of_same (S := []) s15).free hq))
            · exact dt_list (s5 _ _ h4) (DtAll.strs _) (tS.nm ((Keep.of_same (S := []) s13).free hp2))
            · exact (nt4.same s5) S t2
        · walk_at "v"
          exact K0 (fun ok => ne (le.mpr ok.1)) _ (s14.trans s5)
    walk_at "v"
    refine i_ixL hW4' (atI_nat (j := 0) rfl) ?_
    walk_at "v"
    refine ⟨show 3 ≤ sizeLine by decide, fun t3 ht3 => ?_⟩
    refine ⟨t3, (([("force" : Str), "mark", "cut"] : List Str).map V.str), rfl, .inr (SqT.of upd_same), rfl, by decide, ?_⟩
    rw [if_neg Bool.false_ne_true, inV_strs]
    obtain ⟨H5, e5⟩ : ∃ H5, H5 = upd H4 t3 (.tup [.str ("force" : Str), .str ("mark" : Str), .str ("cut" : Str)]) := ⟨_, rfl⟩
    have s45 : Same H4 H5 := by rw [e5]; exact (Same.refl _).new ht3
    rw [← e5]
    clear e5
    have s15 := s14.trans s45
    refine ⟨_, rfl, ?_⟩
    refine ifd (fun ea => ?_) (fun ea => ?_)
    · walk_at "v"
      refine ⟨_, .inl ⟨_, SqL.of (s45 _ _ h4), rfl⟩, ?_⟩
      by_cases er : rest = []
      · rw [er]
        refine iteT ?_
        walk_at "v"
        refine i_ixL (s45 _ _ hW4') (atI_nat (j := 0) rfl) ?_
        walk_at "v"
        refine ⟨show 2 ≤ sizeLine by decide, fun q hq => ?_⟩
        have ok : (Kd.alone w0).Ok pg := by simpa [Kd.Ok] using ea
        refine k1' _ _ (kdP_alone ed eo ⟨er, ok⟩) ets (.tuple [.str w0, whenD ts]) _ _ rfl (fun S tS => ?_) (s15.new hq)
        have t2 := tS.same (s1.trans s2)
        have k6 : Keep S H5 (upd H5 q (.tup [.str w0, .ref t])) := (Keep.refl _ _).new hq
        exact dt_tup upd_same (DtAll.cons dt_s (DtAll.cons (Dt.keep k6 _ _ ((nt4.same s45) S t2)) DtAll.nil)) (tS.nm ((Keep.of_same (S := []) s15).free hq))
      · rw [show (!(!List.isEmpty (rest.map V.str))) = false by rw [ne_map er]; rfl]
        refine iteF ?_
        walk_at "v"
        exact k0' (by rw [kdP_aloneN ed eo (fun c => er c.1)]) _ s15
    · refine iteF ?_
      walk_at "v"
      exact k0' (by rw [kdP_aloneN ed eo (fun c => ea (by simpa [Kd.Ok] using c.2))]) _ s15
end Lr
set_option Elab.async false
set_option linter.all false
set_option maxRecDepth 100000
set_option maxHeartbeats 4000000
/-! R4: texts of rules: the first line that can't stand; what a right text tells. -/
namespace Lr
open PySem PySem.Spec PyProof.Rows L2 TL
abbrev sPG : Str := "pages"
open Classical in
noncomputable def pagesP : List Str → Option (List Str)
  | [] => none
  | x :: pg => if x = sPG ∧ PgOk pg then some pg else none
open Classical in
theorem pagesP_cons (x : Str) (pg : List Str) : pagesP (x :: pg) = if x = sPG ∧ PgOk pg then some pg else none := rfl
theorem pagesP_some {ws pg : List Str} (h : pagesP ws = some pg) : ws = sPG :: pg ∧ PgOk pg := by
  cases ws with
  | nil => cases h
  | cons x r =>
    rw [pagesP_cons] at h
    split at h
    · rename_i c; cases h; exact ⟨by rw [c.1], c.2⟩
    · cases h
theorem pagesP_of {pg : List Str} (h : PgOk pg) : pagesP (sPG :: pg) = some pg := by rw [pagesP_cons, if_pos ⟨rfl, h⟩]
theorem pagesP_no {x : Str} {pg : List Str} (h : ¬ (x = sPG ∧ PgOk pg)) : pagesP (x :: pg) = none := by rw [pagesP_cons, if_neg h]
open Classical in
noncomputable def faultS (pg : List Str) : List Str → Nat → Option Nat
  | [], _ => none
  | x :: r, i => if i = 8 ∨ stepP pg (words x) = none then some i else faultS pg r (i + 1)
open Classical in
noncomputable def faultL (l : Str) : List Str → Option Nat
  | [] => if l = ("" : Str) then some 0 else some 1
  | x :: r => match pagesP (words x) with
    | none => some 1
    | some pg => match faultS pg r 0 with
      | some i => some (i + 2)
      | none => if l = ("" : Str) then (if r = [] then some 0 else none) else some (r.length + 2)
noncomputable def faultR (z : Str) : Option Nat := faultL ((lines z).getLastD "") (lines z).dropLast
theorem faultR_of {z l : Str} {ls : List Str} (e : lines z = ls ++ [l]) : faultR z = faultL l ls := by
  unfold faultR; rw [e]; simp
theorem faultS_at {pg : List Str} : ∀ {ls : List Str} {k i : Nat} {x : Str}, (∀ m y, m < i → ls[m]? = some y → ¬ (k + m = 8 ∨ stepP pg (words y) = none)) → ls[i]? = some x → (k + i = 8 ∨ stepP pg (words x) = none) → faultS pg ls k = some (k + i)
  | [], _, _, _, _, h,
        _ => by simp at h
  | y :: r, k, 0, x, _, h, c => by
    simp at h; subst h
    rw [Nat.add_zero] at c ⊢
    unfold faultS; rw [if_pos c]
  | y :: r, k, i + 1, x, n, h, c => by
    have n0 := n 0 y (by omega) rfl
    rw [Nat.add_zero] at n0
    unfold faultS
    rw [if_neg n0, faultS_at (k := k + 1) (i := i) (x := x) (fun m z hm hz => by
      have := n (m + 1) z (by omega) (by simpa using hz)
      rw [show k + 1 + m = k + (m + 1) by omega]; exact this) (by simpa using h) (by rw [show k + 1 + i = k + (i + 1) by omega]; exact c)]
    congr 1; omega
theorem faultS_none {pg : List Str} : ∀ {ls : List Str} {k : Nat}, (∀ m y, ls[m]? = some y → ¬ (k + m = 8 ∨ stepP pg (words y) = none)) → faultS pg ls k = none
  | [], _, _ => rfl
  | y :: r, k, n => by
    unfold faultS
    have n0 := n 0 y rfl
    rw [Nat.add_zero] at n0
    rw [if_neg n0, faultS_none (k := k + 1) (fun m z hz => by
      have := n (m + 1) z (by simpa using hz)
      rw [show k + 1 + m = k + (m + 1) by omega]; exact this)]
theorem faultS_no {pg : List Str} : ∀ {ls : List Str} {k : Nat}, faultS pg ls k = none → ∀ m y, ls[m]? = some y → ¬ (k + m = 8 ∨ stepP pg (words y) = none)
  | [], _, _, m, y, h => by simp at h
  | x :: r, k, e, 0, y, h => by
    simp at h; subst h
    unfold faultS at e
    split at e
    · cases e
    · assumption
  | x :: r, k, e, m + 1, y, h => by
    unfold faultS at e
    split at e
    · cases e
    · have := faultS_no e m y (by simpa using h)
      rw [show k + 1 + m = k + (m + 1) by omega] at this; exact this
/-! ### rules -/
structure RG where
  pages : List Str
  steps : List Sd
structure RG.Ok (R : RG) : Prop where
  pg : PgOk R.pages
  st : ∀ s ∈ R.steps, s.Ok R.pages
  pos : 1 ≤ R.steps.length
  most : R.steps.length ≤ 8
def lineW (ws : List Str) : Str := Txt.join SPC ws
def linesR (R : RG) : List Str := lineW (sPG :: R.pages) :: R.steps.map fun s => lineW (stepW s)
def textR (R : RG) : Str := Txt.join ("" : Str) ((linesR R).map fun l => l ++ NLN)
end Lr
set_option Elab.async false
set_option linter.all false
set_option maxRecDepth 100000
set_option maxHeartbeats 4000000
namespace Lr
open PySem PySem.Spec PyProof.Rows L2 TL
local macro_rules | `(tactic| walk_at "ne") => `(tactic| (first | assumption | (refine ne_sym ?_; assumption) | (exact ne_of_none (by assumption) (by assumption)) | (exact ne_sym (ne_of_none (by assumption) (by assumption)))))
local macro_rules | `(tactic| walk_at "h") => `(tactic| (first | assumption | exact upd_same | (refine h_new ?_ (by assumption); walk_at "h") | (refine h_ne (by walk_at "ne") ?_; walk_at "h")))
local macro_rules | `(tactic| walk_at "v1") => `(tactic| (with_reducible first
  | refine i_seq ?_ | refine i_asg ?_ | refine i_ret ?_ | refine i_next ?_ | refine i_drop ?_ | refine i_ifS ?_ | refine i_if ?_ | refine i_and ?_ | refine i_or ?_ | refine i_not ?_ | refine i_test ?_ | refine i_tB ?_ | refine i_bl ?_ | refine i_yes ?_
  | refine i_op ?_ | refine i_un ?_ | refine i_chain ?_ | refine i_andV ?_ | refine i_orV ?_ | refine i_notV ?_ | refine i_cb ?_ | refine i_cons ?_ | refine i_nil ?_ | refine i_bm ?_ | refine i_bm0 ?_ | refine i_c ?_ | refine i_name ?_ | refine i_sub ?_
  | refine i_call ?_ | refine i_lst ?_ | refine i_tup ?_ | refine i_par ?_ | refine i_par2 ?_ | refine i_sl ?_ | refine i_np ?_ | refine i_pt ?_ | refine i_int ?_ | refine i_m0 ?_ | refine i_m1 ?_ | refine i_isS ?_
  | refine i_rI0 ?_ | refine i_inSign ?_ | refine i_notInSign ?_ | refine i_int1 ?_ | refine i_tru ?_ | refine i_isN ?_ | refine i_notN ?_ | refine iteT ?_ | refine iteF ?_ | refine i_brk ?_ | refine i_rt ?_ | refine i_nx ?_ | refine i_bk ?_ | refine i_ct ?_ | refine i_for ?_ | refine i_lc ?_ | refine i_dc ?_ | refine i_iL ?_ | refine i_iT ?_ | refine i_iR1 ?_ | refine i_iR2 ?_ | refine i_iS ?_ | refine i_iE ?_ | refine i_iEK ?_ | refine i_iEQ ?_ | refine i_iZS ?_ | refine i_dget ?_ | refine i_fld ?_ | refine i_sfld ?_ | refine i_dput ?_ | refine i_meth ?_ | refine i_rU ?_ | refine i_cont ?_ | refine i_make ?_))
local macro_rules | `(tactic| walk_at "v2") => `(tactic| (first
  | ((with_reducible refine' i_var ?k1 ?_); (case k1 => exact rfl))
  | ((with_reducible refine' i_eq ?k1 ?_); (case k1 => exact rfl))
  | ((with_reducible refine' i_ne ?k1 ?_); (case k1 => exact rfl))
  | ((with_reducible refine' i_ixL ?k1 ?k2 ?_); (case k1 => walk_at "h"); (case k2 => exact rfl))
  | ((with_reducible refine' i_ixT ?k1 ?k2 ?_); (case k1 => walk_at "h"); (case k2 => exact rfl))
  | ((with_reducible refine' i_lenL ?k1 ?_); (case k1 => walk_at "h"))
  | ((with_reducible refine' i_lenT ?k1 ?_); (case k1 => walk_at "h"))
  | (refine i_wipe (show wipe _ _ = wipe _ _ from rfl) ?_)
  | ((with_reducible refine' i_setL ?k1 ?k2 ?_); (case k1 => walk_at "h"); (case k2 => exact rfl))
  | ((with_reducible refine' i_tyl ?k1 ?_); (case k1 => walk_at "h"))))
local macro_rules | `(tactic| walk_at "v") => `(tactic| repeat (first | walk_at "v1" | walk_at "v2"))

variable {P : Program} {w : World} {K :
      PySem.W.Frag} {mg : Str → Option Value} {base : Heap}
abbrev spages_in : Stmt := top 30
abbrev Npages_in : List Str := ["line", "words", "names"]
abbrev Ppages_in : List Str := ["line"]
theorem scpages_in : FnScope Npages_in Ppages_in (defScope spages_in) := ⟨rfl, rfl, rfl, by decide +kernel, rfl, by decide +kernel, by decide +kernel⟩
abbrev srule_fault : Stmt := top 31
abbrev Nrule_fault : List Str := ["text", "lines", "whole", "names", "index", "line"]
abbrev Prule_fault : List Str := ["text"]
theorem scrule_fault : FnScope Nrule_fault Prule_fault (defScope srule_fault) := ⟨rfl, rfl, rfl, by decide +kernel, rfl, by decide +kernel, by decide +kernel⟩
abbrev FdPagesIn (K : PySem.W.Frag) (mg : Str → Option Value) := Fd K mg "pages_in" spages_in Ppages_in
abbrev FdStepIn (K : PySem.W.Frag) (mg : Str → Option Value) := Fd K mg "step_in" sstep_in Pstep_in
abbrev FdLinesIn (K : PySem.W.Frag) (mg : Str → Option Value) := Fd K mg "lines_in" slines_in Plines_in
def spPagesIn : Sp := fun vs H Q _ => ∃ (z : Str), vs = [.str z] ∧ z.length ≤ 10000 ∧ (words z).length ≤ 64 ∧
  (pagesP (words z) = none → ∀ H', Same H H' → Q .non H') ∧ (∀ pg, pagesP (words z) = some pg → ∀ q H', H q = none → H' q = some (.lst (pg.map V.str)) → Same H H' → Q (.ref q) H')
theorem ok_pagesin (d : FdPagesIn K mg) (dwords_in : FdWordsIn K mg) (dnames_of : FdNamesOf K mg) (dis_name : FdIsName K mg) (B : Blt2 K mg) : FnOk P w K mg base CX0 3 d.f d.fd Ppages_in spPagesIn := by
  have Gwords_in : FnOk P w K mg base CX0 1 dwords_in.f dwords_in.fd Pwords_in spWordsIn := ok_wordsin dwords_in B.toBlt
  have Gnames_of : FnOk P w K mg base CX0 2 dnames_of.f dnames_of.fd Pnames_of spNamesOf := ok_namesof dnames_of dis_name B.toBlt
  refine d.F.ok scpages_in (fun vs H Q E h => ?_) (fun cdv A outer s H vs Q E hr h => ?_)
  · obtain ⟨z, rfl, _⟩ := h
    rfl
  · obtain ⟨z, rfl, lz, lw, k0, k1⟩ := h
    refine ⟨_, (pss_cons (ps_set (i := 1) scpages_in.nd rfl (by first | exact Or.inl rfl | exact Or.inr rfl) (pe_call Gwords_in (hr.mono (by decide)) (by rfl) dwords_in.g dwords_in.F.kp dwords_in.b .nil pass0 (pa_cons (pv 0) pa_nil)))
      (pss_cons (ps_if (PW.pt (pw_or (pt_cmpR o_isN (pv 1) pe_non (nomark _)) (pw_or (pt_cmpR op_ne (pe_ix (x_list K) (pv 1) pe_int (fun _ _ => rfl)) pe_str (nomark _)) (pw_or1 (pt_not (pt_chain op_le op_le pe_int (pe_callB (c_len K) (by rfl) B.len (by decide +kernel) (pa_cons (pv 1) pa_nil)) pe_int)))))) (pss_one (ps_ret pe_non)) pss_nil)
      (pss_cons (ps_set (i := 2) scpages_in.nd rfl (by first | exact Or.inl rfl | exact Or.inr rfl) (pe_call Gnames_of (hr.mono (by decide)) (by rfl) dnames_of.g dnames_of.F.kp dnames_of.b .nil pass0 (pa_cons (pe_slice (s_list K) (pv 1) (po_some pe_int) po_none) pa_nil)))
      (pss_one (ps_ret (pe_ifExp (pt_cmpR (o_eqP K hr.units) (pv 2) (pe_slice (s_list K) (pv 1) (po_some pe_int) po_none) (nomark _)) (pv 2) pe_non)))))), ?_⟩
    walk_at "v"
    obtain ⟨ws, ews⟩ : ∃ ws, ws = words z := ⟨_, rfl⟩
    refine ⟨z, rfl, Nat.le_trans lz (by decide), fun he H1 s1 => ?_, fun hne W H1 hW s1 => ?_⟩
    · walk_at "v"
      refine iteT ?_
      refine iteT ?_
      walk_at "v"
      refine k0 ?_ _ s1
      cases e : pagesP (words z) with
      | none => rfl
      | some pg =>
        obtain ⟨e1, e2⟩ := pagesP_some e
        rw [e1] at he
        rcases List.mem_cons.mp he with q | q
        · exact absurd q (by decide)
        · exact absurd rfl (name_nemp (e2.name _ q))
    rw [← ews] at lw hne hW k0 k1
    have wsh : ∀ x ∈ ws, x.length ≤ 10000 := fun x hx => Nat.le_trans (len_sum_split tl_spc (by decide) x (by rw [ews] at hx; exact hx)) lz
    obtain ⟨w0, r, ew⟩ : ∃ w0 r, ws = w0 :: r := by
      cases e : ws with
      | nil => exact absurd (ews ▸ e) (split_ne tl_spc (by decide))
      | cons x r =>
            exact ⟨x, r, rfl⟩
    subst ew
    walk_at "v"
    refine iteF ?_
    walk_at "v"
    refine i_ixL hW (atI_nat (j := 0) rfl) ?_
    walk_at "v"
    rw [dec_strE]
    refine ifn (fun ne => ?_) (fun eq => ?_)
    · refine iteT ?_
      walk_at "v"
      exact k0 (pagesP_no fun c => ne c.1) _ s1
    subst eq
    walk_at "v"
    have lr : (((sPG :: r).map V.str).length : Int) = (r.length : Int) + 1 := by simp
    rw [lr]
    have notlen : ¬ (1 ≤ r.length ∧ r.length ≤ 3) → ∀ H', Same H H' → Q .non H' := fun n => k0 (pagesP_no fun c => n ⟨c.2.pos, c.2.most⟩)
    refine ifd (fun c1 => ?_) (fun c1 => ?_)
    rotate_left
    · walk_at "v"
      refine iteT ?_
      walk_at "v"
      exact notlen (by omega) _ s1
    walk_at "v"
    refine ifn (fun c2 => ?_) (fun c2 => ?_)
    · walk_at "v"
      exact notlen (by omega) _ s1
    have c3 : 1 ≤ r.length ∧ r.length ≤ 3 := by omega
    walk_at "v"
    refine ⟨W, .str sPG :: r.map V.str, rfl, SqL.of hW, fun p1 hp1 => ?_⟩
    rw [cut_drop1']
    obtain ⟨H2, e2⟩ : ∃ H2, H2 = upd H1 p1 (.lst (r.map V.str)) := ⟨_, rfl⟩
    have h2 : H2 p1 = some (.lst (r.map V.str)) := by rw [e2]; exact upd_same
    have s12 : Same H1 H2 := by rw [e2]; exact (Same.refl _).new hp1
    rw [← e2]
    clear e2
    have s2 := s1.trans s12
    have hW2 : H2 W = some (.lst (.str sPG :: r.map V.str)) := s12 _ _ hW
    have shr : ∀ x ∈ r, x.length ≤ 10000 := fun x hx => wsh x (by simp [hx])
    walk_at "v"
    refine ⟨[], lstS r, .ref p1, rfl, dt_strs h2, fun z' hz => ?_, by show (r.map PyData.str).length < 64; rw [List.length_map]; omega, fun en H3 s3 => ?_, fun xs ex ys q H3 pm so hq hq3 s3 => ?_⟩
    · obtain ⟨y, hy, rfl⟩ := List.mem_map.mp (show z' ∈ r.map PyData.str from hz)
      exact Nat.le_trans (shr y hy) (by decide)
    · walk_at "v"
      refine ⟨W, .str sPG :: r.map V.str, rfl, SqL.of (s3 _ _ hW2), fun p3 hp3 => ?_⟩
      rw [cut_drop1']
      refine i_eqP (dt_n (S := [])) (dt_strs upd_same) (.inl (by decide)) ?_
      walk_at "v"
      refine iteF ?_
      walk_at "v"
      refine k0 (pagesP_no fun c => ?_) _ ((s2.trans s3).new hp3)
      obtain ⟨_, _, h⟩ := strs_row (un_lst r)
      have := h (List.all_eq_true.mpr fun x hx => c.2.name x hx) c.2.nd
      rw [show namesD (.list (r.map .str)) = none from en] at this
      cases this
    · obtain ⟨rfl, nd, nm⟩ := namesD_some (un_lst r) ex
      walk_at "v"
      refine ⟨W, .str sPG :: xs.map V.str, rfl, SqL.of (s3 _ _ hW2), fun p3 hp3 => ?_⟩
      rw [cut_drop1']
      refine i_eqP (dt_strs (h_new hq3 hp3)) (dt_strs upd_same) (.inl (by show PyData.depth (.list (ys.map .str)) ≤ 60; simp [PyData.depth, depth_strs])) ?_
      rw [show PyData.eqv (.list (ys.map .str)) (.list (xs.map .str)) = decide (ys = xs) from eqv_strs ys xs]
      walk_at "v"
      refine ifd (fun e => ?_) (fun e => ?_)
      · walk_at "v"
        subst e
        exact k1 ys (pagesP_of ⟨so, nd, nm, c3.1, c3.2⟩) q _ ((Keep.of_same (S := []) s2).free hq) (h_new hq3 hp3) ((s2.trans s3).new hp3)
      · walk_at "v"
        refine k0 (pagesP_no fun c => e ?_) _ ((s2.trans s3).new hp3)
        exact sorted_perm so (sortedS_pw c.2.sorted) pm
def spRuleFault : Sp := fun vs H Q _ => ∃ (S : List Addr) (d : PyData) (v : V), vs = [v] ∧ Dt S H d v ∧
  (∀ z, d = .str z → z.length ≤ 10000 ∧ (∀ x ∈ lines z, (words x).length ≤ 64) ∧ ∀ H', Same H H' → Q (numV (faultR z)) H') ∧ (isK "str" d = false → ∀ H', Same H H' → Q (.int 0) H')
theorem ok_rulefault (d : Fd K mg "rule_fault" srule_fault Prule_fault) (dlines_in : FdLinesIn K mg) (dpages_in : FdPagesIn K mg) (dstep_in : FdStepIn K mg) (dwords_in : FdWordsIn K mg) (dwhen_in : FdWhenIn K mg) (dlots_in : FdLotsIn K mg) (dparted : FdParted K mg) (dtriple_in : FdTripIn K mg) (dtriple_words : FdTripW K mg) (dlot_among : FdLotAmong K mg) (dnames_of : FdNamesOf K mg) (dis_name : FdIsName K mg) (B : Blt2 K mg) : FnOk P w K mg base CX0 7 d.f d.fd Prule_fault spRuleFault := by
  have Glines_in : FnOk P w K mg base CX0 1 dlines_in.f dlines_in.fd Plines_in spLinesIn := ok_linesin dlines_in B.toBlt
  have Gpages_in : FnOk P w K mg base CX0 3 dpages_in.f dpages_in.fd Ppages_in spPagesIn := ok_pagesin dpages_in dwords_in dnames_of dis_name B
  have Gstep_in : FnOk P w K mg base CX0 6 dstep_in.f dstep_in.fd Pstep_in spStepIn := ok_stepin dstep_in dwords_in dwhen_in dlots_in dparted dtriple_in dtriple_words dlot_among dnames_of dis_name B
  refine d.F.ok scrule_fault (fun vs H Q E h => ?_) (fun cdv A outer s H vs Q E hr h => ?_)
  · obtain ⟨S, d, v, rfl, _⟩ := h
    rfl
  · obtain ⟨S, d, v, rfl, hd, ks, k0⟩ := h
    refine ⟨_, (pss_cons (ps_if (pt_not (pt_val (pe_callB (c_isi K) (by rfl) B.isinstance (by decide +kernel) (pa_cons (pv 0) (pa_cons (e_ty "str" B.str (by decide +kernel)) pa_nil))))) (pss_one (ps_ret pe_int)) pss_nil)
      (pss_cons (ps_asg (pe_call Glines_in (hr.mono (by decide)) (by rfl) dlines_in.g dlines_in.F.kp dlines_in.b .nil pass0 (pa_cons (pv 0) pa_nil)) (g_tup K (n := 2) rfl (pgs_cons (pg_name (i := 1) scrule_fault.nd rfl (by first | exact Or.inl rfl | exact Or.inr rfl)) (pgs_cons (pg_name (i := 2) scrule_fault.nd rfl (by first | exact Or.inl rfl | exact Or.inr rfl)) pgs_nil))))
      (pss_cons (ps_if (t_truth K (pv 1)) (pss_cons (ps_set (i := 3) scrule_fault.nd rfl (by first | exact Or.inl rfl | exact Or.inr rfl) (pe_call Gpages_in (hr.mono (by decide)) (by rfl) dpages_in.g dpages_in.F.kp dpages_in.b .nil pass0 (pa_cons (pe_ix (x_list K) (pv 1) pe_int (fun _ _ => rfl)) pa_nil)))
      (pss_cons (ps_if (pt_cmpR o_isN (pv 3) pe_non (nomark _)) (pss_one (ps_ret pe_int)) pss_nil)
      (pss_one (ps_for PassesOwn.never rfl (w_enumQ K (by rfl) B.enumerate (pa_cons (pe_slice (s_list K) (pv 1) (po_some pe_int) po_none) pa_nil)) (g_tup K (n := 2) rfl (pgs_cons (pg_name (i := 4) scrule_fault.nd rfl (by first | exact Or.inl rfl | exact Or.inr rfl)) (pgs_cons (pg_name (i := 5) scrule_fault.nd rfl (by first | exact Or.inl rfl | exact Or.inr rfl)) pgs_nil)))
      (pss_one (ps_if (PW.pt (pw_or (pt_cmpR op_eq (pv 4) pe_int (nomark _)) (pw_or1 (pt_cmpR o_isN (pe_call Gstep_in (hr.mono (by decide)) (by rfl) dstep_in.g dstep_in.F.kp dstep_in.b .nil pass0 (pa_cons (pv 5) (pa_cons (pv 3) pa_nil))) pe_non (nomark _))))) (pss_one (ps_ret (pe_op op_add (pv 4) pe_int))) pss_nil)))))) pss_nil)
      (pss_cons (ps_if (pt_not (pt_val (pv 2))) (pss_one (ps_ret (pe_op op_add (pe_callB (c_len K) (by rfl) B.len (by decide +kernel) (pa_cons (pv 1) pa_nil)) pe_int))) pss_nil)
      (pss_one (ps_ret (pe_ifExp (pt_cmpR op_lt (pe_callB (c_len K) (by rfl) B.len (by decide +kernel) (pa_cons (pv 1) pa_nil)) pe_int (nomark _)) pe_int pe_non))))))), ?_⟩
    walk_at "v"
    refine i_isi hd (by simp) ?_
    walk_at "v"
    cases hst : isK "str" d with
    | false =>
      refine iteT ?_
      walk_at "v"
      exact k0 hst _ (Same.refl _)
    | true =>
      refine iteF ?_
      obtain ⟨z, rfl⟩ : ∃ z, d = .str z := by cases d <;> simp [isK, ptype] at hst ⊢
      have ev : v = .str z := by unfold Dt at hd; exact hd
      subst ev
      obtain ⟨hz, hw, k⟩ := ks z rfl
      walk_at "v"
      refine ⟨z, rfl, Nat.le_trans hz (by decide), fun ls l t q1 H1 el ht hq s1 => ?_⟩
      rw [faultR_of el] at k
      rw [el] at hw
      walk_at "v"
      refine g_two ht ?_
      walk_at "v"
      have lsz : ∀ x ∈ ls, x.length ≤ 10000 := fun x hx => Nat.le_trans (len_sum_split tl_nln (by decide) x (by show x ∈ lines z; rw [el]; simp [hx])) hz
      refine ⟨_, .inl ⟨_, SqL.of hq, rfl⟩, ?_⟩
      cases ls with
      | nil =>
        refine iteF ?_
        walk_at "v"
        refine ifn (fun e => ?_) (fun e => ?_)
        · walk_at "v"
          have := k H1 s1
          rw [show faultL l [] = some 1 from if_neg e] at this
          exact this
        · walk_at "v"
          have := k H1 s1
          rw [show faultL l [] = some 0 from if_pos e] at this
          refine iteT ?_
          walk_at "v"
          exact this
      | cons x r =>
        refine iteT ?_
        have kL : faultL l (x :: r) = match pagesP (words x) with
          | none => some 1
          | some pg => match faultS pg r 0 with
            | some i => some (i + 2)
            | none => if l = ("" : Str) then (if r = [] then some 0 else none) else some (r.length + 2) := rfl
        rw [kL] at k
        have hq0 : H1 q1 = some (.lst (.str x :: r.map V.str)) := hq
        walk_at "v"
        refine i_ixL hq0 (atI_nat (j := 0) rfl) ?_
        walk_at "v"
        refine ⟨x, rfl, lsz x (by simp), hw x (by simp), fun en H2 s2 => ?_, fun pg ep N H2 _ hN s2 => ?_⟩
        · walk_at "v"
          refine iteT ?_
          walk_at "v"
          have := k H2 (s1.trans s2)
          rw [en] at this
          exact this
        rw [ep] at k
        change ∀ H', Same H H' → Q (numV (match faultS pg r 0 with
            | some i => some (i + 2)
            | none => if l = ("" : Str) then (if r = [] then some 0 else none) else some (r.length + 2))) H' at k
        have po := (pagesP_some ep).2
        have hq2 := s2 _ _ hq0
        walk_at "v"
        refine iteF ?_
        walk_at "v"
        refine ⟨q1, .str x :: r.map V.str, rfl, SqL.of hq2, fun p1 hp1 => ?_⟩
        rw [cut_drop1']
        obtain ⟨H3, e3⟩ : ∃ H3, H3 = upd H2 p1 (.lst (r.map V.str)) := ⟨_, rfl⟩
        have hp3 : H3 p1 = some (.lst (r.map V.str)) := by rw [e3]; exact upd_same
        have s23 : Same H2 H3 := by rw [e3]; exact (Same.refl _).new hp1
        rw [← e3]
        clear e3
        have s3 := (s1.trans s2).trans s23
        walk_at "v"
        refine ⟨p1, r.map V.str, _, rfl, .inl rfl, hp3, fun J wk => ?_⟩
        refine for_by wk ⟨fun i σ H' => (∃ v4 v5 : Option V, σ = [some (.str z), some (.ref q1), some (.bl (decide (l = ("" : Str)))), some (.ref N), v4, v5]) ∧ Same H3 H' ∧ ∀ j y, j < i → r[j]? = some y → ¬ (0 + j = 8 ∨ stepP pg (words y) = none), ?_, fun i σ H' _ ⟨_, s, _⟩ => s _ _ hp3, ?_, ?_⟩
        · exact ⟨⟨_, _, rfl⟩, Same.refl _, fun j y h => absurd h (Nat.not_lt_zero _)⟩
        · rintro i u σ H4 H5 hi ⟨⟨v4, v5, rfl⟩, s4, ih⟩ ⟨T, y0, y, rfl, hT, rfl, e0, hy⟩
          obtain rfl : y0 = .int ((0 : Int) + (i : Nat)) := (Option.some.inj e0).symm
          have hy' : (r.map V.str)[i]? = some y := hy
          rw [List.getElem?_map] at hy'
          obtain ⟨y, hyi, rfl⟩ := Option.map_eq_some_iff.mp hy'
          have my := List.mem_of_getElem? hyi
          have e0i : (0 : Int) + (i : Nat) = (i : Nat) := by omega
          rw [e0i]
          refine g_two upd_same ?_
          have s5 : Same H3 (upd H4 T (.tup [.int (i : Nat), .str y])) := s4.new hT
          obtain ⟨H6, e6⟩ : ∃ H6, H6 = upd H4 T (.tup [.int (i : Nat), .str y]) := ⟨_, rfl⟩
          rw [← e6] at s5 ⊢
          clear e6
          have bad : (0 + i = 8 ∨ stepP pg (words y) = none) → ∀ H', Same H H' → Q (.int ((i : Int) + 2)) H' := fun c H' s' => by
            have := k H' s'
            rw [faultS_at (k := 0) (i := i) ih hyi c] at this
            rw [show (0 + i) = i by omega] at this
            have e2 : numV (some (i + 2)) = .int ((i : Int) + 2) := by show V.int ((i + 2 : Nat) : Int) = _; rw [Int.natCast_add]; rfl
            rw [show (match some i with | some i => some (i + 2) | none => if l = ("" : Str) then (if r = [] then some 0 else none) else some (r.length + 2)) = some (i + 2) from rfl, e2] at this
            exact this
          walk_at "v"
          refine ifd (fun c => ?_) (fun c => ?_)
          · refine iteT ?_
            walk_at "v"
            exact bad (.inl (by injection c with c; omega)) _ (s3.trans s5)
          have n8 : ¬ 0 + i = 8 := fun h => c (by rw [show (i : Int) = 8 by omega])
          walk_at "v"
          refine ⟨y, N, pg, rfl, lsz y (by simp [my]), hw y (by simp [my]), s5 _ _ (s23 _ _ hN), po, fun en H7 s7 => ?_, fun sd es dd v H7 ud nv s7 => ?_⟩
          · walk_at "v"
            refine iteT ?_
            walk_at "v"
            exact bad (.inr en) _ ((s3.trans s5).trans s7)
          · have hv : v ≠ .non := fun e => by
              subst e
              have z := nv [] trk_nil
              have : ∃ es, un (stepD sd) = .list es := by unfold stepD; split <;> exact ⟨_, rfl⟩
              obtain ⟨es', e'⟩ := this
              rw [e'] at ud
              obtain ⟨h1, _⟩ := un_isRow ud
              obtain ⟨_, _, _, _, e, _⟩ := z.row h1
              cases e
            walk_at "v"
            rw [decide_eq_false hv]
            refine iteF ?_
            walk_at "v"
            refine ⟨⟨_, _, rfl⟩, s5.trans s7, fun j y' hj hy2 => ?_⟩
            rcases Nat.lt_or_ge
                  j i with h | h
            · exact ih j y' h hy2
            · obtain rfl : j = i := by omega
              rw [hyi] at hy2; cases hy2
              rintro (h8 | h8)
              · exact n8 h8
              · rw [es] at h8; cases h8
        · rintro σ H4 ⟨⟨v4, v5, rfl⟩, s4, ih⟩
          rw [List.length_map] at ih
          have fn : faultS pg r 0 = none := faultS_none fun m y hm => ih m y (List.getElem?_eq_some_iff.mp hm).1 hm
          rw [fn] at k
          have kk : ∀ H', Same H H' → Q (numV (if l = ("" : Str) then (if r = [] then some 0 else none) else some (r.length + 2))) H' := k
          have s14 := s3.trans s4
          have hq4 := s4 _ _ (s23 _ _ hq2)
          walk_at "v"
          refine ifn (fun e => ?_) (fun e => ?_)
          · walk_at "v"
            have := kk H4 s14
            rw [if_neg e] at this
            have e2 : numV (some (r.length + 2)) = .int ((((.str x :: r.map V.str : List V).length : Nat) : Int) + 1) := by show V.int ((r.length + 2 : Nat) : Int) = _; simp; omega
            rw [e2] at this
            exact this
          · walk_at "v"
            have := kk H4 s14
            rw [if_pos e] at this
            refine ifd (fun c => ?_) (fun c => ?_)
            · walk_at "v"
              have er : r = [] := by
                cases r with
                | nil => rfl
                | cons a b => simp at c; omega
              rw [if_pos er] at this
              exact this
            · walk_at "v"
              have er : r ≠ [] := by
                rintro rfl
                exact c (by simp)
              rw [if_neg er] at this
              exact this
end Lr
set_option Elab.async false
set_option linter.all false
set_option maxRecDepth 100000
set_option maxHeartbeats 4000000
namespace Lr
open PySem PySem.Spec PyProof.Rows L2 TL
local macro_rules | `(tactic| walk_at "ne") => `(tactic| (first | assumption | (refine ne_sym ?_; assumption) | (exact ne_of_none (by assumption) (by assumption)) | (exact ne_sym (ne_of_none (by assumption) (by assumption)))))
local macro_rules | `(tactic| walk_at "h") => `(tactic| (first | assumption | exact upd_same | (refine h_new ?_ (by assumption); walk_at "h") | (refine h_ne (by walk_at "ne") ?_; walk_at "h")))
local macro_rules | `(tactic| walk_at "v1") => `(tactic| (with_reducible first
  | refine i_seq ?_ | refine i_asg ?_ | refine i_ret ?_ | refine i_next ?_ | refine i_drop ?_ | refine i_ifS ?_ | refine i_if ?_ | refine i_and ?_ | refine i_or ?_ | refine i_not ?_ | refine i_test ?_ | refine i_tB ?_ | refine i_bl ?_ | refine i_yes ?_
  | refine i_op ?_ | refine i_un ?_ | refine i_chain ?_ | refine i_andV ?_ | refine i_orV ?_ | refine i_notV ?_ | refine i_cb ?_ | refine i_cons ?_ | refine i_nil ?_ | refine i_bm ?_ | refine i_bm0 ?_ | refine i_c ?_ | refine i_name ?_ | refine i_sub ?_
  | refine i_call ?_ | refine i_lst ?_ | refine i_tup ?_ | refine i_par ?_ | refine i_par2 ?_ | refine i_sl ?_ | refine i_np ?_ | refine i_pt ?_ | refine i_int ?_ | refine i_m0 ?_ | refine i_m1 ?_ | refine i_isS ?_
  | refine i_rI0 ?_ | refine i_inSign ?_ | refine i_notInSign ?_ | refine i_int1 ?_ | refine i_tru ?_ | refine i_isN ?_ | refine i_notN ?_ | refine iteT ?_ | refine iteF ?_ | refine i_brk ?_ | refine i_rt ?_ | refine i_nx ?_ | refine i_bk ?_ | refine i_ct ?_ | refine i_for ?_ | refine i_lc ?_ | refine i_dc ?_ | refine i_iL ?_ | refine i_iT ?_ | refine i_iR1 ?_ | refine i_iR2 ?_ | refine i_iS ?_ | refine i_iE ?_ | refine i_iEK ?_ | refine i_iEQ ?_ | refine i_iZS ?_ | refine i_dget ?_ | refine i_fld ?_ | refine i_sfld ?_ | refine i_dput ?_ | refine i_meth ?_ | refine i_rU ?_ | refine i_cont ?_ | refine i_make ?_))
local macro_rules | `(tactic| walk_at "v2") => `(tactic| (first
  | ((with_reducible refine' i_var ?k1 ?_); (case k1 => exact rfl))
  | ((with_reducible refine' i_eq ?k1 ?_); (case k1 => exact rfl))
  | ((with_reducible refine' i_ne ?k1 ?_); (case k1 => exact rfl))
  | ((with_reducible refine' i_ixL ?k1 ?k2 ?_); (case k1 => walk_at "h"); (case k2 => exact rfl))
  | ((with_reducible refine' i_ixT ?k1 ?k2 ?_); (case k1 => walk_at "h"); (case k2 => exact rfl))
  | ((with_reducible refine' i_lenL ?k1 ?_); (case k1 => walk_at "h"))
  | ((with_reducible refine' i_lenT ?k1 ?_); (case k1 => walk_at "h"))
  | (refine i_wipe (show wipe _ _ = wipe _ _ from rfl) ?_)
  | ((with_reducible refine' i_setL ?k1 ?k2 ?_); (case k1 => walk_at "h"); (case k2 => exact rfl))
  | ((with_reducible refine' i_tyl ?k1 ?_); (case k1 => walk_at "h"))))
local macro_rules | `(tactic| walk_at "v") => `(tactic| repeat (first | walk_at "v1" | walk_at "v2"))

variable {P : Program} {w : World} {K :
      PySem.W.Frag} {mg : Str → Option Value} {base : Heap}
abbrev swhen_of : Stmt := top 16
abbrev Nwhen_of : List Str := ["thing", "names", "found", "triple", "lots", "lot"]
abbrev Pwhen_of : List Str := ["thing", "names"]
theorem scwhen_of : FnScope Nwhen_of Pwhen_of (defScope swhen_of) := ⟨rfl, rfl, rfl, by decide +kernel, rfl, by decide +kernel, by decide +kernel⟩
theorem unAll_get' {α : Type} {f : α → PyData} : ∀ {ds : List PyData} {l : List α}, unAll ds = l.map f → ∀ {i : Nat} {d : PyData}, ds[i]? = some d → ∃ x, l[i]? = some x ∧ un d = f x
  | [], _, _, i, d, h => by simp at h
  | d :: ds, [], h, _, _, _ => by simp [unAll] at h
  | d :: ds, x :: l, h, 0, e, g => by simp [unAll] at h; simp at g; subst g; exact ⟨x, rfl, h.1⟩
  | d :: ds, x :: l, h, i + 1, e, g => by
    simp [unAll] at h
    obtain ⟨y, h1, h2⟩ := unAll_get' (f := f) h.2 (i := i) (d := e) (by simpa using g)
    exact ⟨y, by simpa using h1, h2⟩
def spWhenOf : Sp := fun vs H Q _ => ∃ (S : List Addr) (d : PyData) (v : V) (N : Addr) (pg : List Str) (us ts : List Tri), vs = [v, .ref N] ∧ Dt S H d v ∧ un d = un (whenD us) ∧ TrisPerm us ts ∧ (∀ t ∈ ts, t.Ok pg) ∧ ts.length ≤ 100 ∧ H N = some (.lst (pg.map V.str)) ∧ PgOk pg ∧
  ∀ q H', New H H' (whenD ts) (.ref q) → Same H H' → Q (.ref q) H'
theorem ok_whenof (d : Fd K mg "when_of" swhen_of Pwhen_of) (dlot_among : FdLotAmong K mg) (dnames_of : FdNamesOf K mg) (dis_name : FdIsName K mg) (B : Blt2 K mg) : FnOk P w K mg base CX0 4 d.f d.fd Pwhen_of spWhenOf := by
  have Glot_among : FnOk P w K mg base CX0 3 dlot_among.f dlot_among.fd Plot_among spLotAmong := ok_lotamong dlot_among dnames_of dis_name B.toBlt
  refine d.F.ok scwhen_of (fun vs H Q E h => ?_) (fun cdv A outer s H vs Q E hr h => ?_)
  · obtain ⟨S, d, v, N, pg, us, ts, rfl, _⟩ := h
    rfl
  · obtain ⟨S, d, v, N, pg, us, ts, rfl, hd, ud, tp, okt, lts, hN, po, k⟩ := h
    refine ⟨_, (pss_cons (ps_if (pt_not (pt_val (pe_callB (c_isiT K) (by rfl) B.isinstance (by decide +kernel) (pa_cons (pv 0) (pa_cons (pe_tup (pa_cons (e_ty "list" B.list (by decide +kernel)) (pa_cons (e_ty "tuple" B.tuple (by decide +kernel)) pa_nil))) pa_nil))))) (pss_one (ps_ret pe_non)) pss_nil)
      (pss_cons (ps_set (i := 2) scwhen_of.nd rfl (by first | exact Or.inl rfl | exact Or.inr rfl) (pe_lst pa_nil))
      (pss_cons (ps_for PassesOwn.never rfl (w_seq K (pv 0)) (pg_name (i := 3) scwhen_of.nd rfl (by first | exact Or.inl rfl | exact Or.inr rfl))
      (pss_cons (ps_if (PW.pt (pw_or (pt_not (pt_val (pe_callB (c_isiT K) (by rfl) B.isinstance (by decide +kernel) (pa_cons (pv 3) (pa_cons (pe_tup (pa_cons (e_ty "list" B.list (by decide +kernel)) (pa_cons (e_ty "tuple" B.tuple (by decide +kernel)) pa_nil))) pa_nil))))) (pw_or1 (pt_cmpR op_ne (pe_callB (c_len K) (by rfl) B.len (by decide +kernel) (pa_cons (pv 3) pa_nil)) pe_int (nomark _))))) (pss_one (ps_ret pe_non)) pss_nil)
      (pss_cons (ps_setLc (i := 4) (own := [("lot", 5)]) (g := gName 5) (tt := tYes) rfl scwhen_of.nd rfl rfl (sw_true rfl rfl rfl (by decide +kernel)) (w_seq K (pv 3)) (blkOk_by (own := [("lot", 5)]) (N := Nwhen_of) (sc := defScope swhen_of) (by decide +kernel)) (fun _ _ _ _ _ => by exact (pg_name (i := 5) scwhen_of.nd rfl (by first | exact Or.inl rfl | exact Or.inr rfl))) (fun _ _ _ _ _ => pts_nil) (fun _ _ _ _ _ => by exact (pe_call Glot_among (hr.mono (by decide)) (by rfl) dlot_among.g dlot_among.F.kp dlot_among.b .nil pass0 (pa_cons (pv 5) (pa_cons (pv 1) pa_nil)))))
      (pss_cons (ps_if (pt_cmpR (o_inP K hr.units) pe_non (pv 4) (by rfl)) (pss_one (ps_ret pe_non)) pss_nil)
      (pss_one (ps_expr (e_bm K PySem.F.plainAttrs_list PySem.F.slot_list_append PySem.F.type_list_append mt_append (pv 2) (pa_cons (pe_tup (pa_cons (pe_callTy (c_tuple K) (by rfl) B.tuple (by decide +kernel) (pa_cons (pe_ix (x_list K) (pv 4) pe_int (fun _ _ => rfl)) pa_nil)) (pa_cons (pe_callTy (c_tuple K) (by rfl) B.tuple (by decide +kernel) (pa_cons (pe_ix (x_list K) (pv 4) pe_int (fun _ _ => rfl)) pa_nil)) (pa_cons (pe_callTy (c_tuple K) (by rfl) B.tuple (by decide +kernel) (pa_cons (pe_ix (x_list K) (pv 4) pe_int (fun _ _ => rfl)) pa_nil)) pa_nil)))) pa_nil))))))))
      (pss_one (ps_ret (pe_callTy (c_tuple K) (by rfl) B.tuple (by decide +kernel) (pa_cons (pv 2) pa_nil))))))), ?_⟩
    rw [un_when] at ud
    obtain ⟨isr, uk⟩ := un_isRow ud
    obtain ⟨p, o, xs, ho, rfl, hp, np, da⟩ := hd.row isr
    walk_at "v"
    refine ⟨show 2 ≤ sizeLine by decide, fun tt htt => ?_⟩
    have s1 : Same H (upd H tt (.tup [.ty "list", .ty "tuple"])) := (Same.refl H).new htt
    walk_at "v"
    refine i_isLT (hd.same s1) upd_same ?_
    rw [isr]
    walk_at "v"
    refine iteF ?_
    walk_at "v"
    obtain ⟨H1, e1⟩ : ∃ H1, H1 = upd H tt (.tup [.ty "list", .ty "tuple"]) := ⟨_, rfl⟩
    rw [← e1] at s1 ⊢
    clear e1
    refine ⟨show 0 ≤ sizeLine by decide, fun f hf => ?_⟩
    walk_at "v"
    refine w_sqv rfl (xs := xs) ho (h_new (s1 _ _ hp) hf) fun J wj => ?_
    have lxs : xs.length = us.length := by rw [da.length, ← unAll_len, uk, List.length_map]
    have lut := tp.len
    refine for_by wj ⟨fun i σ H' => (∃ v3 v4 v5 : Option V, σ = [some (.ref p), some (.ref N), some (.ref f), v3, v4, v5]) ∧ Acc [] H1 H' f ((ts.take i).map triD), ?_, fun i σ H' _ ⟨_, ac⟩ => ac.kp.same _ _ (s1 _ _ hp), ?_, ?_⟩
    · exact ⟨⟨_, _, _, rfl⟩, Acc.start (Keep.refl _ _) hf⟩
    · rintro i x σ H3 H2 hi ⟨⟨v3, v4, v5, rfl⟩, ac⟩ ⟨rfl, hx⟩
      obtain ⟨dx, gx, zx⟩ := da.get' hx
      obtain ⟨u, gu, uu⟩ := unAll_get' uk gx
      obtain ⟨t, gt, pt⟩ := tp.get gu
      have ot := okt t (List.mem_of_getElem? gt)
      have s2 := s1.trans ac.kp.same
      rw [un_tri] at uu
      obtain ⟨isr3, uk3⟩ := un_isRow uu
      have zx2 := zx.same s2
      obtain ⟨p3, o3, xs3, ho3, rfl, hp3, np3, da3⟩ := zx2.row isr3
      have l3 : xs3.length = 3 := by rw [da3.length, ← unAll_len, uk3]; rfl
      walk_at "v"
      refine ⟨show 2 ≤ sizeLine by decide, fun tt2 htt2 => ?_⟩
      have s3 : Same H2 (upd H2 tt2 (.tup [.ty "list", .ty "tuple"])) := (Same.refl H2).new htt2
      walk_at "v"
      refine i_isLT (zx2.same s3) upd_same ?_
      rw [isr3]
      walk_at "v"
      refine iteF ?_
      walk_at "v"
      obtain ⟨H3, e3⟩ : ∃ H3, H3 = upd H2 tt2 (.tup [.ty "list", .ty "tuple"]) := ⟨_, rfl⟩
      rw [← e3] at s3 ⊢
      clear e3
      refine i_lenO ho3 (s3 _ _ hp3) ?_
      rw [l3]
      walk_at "v"
      refine iteF ?_
      walk_at "v"
      refine w_sqv rfl (xs := xs3) ho3 (s3 _ _ hp3) fun J3 wj3 => ?_
      rw [l3] at wj3
      have s23 := s2.trans s3
      refine lc_by wj3 fun D hD => ⟨fun j H' => Acc [] H3 H' D (([t.c, t.f, t.s].take j).map lstS), Acc.start (Keep.refl _ _) hD, fun j H' _ ac3 => ac3.kp.same _ _ (s3 _ _ hp3), ?_, ?_⟩
      · rintro j y H5 H4 hj ac3 ⟨rfl, hy⟩
        obtain ⟨dy, gy, zy⟩ := da3.get' hy
        obtain ⟨l, m, hm, ul, pl, sl⟩ : ∃ (l m : List Str), [t.c, t.f, t.s][j]? = some m ∧ un dy = .list (l.map .str) ∧ l.Perm m ∧ m.Sublist pg := by
          have hk : kids dx = [(kids dx)[0]?.getD .none, (kids dx)[1]?.getD .none, (kids dx)[2]?.getD .none] := by
            match e : kids dx with
            | [] => rw [e] at uk3; simp [unAll] at uk3
            | [_] => rw [e] at uk3; simp [unAll] at uk3
            | [_, _] => rw [e] at uk3; simp [unAll] at uk3
            | [_, _, _] => rfl
            | _ :: _ :: _ :: _ :: _ => rw [e] at uk3; simp [unAll] at uk3
          rw [hk] at uk3 gy
          simp only [unAll, List.cons.injEq, and_true] at uk3
          obtain ⟨u1, u2, u3⟩ := uk3
          match j, hj with
          | 0, _ => cases gy; exact ⟨u.c, t.c, rfl, u1, pt.c, ot.c⟩
          | 1, _ => cases gy; exact ⟨u.f, t.f, rfl, u2, pt.f, ot.f⟩
          | 2, _ => cases gy; exact ⟨u.s, t.s, rfl, u3, pt.s, ot.s⟩
        obtain ⟨ex, uq⟩ := lot_perm po.nm ul pl sl
        have zy4 := (zy.same s3).same ac3.kp.same
        obtain ⟨_, kk, _⟩ := strs_row ul
        have llen : l.length ≤ 3 := by rw [pl.length_eq]; exact Nat.le_trans sl.length_le po.most
        walk_at "v"
        refine ⟨S, dy, y, N, _, pg, rfl, zy4, fun z hz => ?_, by rw [kk, List.length_map]; omega, (s23.trans ac3.kp.same) _ _ hN, .inl rfl, fun en => ?_, fun xs' ex' ys q H5 pm so hq h5 s5 => ?_⟩
        · rw [kk] at hz
          obtain ⟨w', hw, rfl⟩ := List.mem_map.mp hz
          have := (nameB_len (po.name w' (sl.subset (pl.subset hw)))).2
          show w'.length ≤ 1000000
          omega
        · rw [ex] at en; cases en
        · rw [ex] at ex'; cases ex'
          obtain rfl := uq ys pm so
          obtain ⟨acc, ea, la, _⟩ := id ac3.ex
          obtain ⟨e5, ac5⟩ := ac3.step trk_nil ea (NewM.freshS hq h5) (Keep.of_same s5)
          refine ⟨acc, e5, ?_, ?_⟩
          · rw [la, List.length_map, List.length_take]; exact small1000 (by simp; omega)
          · show Acc [] H3 _ D (([t.c, t.f, t.s].take (j + 1)).map lstS)
            rw [List.take_succ, hm, List.map_append]; exact ac5
      rintro H4 ac3
      obtain ⟨acc, ea, la, _⟩ := id ac3.ex
      have nd := ac3.done.toN
      have ndi := nd.items ea
      have dl := nd [] trk_nil
      walk_at "v"
      refine ⟨.none, _, Dt.dp _ _ (dt_n (S := [])), .inl (Dt.dp _ _ dl), Dt.plain _ _ dl, rfl, by decide, ?_⟩
      refine ⟨_, rfl, ?_⟩
      refine iteF ?_
      obtain ⟨x1, y1, rfl, z1, da⟩ := DtAll.cons_iff.mp (ndi [] trk_nil)
      obtain ⟨x2, y2, rfl, z2, da⟩ := DtAll.cons_iff.mp da
      obtain ⟨x3, y3, rfl, z3, da⟩ := DtAll.cons_iff.mp da
      obtain rfl := DtAll.nil_iff.mp da
      obtain ⟨a1, rfl, h1, _⟩ := lst_at z1
      obtain ⟨a2, rfl, h2, _⟩ := lst_at z2
      obtain ⟨a3, rfl, h3, _⟩ := lst_at z3
      have s34 := ac3.kp.same
      have hf4 : ∃ fx, H4 f = some (.lst fx) ∧ fx.length = ((ts.take i).map triD).length := by
        obtain ⟨fx, e, l, _⟩ := ac.ex
        exact ⟨fx, s34 _ _ (s3 _ _ e), l⟩
      obtain ⟨fx, hf4, lfx⟩ := hf4
      walk_at "v"
      refine i_tupleL h1 (fun t1 ht1 => ?_)
      walk_at "v"
      refine i_tupleL (h_new h2 ht1) (fun t2 ht2 => ?_)
      walk_at "v"
      refine i_tupleL (h_new (h_new h3 ht1) ht2) (fun t3 ht3 => ?_)
      walk_at "v"
      refine ⟨show 3 ≤ sizeLine by decide, fun t4 ht4 => ?_⟩
      have q0 := s3.trans s34
      have q1 := q0.new (o := .tup (t.c.map V.str)) ht1
      have q2 := q1.new (o := .tup (t.f.map V.str)) ht2
      have q3 := q2.new (o := .tup (t.s.map V.str)) ht3
      have q4 := q3.new (o := .tup [.ref t1, .ref t2, .ref t3]) ht4
      have fr : ∀ {H' : Hp} {t : Addr}, Same H2 H' → H' t = none → H2 t = none := fun s h => (Keep.of_same (S := []) s).free h
      have nt : New H2 (upd (upd (upd (upd H4 t1 (.tup (t.c.map V.str))) t2 (.tup (t.f.map V.str))) t3 (.tup (t.s.map V.str))) t4 (.tup [.ref t1, .ref t2, .ref t3])) (triD t) (.ref t4) := fun S' tS => by
        refine dt_tup upd_same ?_ (tS.nm (fr q3 ht4))
        exact DtAll.cons (dt_tup (h_new (h_new (h_new upd_same ht2) ht3) ht4) (DtAll.strs _) (tS.nm (fr q0 ht1))) (DtAll.cons (dt_tup (h_new (h_new upd_same ht3) ht4) (DtAll.strs _) (tS.nm (fr q1 ht2))) (DtAll.cons (dt_tup (h_new upd_same ht4) (DtAll.strs _) (tS.nm (fr q2 ht3))) DtAll.nil))
      obtain ⟨fa, efa, lfa, _⟩ := id ac.ex
      obtain ⟨e5, ac5⟩ := ac.step trk_nil efa nt.toM (Keep.of_same q4)
      have li : i < ts.length := (List.getElem?_eq_some_iff.mp gt).1
      walk_at "v"
      refine i_app e5 (by rw [lfa, List.length_map, List.length_take]; exact small1000 (by omega)) ?_
      refine ⟨⟨_, _, _, rfl⟩, ?_⟩
      show Acc [] H1 _ f ((ts.take (i + 1)).map triD)
      rw [List.take_succ, gt, List.map_append]; exact ac5
    · rintro σ H2 ⟨⟨v3, v4, v5, rfl⟩, ac⟩
      rw [lxs, lut, List.take_length] at ac
      obtain ⟨acc, ea, la, _⟩ := id ac.ex
      have nd := ac.done.toN
      have ndi := nd.items ea
      have s2 := s1.trans ac.kp.same
      walk_at "v"
      refine i_tupleL ea (fun t ht => ?_)
      refine k t _ (fun S' tS => ?_) (s2.new ht)
      exact dt_tup upd_same (DtAll.keep ((Keep.refl _ _).new ht) _ _ (ndi S' (tS.same s1))) (tS.nm ((Keep.of_same (S := []) s2).free ht))
end Lr
set_option Elab.async false
set_option linter.all false
set_option maxRecDepth 100000
set_option maxHeartbeats 4000000
namespace Lr
open PySem PySem.Spec PyProof.Rows L2 TL
local macro_rules | `(tactic| walk_at "ne") => `(tactic| (first | assumption | (refine ne_sym ?_; assumption) | (exact ne_of_none (by assumption) (by assumption)) | (exact ne_sym (ne_of_none (by assumption) (by assumption)))))
local macro_rules | `(tactic| walk_at "h") => `(tactic| (first | assumption | exact upd_same | (refine h_new ?_ (by assumption); walk_at "h") | (refine h_ne (by walk_at "ne") ?_; walk_at "h")))
local macro_rules | `(tactic| walk_at "v1") => `(tactic| (with_reducible first
  | refine i_seq ?_ | refine i_asg ?_ | refine i_ret ?_ | refine i_next ?_ | refine i_drop ?_ | refine i_ifS ?_ | refine i_if ?_ | refine i_and ?_ | refine i_or ?_ | refine i_not ?_ | refine i_test ?_ | refine i_tB ?_ | refine i_bl ?_ | refine i_yes ?_
  | refine i_op ?_ | refine i_un ?_ | refine i_chain ?_ | refine i_andV ?_ | refine i_orV ?_ | refine i_notV ?_ | refine i_cb ?_ | refine i_cons ?_ | refine i_nil ?_ | refine i_bm ?_ | refine i_bm0 ?_ | refine i_c ?_ | refine i_name ?_ | refine i_sub ?_
  | refine i_call ?_ | refine i_lst ?_ | refine i_tup ?_ | refine i_par ?_ | refine i_par2 ?_ | refine i_sl ?_ | refine i_np ?_ | refine i_pt ?_ | refine i_int ?_ | refine i_m0 ?_ | refine i_m1 ?_ | refine i_isS ?_
  | refine i_rI0 ?_ | refine i_inSign ?_ | refine i_notInSign ?_ | refine i_int1 ?_ | refine i_tru ?_ | refine i_isN ?_ | refine i_notN ?_ | refine iteT ?_ | refine iteF ?_ | refine i_brk ?_ | refine i_rt ?_ | refine i_nx ?_ | refine i_bk ?_ | refine i_ct ?_ | refine i_for ?_ | refine i_lc ?_ | refine i_dc ?_ | refine i_iL ?_ | refine i_iT ?_ | refine i_iR1 ?_ | refine i_iR2 ?_ | refine i_iS ?_ | refine i_iE ?_ | refine i_iEK ?_ | refine i_iEQ ?_ | refine i_iZS ?_ | refine i_dget ?_ | refine i_fld ?_ | refine i_sfld ?_ | refine i_dput ?_ | refine i_meth ?_ | refine i_rU ?_ | refine i_cont ?_ | refine i_make ?_))
local macro_rules | `(tactic| walk_at "v2") => `(tactic| (first
  | ((with_reducible refine' i_var ?k1 ?_); (case k1 => exact rfl))
  | ((with_reducible refine' i_eq ?k1 ?_); (case k1 => exact rfl))
  | ((with_reducible refine' i_ne ?k1 ?_); (case k1 => exact rfl))
  | ((with_reducible refine' i_ixL ?k1 ?k2 ?_); (case k1 => walk_at "h"); (case k2 => exact rfl))
  | ((with_reducible refine' i_ixT ?k1 ?k2 ?_); (case k1 => walk_at "h"); (case k2 => exact rfl))
  | ((with_reducible refine' i_lenL ?k1 ?_); (case k1 => walk_at "h"))
  | ((with_reducible refine' i_lenT ?k1 ?_); (case k1 => walk_at "h"))
  | (refine i_wipe (show wipe _ _ = wipe _ _ from rfl) ?_)
  | ((with_reducible refine' i_setL ?k1 ?k2 ?_); (case k1 => walk_at "h"); (case k2 => exact rfl))
  | ((with_reducible refine' i_tyl ?k1 ?_); (case k1 => walk_at "h"))))
local macro_rules | `(tactic| walk_at "v") => `(tactic| repeat (first | walk_at "v1" | walk_at "v2"))

variable {P : Program} {w : World} {K :
      PySem.W.Frag} {mg : Str → Option Value} {base : Heap}
abbrev sstep_of : Stmt := top 17
abbrev Nstep_of : List Str := ["thing", "names", "when", "lots", "lot"]
abbrev Pstep_of : List Str := ["thing", "names"]
theorem scstep_of : FnScope Nstep_of Pstep_of (defScope sstep_of) := ⟨rfl, rfl, rfl, by decide +kernel, rfl, by decide +kernel, by decide +kernel⟩
abbrev FdWhenOf (K : PySem.W.Frag) (mg : Str → Option Value) := Fd K mg "when_of" swhen_of Pwhen_of
def Alone (K : PySem.W.Frag) (mg : Str → Option Value) : Prop := ∃ A : Addr, GV mg "ALONE" (.ref A) ∧ ∀ H, SqT K H A (([("force" : Str), "mark", "cut"] : List Str).map V.str)
theorem iseq_sl {K : PySem.W.Frag} {σ : L2.St} {R : It → Hp → Prop} {H : Hp} {p : Addr} {o : HO} {x y : V} {xs : List V} (hσ : σ[0]? = some (some (.ref p))) (ho : o = .lst (x :: (xs ++ [y])) ∨ o = .tup (x :: (xs ++ [y]))) (h : H p = some o)
    (q : ∀ p1 o1, H p1 = none → (o1 = .lst xs ∨ o1 = .tup xs) → ∀ J, Walk J xs.length (fun H => H p1 = some o1) (YAt xs) → R J (upd H p1 o1)) :
    iSeq K (tSl (rSlO K) (tVar 0) (tPart (tC (V.int 1))) (tPart (tUn (rU fun i => V.int (-i)) (tC (V.int 1))))) σ H R := by
  rcases ho with rfl | rfl
  · refine .inl ?_
    refine i_iL ?_
    walk_at "v"
    refine ⟨_, hσ, ?_⟩
    walk_at "v"
    refine .inl ⟨p, _, rfl, SqL.of h, fun p1 h1 => ?_⟩
    rw [cut_inner]
    exact ⟨p1, rfl, ⟨_, SqL.of upd_same⟩, q p1 _ h1 (.inl rfl) _ (walk_list.mono (fun _ z => SqL.of z) fun _ _ _ _ _ _ y => y)⟩
  · refine .inr ?_
    refine i_iT ?_
    walk_at "v"
    refine ⟨_, hσ, ?_⟩
    walk_at "v"
    refine .inr ⟨p, _, rfl, SqT.of h, fun z => ?_, fun p1 h1 => ?_⟩
    · have e0 : HT.sIx (xs.length + 2) 0 (some 1) = min 1 (xs.length + 2) := HT.sIx_nat _ _ 1
      have l : (x :: (xs ++ [y])).length = xs.length + 2 := by simp
      have := z.1
      rw [l, e0] at this
      omega
    rw [cut_inner]
    exact ⟨p1, rfl, ⟨_, SqT.of upd_same⟩, q p1 _ h1 (.inr rfl) _ (walk_tup.mono (fun _ z => SqT.of z) fun _ _ _ _ _ _ y => y)⟩
def spStepOf : Sp := fun vs H Q _ => ∃ (S : List Addr) (d : PyData) (v : V) (N : Addr) (pg : List Str) (u s : Sd), vs = [v, .ref N] ∧ Dt S H d v ∧ un d = un (stepD u) ∧ SdPerm u s ∧ s.Ok pg ∧ s.wh.length ≤ 100 ∧ H N = some (.lst (pg.map V.str)) ∧ PgOk pg ∧
  ∀ q H', New H H' (stepD s) (.ref q) → Same H H' → Q (.ref q) H'
theorem ok_stepof (d : Fd K mg "step_of" sstep_of Pstep_of) (dwhen_of : FdWhenOf K mg) (dlot_among : FdLotAmong K mg) (dnames_of : FdNamesOf K mg) (dis_name : FdIsName K mg) (AL : Alone K mg) (B : Blt2 K mg) : FnOk P w K mg base CX0 5 d.f d.fd Pstep_of spStepOf := by
  have Glot_among : FnOk P w K mg base CX0 3 dlot_among.f dlot_among.fd Plot_among spLotAmong := ok_lotamong dlot_among dnames_of dis_name B.toBlt
  have Gwhen_of : FnOk P w K mg base CX0 4 dwhen_of.f dwhen_of.fd Pwhen_of spWhenOf := ok_whenof dwhen_of dlot_among dnames_of dis_name B
  obtain ⟨AA, gALONE, sqA⟩ := AL
  refine d.F.ok scstep_of (fun vs H Q E h => ?_) (fun cdv A outer s H vs Q E hr h => ?_)
  · obtain ⟨S, d, v, N, pg, u, s, rfl, _⟩ := h
    rfl
  · obtain ⟨S, d, v, N, pg, u, sd, rfl, hd, ud, sp, ok, lw, hN, po, k⟩ := h
    refine ⟨_, (pss_cons (ps_if (PW.pt (pw_or (pt_not (pt_val (pe_callB (c_isiT K) (by rfl) B.isinstance (by decide +kernel) (pa_cons (pv 0) (pa_cons (pe_tup (pa_cons (e_ty "list" B.list (by decide +kernel)) (pa_cons (e_ty "tuple" B.tuple (by decide +kernel)) pa_nil))) pa_nil))))) (pw_or (pt_not (t_truth K (pv 0))) (pw_or1 (pt_not (pt_val (pe_callB (c_isi K) (by rfl) B.isinstance (by decide +kernel) (pa_cons (pe_ix (x_seq K) (pv 0) pe_int (fun _ _ => rfl)) (pa_cons (e_ty "str" B.str (by decide +kernel)) pa_nil))))))))) (pss_one (ps_ret pe_non)) pss_nil)
      (pss_cons (ps_set (i := 2) scstep_of.nd rfl (by first | exact Or.inl rfl | exact Or.inr rfl) (pe_call Gwhen_of (hr.mono (by decide)) (by rfl) dwhen_of.g dwhen_of.F.kp dwhen_of.b .nil pass0 (pa_cons (pe_ix (x_seq K) (pv 0) (pe_un un_neg pe_int) (fun _ _ => rfl)) (pa_cons (pv 1) pa_nil))))
      (pss_cons (ps_if (pt_cmpR o_isN (pv 2) pe_non (nomark _)) (pss_one (ps_ret pe_non)) pss_nil)
      (pss_cons (ps_if (PW.pt (pw_and (pt_cmpR (o_in K) (pe_ix (x_seq K) (pv 0) pe_int (fun _ _ => rfl)) (e_glob gALONE) (by rfl)) (pw_and1 (pt_cmpR op_eq (pe_callB (c_len K) (by rfl) B.len (by decide +kernel) (pa_cons (pv 0) pa_nil)) pe_int (nomark _))))) (pss_one (ps_ret (pe_tup (pa_cons (pe_ix (x_seq K) (pv 0) pe_int (fun _ _ => rfl)) (pa_cons (pv 2) pa_nil))))) pss_nil)
      (pss_cons (ps_setLc (i := 3) (own := [("lot", 4)]) (g := gName 4) (tt := tYes) rfl scstep_of.nd rfl rfl (sw_true rfl rfl rfl (by decide +kernel)) (w_seq K (pe_slice (s_seq K) (pv 0) (po_some pe_int) (po_some (pe_un un_neg pe_int)))) (blkOk_by (own := [("lot", 4)]) (N := Nstep_of) (sc := defScope sstep_of) (by decide +kernel)) (fun _ _ _ _ _ => by exact (pg_name (i := 4) scstep_of.nd rfl (by first | exact Or.inl rfl | exact Or.inr rfl))) (fun _ _ _ _ _ => pts_nil) (fun _ _ _ _ _ => by exact (pe_call Glot_among (hr.mono (by decide)) (by rfl) dlot_among.g dlot_among.F.kp dlot_among.b .nil pass0 (pa_cons (pv 4) (pa_cons (pv 1) pa_nil)))))
      (pss_cons (ps_if (pt_cmpR (o_inP K hr.units) pe_non (pv 3) (by rfl)) (pss_one (ps_ret pe_non)) pss_nil)
      (pss_cons (ps_if (PW.pt (pw_and (pt_cmpR op_eq (pe_ix (x_seq K) (pv 0) pe_int (fun _ _ => rfl)) pe_str (nomark _)) (pw_and (pt_cmpR op_eq (pe_callB (c_len K) (by rfl) B.len (by decide +kernel) (pa_cons (pv 3) pa_nil)) pe_int (nomark _)) (pw_and1 (t_truth K (pe_ix (x_list K) (pv 3) pe_int (fun _ _ => rfl))))))) (pss_one (ps_ret (pe_tup (pa_cons pe_str (pa_cons (pe_callTy (c_tuple K) (by rfl) B.tuple (by decide +kernel) (pa_cons (pe_ix (x_list K) (pv 3) pe_int (fun _ _ => rfl)) pa_nil)) (pa_cons (pv 2) pa_nil)))))) pss_nil)
      (pss_cons (ps_if (PW.pt (pw_and (pt_cmpR op_eq (pe_ix (x_seq K) (pv 0) pe_int (fun _ _ => rfl)) pe_str (nomark _)) (pw_and (pt_cmpR op_eq (pe_callB (c_len K) (by rfl) B.len (by decide +kernel) (pa_cons (pv 3) pa_nil)) pe_int (nomark _)) (pw_and (t_truth K (pe_ix (x_list K) (pv 3) pe_int (fun _ _ => rfl))) (pw_and1 (pt_cmpR o_notN (pe_call Glot_among (hr.mono (by decide)) (by rfl) dlot_among.g dlot_among.F.kp dlot_among.b .nil pass0 (pa_cons (pe_ix (x_list K) (pv 3) pe_int (fun _ _ => rfl)) (pa_cons (pe_ix (x_list K) (pv 3) pe_int (fun _ _ => rfl)) pa_nil))) pe_non (nomark _))))))) (pss_one (ps_ret (pe_tup (pa_cons pe_str (pa_cons (pe_callTy (c_tuple K) (by rfl) B.tuple (by decide +kernel) (pa_cons (pe_ix (x_list K) (pv 3) pe_int (fun _ _ => rfl)) pa_nil)) (pa_cons (pe_callTy (c_tuple K) (by rfl) B.tuple (by decide +kernel) (pa_cons (pe_ix (x_list K) (pv 3) pe_int (fun _ _ => rfl)) pa_nil)) (pa_cons (pe_callTy (c_tuple K) (by rfl) B.tuple (by decide +kernel) (pa_cons (pe_ix (x_list K) (pv 3) pe_int (fun _ _ => rfl)) pa_nil)) (pa_cons (pv 2) pa_nil)))))))) pss_nil)
      (pss_one (ps_ret pe_non)))))))))), ?_⟩
    rw [un_step] at ud
    obtain ⟨isr, uk⟩ := un_isRow ud
    obtain ⟨d0, dr, ek, u0, ur⟩ := unAll_cons uk
    obtain ⟨dm, dws, rfl, um, uw⟩ := unAll_app_inv ur
    obtain ⟨dw, dn, rfl, uw1, un1⟩ := unAll_cons uw
    obtain rfl := unAll_nil un1
    obtain rfl := un_str u0
    obtain ⟨p, o, xs, ho, rfl, hp, np, da⟩ := hd.row isr
    rw [ek] at da
    obtain ⟨x0, xr, rfl, z0, da⟩ := DtAll.cons_iff.mp da
    obtain ⟨ym, yw, rfl, dm1, da⟩ := DtAll.app_inv da
    obtain ⟨vw, yn, rfl, zw, da⟩ := DtAll.cons_iff.mp da
    obtain rfl := DtAll.nil_iff.mp da
    obtain rfl : x0 = .str (hdW u.k) := by unfold Dt at z0; exact z0
    rw [sp.k.hd] at ho
    walk_at "v"
    refine ⟨show 2 ≤ sizeLine by decide, fun tt htt => ?_⟩
    have s1 : Same H (upd H tt (.tup [.ty "list", .ty "tuple"])) := (Same.refl H).new htt
    walk_at "v"
    refine i_isLT (hd.same s1) upd_same ?_
    rw [isr]
    walk_at "v"
    refine iteF ?_
    walk_at "v"
    obtain ⟨H1, e1⟩ : ∃ H1, H1 = upd H tt (.tup [.ty "list", .ty "tuple"]) := ⟨_, rfl⟩
    rw [← e1] at s1 ⊢
    clear e1
    refine ⟨_, tru_O ho (s1 _ _ hp), ?_⟩
    refine iteF ?_
    walk_at "v"
    refine i_ixO ho (s1 _ _ hp) (atI_nat (j := 0) rfl) ?_
    walk_at "v"
    refine i_isi (d := .str (hdW sd.k)) (S := []) dt_s (by simp) ?_
    walk_at "v"
    refine iteF ?_
    walk_at "v"
    refine i_ixO ho (s1 _ _ hp) (by rw [← List.cons_append]; exact atI_last _ _) ?_
    walk_at "v"
    refine ⟨S, dw, vw, N, pg, u.wh, sd.wh, rfl, zw.same s1, uw1, sp.w, ok.w, lw, s1 _ _ hN, po, fun t H2 nt s2 => ?_⟩
    have s12 := s1.trans s2
    walk_at "v"
    refine iteF ?_
    walk_at "v"
    refine i_ixO ho (s12 _ _ hp) (atI_nat (j := 0) rfl) ?_
    walk_at "v"
    refine ⟨AA, _, rfl, .inr (sqA _), rfl, by decide, ?_⟩
    rw [if_neg Bool.false_ne_true, inV_strs]
    refine ⟨_, rfl, ?_⟩
    have lym : ym.length = (mids sd.k).length := by rw [dm1.length, ← sp.k.len, ← unAll_len, um, List.length_map]
    have kk : New H1 H2 (whenD sd.wh) (.ref t) := nt
    by_cases hal : ∃ x, sd.k = .alone x
    · obtain ⟨x, hk⟩ := hal
      have ox : x = ("force" : Str) ∨ x = ("mark" : Str) ∨ x = ("cut" : Str) := by have := ok.k; rw [hk] at this; exact this
      have hx : hdW sd.k = x := by rw [hk]; rfl
      have ey : ym = [] := by rw [hk] at lym; exact List.length_eq_zero_iff.mp lym
      subst ey
      rw [hx] at ho ⊢
      rw [decide_eq_true (show x ∈ [("force" : Str), "mark", "cut"] by simpa using ox)]
      refine iteT ?_
      walk_at "v"
      refine i_lenO ho (s12 _ _ hp) ?_
      walk_at "v"
      refine iteT ?_
      walk_at "v"
      refine i_ixO ho (s12 _ _ hp) (atI_nat (j := 0) rfl) ?_
      walk_at "v"
      refine ⟨show 2 ≤ sizeLine by decide, fun q hq => ?_⟩
      have es : stepD sd = .tuple [.str x, whenD sd.wh] := by unfold stepD; rw [hk]
      refine k q _ (fun S' tS => ?_) (s12.new hq)
      rw [es]
      exact dt_tup upd_same (DtAll.cons dt_s (DtAll.cons (Dt.keep ((Keep.refl _ _).new hq) _ _ (kk S' (tS.same s1))) DtAll.nil)) (tS.nm ((Keep.of_same (S := []) s12).free hq))
    have hnot : hdW sd.k ∉ [("force" : Str), "mark", "cut"] := by
      cases hk : sd.k with
      | alone x => exact absurd ⟨x, hk⟩ hal
      | do_ r w v => show ("do" : Str) ∉ _; decide
      | out l => show ("out" : Str) ∉ _; decide
    rw [decide_eq_false hnot]
    refine iteF ?_
    refine iteF ?_
    walk_at "v"
    refine iseq_sl rfl ho (s12 _ _ hp) fun p1 o1 hp1 ho1 J wj => ?_
    obtain ⟨H3, e3⟩ : ∃ H3, H3 = upd H2 p1 o1 := ⟨_, rfl⟩
    have h3 : H3 p1 = some o1 := by rw [e3]; exact upd_same
    have s23 : Same H2 H3 := by rw [e3]; exact (Same.refl _).new hp1
    rw [← e3]
    clear e3
    have s13 := s12.trans s23
    have m3 := mids_len sd.k
    refine lc_by wj fun D hD => ⟨fun j H' => Acc [] H3 H' D (((mids sd.k).take j).map lstS), Acc.start (Keep.refl _ _) hD, fun j H' _ ac => ac.kp.same _ _ h3, ?_, ?_⟩
    · rintro j y H5 H4 hj ac ⟨rfl, hy⟩
      obtain ⟨dy, gy, zy⟩ := dm1.get' hy
      obtain ⟨l, gl, ul⟩ := unAll_get' (f := fun l : List Str => PyData.list (l.map .str)) um gy
      obtain ⟨m, gm, pm⟩ := sp.k.mid gl
      have sm := ok.k.mid gm
      obtain ⟨ex, uq⟩ := lot_perm po.nm ul pm sm
      have s14 := s13.trans ac.kp.same
      obtain ⟨_, kk2, _⟩ := strs_row ul
      have llen : l.length ≤ 3 := by rw [pm.length_eq]; exact Nat.le_trans sm.length_le po.most
      walk_at "v"
      refine ⟨S, dy, y, N, _, pg, rfl, zy.same s14, fun z hz => ?_, by rw [kk2, List.length_map]; omega, s14 _ _ hN, .inl rfl, fun en => ?_, fun xs' ex' ys q H5 pm' so hq h5 s5 => ?_⟩
      · rw [kk2] at hz
        obtain ⟨w', hw, rfl⟩ := List.mem_map.mp hz
        have := (nameB_len (po.name w' (sm.subset (pm.subset hw)))).2
        show w'.length ≤ 1000000
        omega
      · rw [ex] at en; cases en
      · rw [ex] at ex'; cases ex'
        obtain rfl := uq ys pm' so
        obtain ⟨acc, ea, la, _⟩ := id ac.ex
        obtain ⟨e5, ac5⟩ := ac.step trk_nil ea (NewM.freshS hq h5) (Keep.of_same s5)
        refine ⟨acc, e5, ?_, ?_⟩
        · rw [la, List.length_map, List.length_take]; exact small1000 (by omega)
        · show Acc [] H3 _ D (((mids sd.k).take (j + 1)).map lstS)
          rw [List.take_succ, gm, List.map_append]; exact ac5
    rintro H4 ac
    rw [lym, List.take_length] at ac
    obtain ⟨acc, ea, la, _⟩ := id ac.ex
    have nd := ac.done.toN
    have ndi := nd.items ea
    have dl := nd [] trk_nil
    have s34 := ac.kp.same
    have s24 := s23.trans s34
    have s14 := s13.trans s34
    have nt4 : New H1 H4 (whenD sd.wh) (.ref t) := kk.same s24
    walk_at "v"
    refine ⟨.none, _, Dt.dp _ _ (dt_n (S := [])), .inl (Dt.dp _ _ dl), Dt.plain _ _ dl, rfl, by decide, ?_⟩
    have ean : ((((mids sd.k).map lstS)).any fun y => PyData.eqv y .none) = false := by
      rw [List.any_eq_false]
      intro y hy
      obtain ⟨l, _, rfl⟩ := List.mem_map.mp hy
      rw [show (lstS l).eqv PyData.none = false from rfl]; simp
    refine ⟨_, rfl, ?_⟩
    show if ((((mids sd.k).map lstS)).any fun y => PyData.eqv y .none) = true then _ else _
    rw [ean]
    refine iteF ?_
    have fr : ∀ {H' : Hp} {t : Addr}, Same H H' → H' t = none → H t = none := fun s h => (Keep.of_same (S := []) s).free h
    cases hk : sd.k with
    | alone x => exact absurd ⟨x, hk⟩ hal
    | out l =>
      have okl : l.Sublist pg ∧ l ≠ [] := by have := ok.k; rw [hk] at this; exact this
      have hx : hdW sd.k = ("out" : Str) := by rw [hk]; rfl
      rw [hx] at ho
      have ndl := ndi [] trk_nil
      rw [hk] at ndl
      obtain ⟨x1, y1, rfl, z1, da⟩ := DtAll.cons_iff.mp ndl
      obtain rfl := DtAll.nil_iff.mp da
      obtain ⟨a1, rfl, h1, _⟩ := lst_at z1
      walk_at "v"
      refine i_ixO ho (s14 _ _ hp) (atI_nat (j := 0) rfl) ?_
      walk_at "v"
      refine iteT ?_
      walk_at "v"
      refine iteT ?_
      walk_at "v"
      refine ⟨_, .inl ⟨_, SqL.of h1, rfl⟩, ?_⟩
      rw [show (!List.isEmpty (l.map V.str)) = true by rw [ne_map okl.2]; rfl]
      refine iteT ?_
      walk_at "v"
      refine i_tupleL h1 (fun t1 ht1 => ?_)
      walk_at "v"
      refine ⟨show 3 ≤ sizeLine by decide, fun q hq => ?_⟩
      have q1 := s14.new (o := .tup (l.map V.str)) ht1
      have es : stepD sd = .tuple [.str ("out" : Str), lotT l, whenD sd.wh] := by unfold stepD; rw [hk]
      refine k q _ (fun S' tS => ?_) (q1.new hq)
      rw [es]
      exact dt_tup upd_same (DtAll.cons dt_s (DtAll.cons (dt_tup (h_new upd_same hq) (DtAll.strs _) (tS.nm (fr s14 ht1))) (DtAll.cons (Dt.keep (((Keep.refl _ _).new ht1).new hq) _ _ (nt4 S' (tS.same s1))) DtAll.nil))) (tS.nm (fr q1 hq))
    | do_ r w v =>
      have okd : r.Sublist pg ∧ w.Sublist pg ∧ w ≠ [] ∧ v.Sublist w := by have := ok.k; rw [hk] at this; exact this
      have hx : hdW sd.k = ("do" : Str) := by rw [hk]; rfl
      rw [hx] at ho
      have ndl := ndi [] trk_nil
      rw [hk] at ndl
      obtain ⟨x1, y1, rfl, z1, da⟩ := DtAll.cons_iff.mp ndl
      obtain ⟨x2, y2, rfl, z2, da⟩ := DtAll.cons_iff.mp da
      obtain ⟨x3, y3, rfl, z3, da⟩ := DtAll.cons_iff.mp da
      obtain rfl := DtAll.nil_iff.mp da
      obtain ⟨a1, rfl, h1, _⟩ := lst_at z1
      obtain ⟨a2, rfl, h2, _⟩ := lst_at z2
      obtain ⟨a3, rfl, h3', _⟩ := lst_at z3
      walk_at "v"
      refine i_ixO ho (s14 _ _ hp) (atI_nat (j := 0) rfl) ?_
      walk_at "v"
      refine iteF ?_
      refine iteF ?_
      walk_at "v"
      refine i_ixO ho (s14 _ _ hp) (atI_nat (j := 0) rfl) ?_
      walk_at "v"
      refine iteT ?_
      walk_at "v"
      refine iteT ?_
      walk_at "v"
      refine ⟨_, .inl ⟨_, SqL.of h2, rfl⟩, ?_⟩
      rw [show (!List.isEmpty (w.map V.str)) = true by rw [ne_map okd.2.2.1]; rfl]
      refine iteT ?_
      walk_at "v"
      have lv : v.length ≤ 3 := Nat.le_trans (okd.2.2.2.trans okd.2.1).length_le po.most
      refine ⟨[], lstS v, .ref a3, a2, _, w, rfl, dt_strs h3', fun z hz => ?_, by show (v.map PyData.str).length < 64; rw [List.length_map]; omega, h2, .inl rfl, fun en H5 s5 => ?_, fun xs ex ys q5 H5 pm so hq5 h5 s5 => ?_⟩
      · obtain ⟨y, hy, rfl⟩ := List.mem_map.mp (show z ∈ v.map PyData.str from hz)
        have := (nameB_len (po.name y (okd.2.1.subset (okd.2.2.2.subset hy)))).2
        show y.length ≤ 1000000
        omega
      · rw [show lotD (lstS v) w = some v from lotD_sub (po.nm.sub okd.2.1) (un_lst _) okd.2.2.2] at en
        cases en
      have s15 := s14.trans s5
      have ea5 := s5 _ _ ea
      have g1 := s5 _ _ h1
      have g2 := s5 _ _ h2
      have g3 := s5 _ _ h3'
      walk_at "v"
      refine iteT ?_
      walk_at "v"
      refine i_tupleL g1 (fun t1 ht1 => ?_)
      walk_at "v"
      refine i_tupleL (h_new g2 ht1) (fun t2 ht2 => ?_)
      walk_at "v"
      refine i_tupleL (h_new (h_new g3 ht1) ht2) (fun t3 ht3 => ?_)
      walk_at "v"
      refine ⟨show 5 ≤ sizeLine by decide, fun q hq => ?_⟩
      have q1 := s15.new (o := .tup (r.map V.str)) ht1
      have q2 := q1.new (o := .tup (w.map V.str)) ht2
      have q3 := q2.new (o := .tup (v.map V.str)) ht3
      have es : stepD sd = .tuple [.str ("do" : Str), lotT r, lotT w, lotT v, whenD sd.wh] := by unfold stepD; rw [hk]
      refine k q _ (fun S' tS => ?_) (q3.new hq)
      rw [es]
      refine dt_tup upd_same (DtAll.cons dt_s (DtAll.cons (dt_tup (h_new (h_new (h_new upd_same ht2) ht3) hq) (DtAll.strs _) (tS.nm (fr s15 ht1))) (DtAll.cons (dt_tup (h_new (h_new upd_same ht3) hq) (DtAll.strs _) (tS.nm (fr q1 ht2))) (DtAll.cons (dt_tup (h_new upd_same hq) (DtAll.strs _) (tS.nm (fr q2 ht3))) (DtAll.cons ?_ DtAll.nil))))) (tS.nm (fr q3 hq))
      exact Dt.keep ((((Keep.refl _ _).new ht1).new ht2).new ht3 |>.new hq) _ _ ((nt4.same s5) S' (tS.same s1))
end Lr
set_option Elab.async false
set_option linter.all false
set_option maxRecDepth 100000
set_option maxHeartbeats 4000000
namespace Lr
open PySem PySem.Spec PyProof.Rows L2 TL
local macro_rules | `(tactic| walk_at "ne") => `(tactic| (first | assumption | (refine ne_sym ?_; assumption) | (exact ne_of_none (by assumption) (by assumption)) | (exact ne_sym (ne_of_none (by assumption) (by assumption)))))
local macro_rules | `(tactic| walk_at "h") => `(tactic| (first | assumption | exact upd_same | (refine h_new ?_ (by assumption); walk_at "h") | (refine h_ne (by walk_at "ne") ?_; walk_at "h")))
local macro_rules | `(tactic| walk_at "v1") => `(tactic| (with_reducible first
  | refine i_seq ?_ | refine i_asg ?_ | refine i_ret ?_ | refine i_next ?_ | refine i_drop ?_ | refine i_ifS ?_ | refine i_if ?_ | refine i_and ?_ | refine i_or ?_ | refine i_not ?_ | refine i_test ?_ | refine i_tB ?_ | refine i_bl ?_ | refine i_yes ?_
  | refine i_op ?_ | refine i_un ?_ | refine i_chain ?_ | refine i_andV ?_ | refine i_orV ?_ | refine i_notV ?_ | refine i_cb ?_ | refine i_cons ?_ | refine i_nil ?_ | refine i_bm ?_ | refine i_bm0 ?_ | refine i_c ?_ | refine i_name ?_ | refine i_sub ?_
  | refine i_call ?_ | refine i_lst ?_ | refine i_tup ?_ | refine i_par ?_ | refine i_par2 ?_ | refine i_sl ?_ | refine i_np ?_ | refine i_pt ?_ | refine i_int ?_ | refine i_m0 ?_ | refine i_m1 ?_ | refine i_isS ?_
  | refine i_rI0 ?_ | refine i_inSign ?_ | refine i_notInSign ?_ | refine i_int1 ?_ | refine i_tru ?_ | refine i_isN ?_ | refine i_notN ?_ | refine iteT ?_ | refine iteF ?_ | refine i_brk ?_ | refine i_rt ?_ | refine i_nx ?_ | refine i_bk ?_ | refine i_ct ?_ | refine i_for ?_ | refine i_lc ?_ | refine i_dc ?_ | refine i_iL ?_ | refine i_iT ?_ | refine i_iR1 ?_ | refine i_iR2 ?_ | refine i_iS ?_ | refine i_iE ?_ | refine i_iEK ?_ | refine i_iEQ ?_ | refine i_iZS ?_ | refine i_dget ?_ | refine i_fld ?_ | refine i_sfld ?_ | refine i_dput ?_ | refine i_meth ?_ | refine i_rU ?_ | refine i_cont ?_ | refine i_make ?_))
local macro_rules | `(tactic| walk_at "v2") => `(tactic| (first
  | ((with_reducible refine' i_var ?k1 ?_); (case k1 => exact rfl))
  | ((with_reducible refine' i_eq ?k1 ?_); (case k1 => exact rfl))
  | ((with_reducible refine' i_ne ?k1 ?_); (case k1 => exact rfl))
  | ((with_reducible refine' i_ixL ?k1 ?k2 ?_); (case k1 => walk_at "h"); (case k2 => exact rfl))
  | ((with_reducible refine' i_ixT ?k1 ?k2 ?_); (case k1 => walk_at "h"); (case k2 => exact rfl))
  | ((with_reducible refine' i_lenL ?k1 ?_); (case k1 => walk_at "h"))
  | ((with_reducible refine' i_lenT ?k1 ?_); (case k1 => walk_at "h"))
  | (refine i_wipe (show wipe _ _ = wipe _ _ from rfl) ?_)
  | ((with_reducible refine' i_setL ?k1 ?k2 ?_); (case k1 => walk_at "h"); (case k2 => exact rfl))
  | ((with_reducible refine' i_tyl ?k1 ?_); (case k1 => walk_at "h"))))
local macro_rules | `(tactic| walk_at "v") => `(tactic| repeat (first | walk_at "v1" | walk_at "v2"))

variable {P : Program} {w : World} {K :
      PySem.W.Frag} {mg : Str → Option Value} {base : Heap}
open C8 (InsC call_isC)
abbrev sRule___init__ : Stmt := inClass (top 18) 0
abbrev NRule___init__ : List Str := ["self", "pages", "steps", "names", "index", "thing", "step"]
abbrev PRule___init__ : List Str := ["self", "pages", "steps"]
theorem scRule___init__ : FnScope NRule___init__ PRule___init__ (defScope sRule___init__) := ⟨rfl, rfl, rfl, by decide +kernel, rfl, by decide +kernel, by decide +kernel⟩
abbrev FdStepOf (K : PySem.W.Frag) (mg : Str → Option Value) := Fd K mg "step_of" sstep_of Pstep_of
structure RuleCls (K : PySem.W.Frag) (mg : Str → Option Value) (C : Addr) : Prop where
  cl : Cls K C
  nN : NoAttr K C "names"
  nR : NoAttr K C "rows"
  g : mg "Rule" = some (.ref C)
def ruleF (tn lr : Addr) : List (Str × V) := putF "rows" (.ref lr) (putF "names" (.ref tn) [])
theorem ruleF_names (tn lr : Addr) : (ruleF tn lr).lookup ("names" : Str) = some (V.ref tn) := by
  unfold ruleF; rw [lookup_putF, if_neg (by decide +kernel), lookup_putF, if_pos rfl]
theorem ruleF_rows (tn lr : Addr) : (ruleF tn lr).lookup ("rows" : Str) = some (V.ref lr) := by
  unfold ruleF; rw [lookup_putF, if_pos rfl]
theorem ruleF_none (tn lr : Addr) {f : Str} (h1 : ¬ f = "rows") (h2 : ¬ f = "names") : (ruleF tn lr).lookup f = none := by
  unfold ruleF; rw [lookup_putF, if_neg h1, lookup_putF, if_neg h2]; rfl
def stepsD (l : List Sd) : PyData := .list (l.map stepD)
/-- a Rule of R at p, none of its parts in S -/
structure RuleAt (S : List Addr) (C : Addr) (H : Hp) (p : Addr) (R : RG) : Prop where
  np : p ∉ S
  ex : ∃ (dx tn lr : Addr), H p = some (.ins C dx (ruleF tn lr)) ∧ Dt S H (lotT R.pages) (.ref tn) ∧ Dt S H (stepsD R.steps) (.ref lr)
/-- what is passed for a list of steps -/
structure StepsOf (d : PyData) (ss : List Sd) : Prop where
  row : (isK "list" d || isK "tuple" d) = true
  len : (kids d).length = ss.length
  at_ : ∀ (i : Nat) e s, (kids d)[i]? = some e → ss[i]? = some s → ∃ u, un e = un (stepD u) ∧ SdPerm u s
def spRuleInit (C : Addr) : Sp := fun vs H Q _ => ∃ (S : List Addr) (p dx : Addr) (dP dR : PyData) (vp vr : V) (R : RG) (l : List Str), vs = [.ref p, vp, vr] ∧ H p = some (.ins C dx []) ∧ p ∈ S ∧ Dt S H dP vp ∧ Dt S H dR vr ∧ R.Ok ∧ un dP = .list (l.map .str) ∧ l.Perm R.pages ∧ StepsOf dR R.steps ∧ (∀ s ∈ R.steps, s.wh.length ≤ 100) ∧
  ∀ H', Keep [p] H H' → (∀ S, Trk S H → p ∉ S → RuleAt S C H' p R) → Q .non H'
abbrev MdRInit (K : PySem.W.Frag) (C : Addr) := Md K C "__init__" "Rule.__init__" sRule___init__ PRule___init__
theorem ok_ruleinit {C : Addr} (cRule : RuleCls K mg C) (d : MdRInit K C) (dstep_of : FdStepOf K mg) (dwhen_of : FdWhenOf K mg) (dlot_among : FdLotAmong K mg) (dnames_of : FdNamesOf K mg) (dis_name : FdIsName K mg) (AL : Alone K mg) (B : Blt2 K mg) :
    FnOk P w K mg base CX0 6 d.f d.fd PRule___init__ (spRuleInit C) := by
  have Gnames_of : FnOk P w K mg base CX0 2 dnames_of.f dnames_of.fd Pnames_of spNamesOf := ok_namesof dnames_of dis_name B.toBlt
  have Gstep_of : FnOk P w K mg base CX0 5 dstep_of.f dstep_of.fd Pstep_of spStepOf := ok_stepof dstep_of dwhen_of dlot_among dnames_of dis_name AL B
  refine d.F.ok scRule___init__ (fun vs H Q E h => ?_) (fun cdv A outer s H vs Q E hr h => ?_)
  · obtain ⟨S, p, dx, dP, dR, vp, vr, R, l, rfl, _⟩ := h
    rfl
  · obtain ⟨S, p, dx, dP, dR, vp, vr, R, l, rfl, hp, hpS, hdP, hdR, ok, uP, pl, so, lw, k⟩ := h
    refine ⟨_, (pss_cons (ps_set (i := 3) scRule___init__.nd rfl (by first | exact Or.inl rfl | exact Or.inr rfl) (pe_call Gnames_of (hr.mono (by decide)) (by rfl) dnames_of.g dnames_of.F.kp dnames_of.b .nil pass0 (pa_cons (pv 1) pa_nil)))
      (pss_cons (ps_if (PW.pt (pw_or (pt_cmpR o_isN (pv 3) pe_non (nomark _)) (pw_or1 (pt_not (pt_chain op_le op_le pe_int (pe_callB (c_len K) (by rfl) B.len (by decide +kernel) (pa_cons (pv 3) pa_nil)) pe_int))))) (pss_one ps_never) pss_nil)
      (pss_cons (ps_if (PW.pt (pw_or (pt_not (pt_val (pe_callB (c_isiT K) (by rfl) B.isinstance (by decide +kernel) (pa_cons (pv 2) (pa_cons (pe_tup (pa_cons (e_ty "list" B.list (by decide +kernel)) (pa_cons (e_ty "tuple" B.tuple (by decide +kernel)) pa_nil))) pa_nil))))) (pw_or1 (pt_not (pt_chain op_le op_le pe_int (pe_callB (c_len K) (by rfl) B.len (by decide +kernel) (pa_cons (pv 2) pa_nil)) pe_int))))) (pss_one ps_never) pss_nil)
      (pss_cons (s_fld K (pv 0) (pe_callTy (c_tuple K) (by rfl) B.tuple (by decide +kernel) (pa_cons (pv 3) pa_nil)))
      (pss_cons (s_fld K (pv 0) (pe_lst pa_nil))
      (pss_one (ps_for PassesOwn.never rfl (w_enumQ K (by rfl) B.enumerate (pa_cons (pv 2) pa_nil)) (g_tup K (n := 2) rfl (pgs_cons (pg_name (i := 4) scRule___init__.nd rfl (by first | exact Or.inl rfl | exact Or.inr rfl)) (pgs_cons (pg_name (i := 5) scRule___init__.nd rfl (by first | exact Or.inl rfl | exact Or.inr rfl)) pgs_nil)))
      (pss_cons (ps_set (i := 6) scRule___init__.nd rfl (by first | exact Or.inl rfl | exact Or.inr rfl) (pe_call Gstep_of (hr.mono (by decide)) (by rfl) dstep_of.g dstep_of.F.kp dstep_of.b .nil pass0 (pa_cons (pv 5) (pa_cons (pv 3) pa_nil))))
      (pss_cons (ps_if (pt_cmpR o_isN (pv 6) pe_non (nomark _)) (pss_one ps_never) pss_nil)
      (pss_one (ps_expr (e_bm K PySem.F.plainAttrs_list PySem.F.slot_list_append PySem.F.type_list_append mt_append (e_fld K (pv 0)) (pa_cons (pv 6) pa_nil))))))))))))), ?_⟩
    have po := ok.pg
    obtain ⟨rowP, kidP, nmP⟩ := strs_row uP
    have eP := nmP (List.all_eq_true.mpr fun x hx => po.name x (pl.subset hx)) (pl.nodup_iff.mpr po.nd)
    walk_at "v"
    refine ⟨S, dP, vp, rfl, hdP, fun z hz => ?_, by rw [kidP, List.length_map, pl.length_eq]; have := po.most; omega, (fun e => by rw [eP] at e; cases e), fun xs' e ys q1 H1 pm1 so1 nq1 hq1 s1 => ?_⟩
    · rw [kidP] at hz
      obtain ⟨x, hx, rfl⟩ := List.mem_map.mp hz
      have := (nameB_len (po.name x (pl.subset hx))).2
      show x.length ≤ 1000000
      omega
    rw [eP] at e; cases e
    obtain rfl : ys = R.pages := sorted_perm so1 (sortedS_pw po.sorted) (pm1.trans pl)
    have hp1 := s1 _ _ hp
    have l1 := po.pos
    have l2 := po.most
    have lm : (R.pages.map V.str).length = R.pages.length := List.length_map _
    walk_at "v"
    refine iteF ?_
    walk_at "v"
    refine ifd (fun _ => ?_) (fun z => absurd (by rw [lm]; omega) z)
    walk_at "v"
    refine ifn (fun z => absurd (by rw [lm]; omega) z) (fun _ => ?_)
    walk_at "v"
    refine ⟨by decide, fun tp htp => ?_⟩
    have s2 : Same H (upd H1 tp (.tup [.ty "list", .ty "tuple"])) := s1.new htp
    walk_at "v"
    refine i_isLT (hdR.same s2) upd_same ?_
    walk_at "v"
    rw [so.row]
    refine iteF ?_
    obtain ⟨rq, ro, rxs, hro, rfl, hrq, nrq, hrx⟩ := hdR.row so.row
    have lrx : rxs.length = R.steps.length := by rw [← so.len]; exact hrx.length
    have p1 := ok.pos
    have p2 := ok.most
    walk_at "v"
    refine i_lenO hro (s2 _ _ hrq) ?_
    walk_at "v"
    refine ifd (fun _ => ?_) (fun z => absurd (by rw [lrx]; omega) z)
    walk_at "v"
    refine ifn (fun z => absurd (by rw [lrx]; omega) z) (fun _ => ?_)
    walk_at "v"
    refine i_tupleL (h_new hq1 htp) (fun tn htn => ?_)
    walk_at "v"
    refine d_put (h_new (h_new hp1 htp) htn) cRule.cl cRule.nN (by decide) ?_
    have s3 := s2.new (o := .tup (R.pages.map V.str)) htn
    have ntn : H tn = none := (Keep.of_same (S := []) s2).free htn
    have npt : p ≠ tn := ne_of_none hp ntn
    obtain ⟨H3, eH3⟩ : ∃ H3, H3 = upd (upd (upd H1 tp (.tup [.ty "list", .ty "tuple"])) tn (.tup (R.pages.map V.str))) p (.ins C dx (putF "names" (.ref tn) [])) := ⟨_, rfl⟩
    have k3 : Keep [p] H H3 := by rw [eH3]; exact (Keep.of_same s3).put (by simp)
    have hp3 : H3 p = some (.ins C dx (putF "names" (.ref tn) [])) := by rw [eH3, upd_same]
    have ht3 : H3 tn = some (.tup (R.pages.map V.str)) := by rw [eH3, upd_ne npt.symm, upd_same]
    have npq : q1 ≠ p := (ne_of_none hp nq1).symm
    have hq3 : H3 q1 = some (.lst (R.pages.map V.str)) := by rw [eH3, upd_ne npq]; exact h_new (h_new hq1 htp) htn
    rw [← eH3]
    clear eH3
    walk_at "v"
    refine ⟨by decide, fun lr hlr => ?_⟩
    walk_at "v"
    refine d_put (h_new hp3 hlr) cRule.cl cRule.nR (Nat.lt_of_le_of_lt (putF_len _ _ _) (by decide)) ?_
    have nlr : H lr = none := k3.free hlr
    obtain ⟨H4, eH4⟩ : ∃ H4, H4 = upd (upd H3 lr (.lst [])) p (.ins C dx (ruleF tn lr)) := ⟨_, rfl⟩
    have hp4 : H4 p = some (.ins C dx (ruleF tn lr)) := by rw [eH4, upd_same]
    have tp3 : Trk [p] H3 := fun s hs => by simp at hs; subst hs; exact ⟨_, hp3⟩
    have ac4 : Acc [p] H3 H4 lr [] := by rw [eH4]; exact (Acc.start (M := [p]) (Keep.refl _ _) hlr).skip tp3 ((Keep.refl _ _).put (by simp))
    rw [show upd (upd H3 lr (.lst [])) p (.ins C dx (putF "rows" (.ref lr) (putF "names" (.ref tn) []))) = H4 from eH4.symm]
    clear eH4
    walk_at "v"
    have nprq : rq ≠ p := by
      rintro rfl
      rw [hp] at hrq; cases hrq
      rcases hro with h | h <;> cases h
    have nplr : p ≠ lr := ne_of_none hp nlr
    have hrq4 : H4 rq = some ro := ac4.kp _ _ (by simp [nprq]) (k3 _ _ (by simp [nprq]) hrq)
    refine ⟨rq, rxs, ro, rfl, hro, hrq4, fun J wk => ?_⟩
    refine for_by wk ⟨fun i σ H' => (∃ v4 v5 v6 : Option V, σ = [some (.ref p), some vp, some (.ref rq), some (.ref q1), v4, v5, v6]) ∧ Acc [p] H3 H' lr ((R.steps.take i).map stepD) ∧ H' p = some (.ins C dx (ruleF tn lr)), ?_,
      fun i σ H' _ ⟨_, z, _⟩ => z.kp _ _ (by simp [nprq]) (k3 _ _ (by simp [nprq]) hrq), ?_, ?_⟩
    · exact ⟨⟨none, none, none, rfl⟩, by simpa using ac4, hp4⟩
    · rintro i x σ H5 H6 hi ⟨⟨v4, v5, v6, rfl⟩, ac, hp5⟩ ⟨T, y0, y, rfl, hT, rfl, e0, hy⟩
      obtain rfl : y0 = .int ((0 : Int) + (i : Nat)) := (Option.some.inj e0).symm
      obtain ⟨di, hdi, hdx⟩ := hrx.get' hy
      have hil : i < R.steps.length := by omega
      have hri : R.steps[i]? = some R.steps[i] := by simp [hil]
      have ms := List.mem_of_getElem? hri
      obtain ⟨u, uu, pu⟩ := so.at_ i di _ hdi hri
      have k5 : Keep [p] H H5 := k3.trans ac.kp
      have dkeep : ∀ H', Same H5 H' → Dt S H' di y := fun H' sm => Dt.keep ((k5.trans (Keep.of_same sm)).mono (by simp [hpS])) _ _ hdx
      refine g_two upd_same ?_
      walk_at "v"
      refine ⟨S, di, y, q1, R.pages, u, R.steps[i], rfl, dkeep _ ((Same.refl H5).new hT), uu, pu, ok.st _ ms, lw _ ms, h_new (ac.kp _ _ (by simp [npq]) hq3) hT, po, fun qr H7 nw sm7 => ?_⟩
      have sm57 : Same H5 H7 := ((Same.refl H5).new hT).trans sm7
      walk_at "v"
      refine iteF ?_
      walk_at "v"
      refine d_fld (sm57 _ _ hp5) cRule.cl cRule.nR (ruleF_rows _ _) ?_
      obtain ⟨acc, ea5, la5, _⟩ := id ac.ex
      refine i_tyl (sm57 _ _ ea5) ?_
      walk_at "v"
      refine i_app (sm57 _ _ ea5) (small1000 (by rw [la5]; simp; omega)) ?_
      have st := ac.step tp3 ea5 (d := stepD R.steps[i]) (v := .ref qr) (H2 := H7) (fun S t hm => nw S (t.same ((Same.refl H5).new hT))) (Keep.of_same sm57)
      refine ⟨⟨_, _, _, rfl⟩, ?_, ?_⟩
      · show Acc [p] H3 _ lr ((R.steps.take (i + 1)).map stepD)
        rw [List.take_succ, hri, List.map_append]
        exact st.2
      · rw [upd_ne nplr]; exact sm57 _ _ hp5
    · rintro σ H5 ⟨⟨v4, v5, v6, rfl⟩, ac5, hp5⟩
      rw [lrx, List.take_length] at ac5
      have k5 : Keep [p] H H5 := k3.trans ac5.kp
      have ht5 : H5 tn = some (.tup (R.pages.map V.str)) := ac5.kp _ _ (by simp [npt.symm]) ht3
      refine k H5 k5 fun S' tr npS' => ⟨npS', dx, tn, lr, hp5, dt_tup ht5 (DtAll.strs _) (tr.nm ntn), ?_⟩
      have t3 : Trk (p :: S') H3 := fun s hs => by
        rcases List.mem_cons.mp
              hs with rfl | hs
        · exact ⟨_, hp3⟩
        · exact (tr.keep k3) s hs
      exact Dt.mono (fun s hs => by simp [hs]) _ _ (ac5.done (p :: S') t3 (by simp))
end Lr
set_option Elab.async false
set_option linter.all false
set_option maxRecDepth 100000
set_option maxHeartbeats 4000000
namespace Lr
open PySem PySem.Spec PyProof.Rows L2 TL
local macro_rules | `(tactic| walk_at "ne") => `(tactic| (first | assumption | (refine ne_sym ?_; assumption) | (exact ne_of_none (by assumption) (by assumption)) | (exact ne_sym (ne_of_none (by assumption) (by assumption)))))
local macro_rules | `(tactic| walk_at "h") => `(tactic| (first | assumption | exact upd_same | (refine h_new ?_ (by assumption); walk_at "h") | (refine h_ne (by walk_at "ne") ?_; walk_at "h")))
local macro_rules | `(tactic| walk_at "v1") => `(tactic| (with_reducible first
  | refine i_seq ?_ | refine i_asg ?_ | refine i_ret ?_ | refine i_next ?_ | refine i_drop ?_ | refine i_ifS ?_ | refine i_if ?_ | refine i_and ?_ | refine i_or ?_ | refine i_not ?_ | refine i_test ?_ | refine i_tB ?_ | refine i_bl ?_ | refine i_yes ?_
  | refine i_op ?_ | refine i_un ?_ | refine i_chain ?_ | refine i_andV ?_ | refine i_orV ?_ | refine i_notV ?_ | refine i_cb ?_ | refine i_cons ?_ | refine i_nil ?_ | refine i_bm ?_ | refine i_bm0 ?_ | refine i_c ?_ | refine i_name ?_ | refine i_sub ?_
  | refine i_call ?_ | refine i_lst ?_ | refine i_tup ?_ | refine i_par ?_ | refine i_par2 ?_ | refine i_sl ?_ | refine i_np ?_ | refine i_pt ?_ | refine i_int ?_ | refine i_m0 ?_ | refine i_m1 ?_ | refine i_isS ?_
  | refine i_rI0 ?_ | refine i_inSign ?_ | refine i_notInSign ?_ | refine i_int1 ?_ | refine i_tru ?_ | refine i_isN ?_ | refine i_notN ?_ | refine iteT ?_ | refine iteF ?_ | refine i_brk ?_ | refine i_rt ?_ | refine i_nx ?_ | refine i_bk ?_ | refine i_ct ?_ | refine i_for ?_ | refine i_lc ?_ | refine i_dc ?_ | refine i_iL ?_ | refine i_iT ?_ | refine i_iR1 ?_ | refine i_iR2 ?_ | refine i_iS ?_ | refine i_iE ?_ | refine i_iEK ?_ | refine i_iEQ ?_ | refine i_iZS ?_ | refine i_dget ?_ | refine i_fld ?_ | refine i_sfld ?_ | refine i_dput ?_ | refine i_meth ?_ | refine i_rU ?_ | refine i_cont ?_ | refine i_make ?_))
local macro_rules | `(tactic| walk_at "v2") => `(tactic| (first
  | ((with_reducible refine' i_var ?k1 ?_); (case k1 => exact rfl))
  | ((with_reducible refine' i_eq ?k1 ?_); (case k1 => exact rfl))
  | ((with_reducible refine' i_ne ?k1 ?_); (case k1 => exact rfl))
  | ((with_reducible refine' i_ixL ?k1 ?k2 ?_); (case k1 => walk_at "h"); (case k2 => exact rfl))
  | ((with_reducible refine' i_ixT ?k1 ?k2 ?_); (case k1 => walk_at "h"); (case k2 => exact rfl))
  | ((with_reducible refine' i_lenL ?k1 ?_); (case k1 => walk_at "h"))
  | ((with_reducible refine' i_lenT ?k1 ?_); (case k1 => walk_at "h"))
  | (refine i_wipe (show wipe _ _ = wipe _ _ from rfl) ?_)
  | ((with_reducible refine' i_setL ?k1 ?k2 ?_); (case k1 => walk_at "h"); (case k2 => exact rfl))
  | ((with_reducible refine' i_tyl ?k1 ?_); (case k1 => walk_at "h"))))
local macro_rules | `(tactic| walk_at "v") => `(tactic| repeat (first | walk_at "v1" | walk_at "v2"))

variable {P : Program} {w : World} {K :
      PySem.W.Frag} {mg : Str → Option Value} {base : Heap}
open C8 (InsC call_isC)
abbrev sRule___eq__ : Stmt := inClass (top 18) 1
abbrev NRule___eq__ : List Str := ["self", "other"]
abbrev PRule___eq__ : List Str := ["self", "other"]
theorem scRule___eq__ : FnScope NRule___eq__ PRule___eq__ (defScope sRule___eq__) := ⟨rfl, rfl, rfl, by decide +kernel, rfl, by decide +kernel, by decide +kernel⟩
abbrev sRule_pages : Stmt := inClass (top 18) 2
abbrev NRule_pages : List Str := ["self"]
abbrev PRule_pages : List Str := ["self"]
theorem scRule_pages : FnScope NRule_pages PRule_pages (defScope sRule_pages) := ⟨rfl, rfl, rfl, by decide +kernel, rfl, by decide +kernel, by decide +kernel⟩
abbrev sRule_steps : Stmt := inClass (top 18) 3
abbrev NRule_steps : List Str := ["self"]
abbrev PRule_steps : List Str := ["self"]
theorem scRule_steps : FnScope NRule_steps PRule_steps (defScope sRule_steps) := ⟨rfl, rfl, rfl, by decide +kernel, rfl, by decide +kernel, by decide +kernel⟩
abbrev sneed_rule : Stmt := top 19
abbrev Nneed_rule : List Str := ["rule"]
abbrev Pneed_rule : List Str := ["rule"]
theorem scneed_rule : FnScope Nneed_rule Pneed_rule (defScope sneed_rule) := ⟨rfl, rfl, rfl, by decide +kernel, rfl, by decide +kernel, by decide +kernel⟩
theorem RuleCls.gv {C : Addr} (c : RuleCls K mg C) : GV mg "Rule" (.ref C) := ⟨_, c.g, rfl⟩
abbrev MdREq (K : PySem.W.Frag) (C : Addr) := Md K C "__eq__" "Rule.__eq__" sRule___eq__ PRule___eq__
abbrev MdPages (K : PySem.W.Frag) (C : Addr) := Md K C "pages" "Rule.pages" sRule_pages PRule_pages
abbrev MdSteps (K : PySem.W.Frag) (C : Addr) := Md K C "steps" "Rule.steps" sRule_steps PRule_steps
theorem RuleAt.same {S : List Addr} {C : Addr} {H H' : Hp} {p : Addr} {R : RG} (h : RuleAt S C H p R) (k : Same H H') : RuleAt S C H' p R := by
  obtain ⟨np, dx, tn, lr, h1, h2, h3⟩ := h
  exact ⟨np, dx, tn, lr, k _ _ h1, h2.same k, h3.same k⟩
theorem RuleAt.keep {S : List Addr} {C : Addr} {H H' : Hp} {p : Addr} {R : RG} (h : RuleAt S C H p R) (k : Keep S H H') : RuleAt S C H' p R := by
  obtain ⟨np, dx, tn, lr, h1, h2, h3⟩ := h
  exact ⟨np, dx, tn, lr, k _ _ np h1, Dt.keep k _ _ h2, Dt.keep k _ _ h3⟩
theorem RuleAt.mono {S T : List Addr} {C : Addr} {H : Hp} {p : Addr} {R : RG} (h : RuleAt T C H p R) (s : ∀ x ∈ S, x ∈ T) : RuleAt S C H p R := by
  obtain ⟨np, dx, tn, lr, h1, h2, h3⟩ := h
  exact ⟨fun m => np (s _ m), dx, tn, lr, h1, Dt.mono s _ _ h2, Dt.mono s _ _ h3⟩
theorem RuleAt.nil {S : List Addr} {C : Addr} {H : Hp} {p : Addr} {R : RG} (h : RuleAt S C H p R) : RuleAt [] C H p R := h.mono (by simp)
theorem tup_at {S : List Addr} {H : Hp} {ds : List PyData} {a : Addr} (h : Dt S H (.tuple ds) (.ref a)) : ∃ xs, H a = some (.tup xs) ∧ DtAll S H ds xs ∧ a ∉ S := by
  unfold Dt at h
  obtain ⟨a', xs, e, n, h1, h2⟩ := h
  cases e
  exact ⟨xs, h1, h2, n⟩
def spRPages (C : Addr) : Sp := fun vs H Q _ => ∃ (p : Addr) (R : RG), vs = [.ref p] ∧ RuleAt [] C H p R ∧ ∀ q H', New H H' (lstS R.pages) (.ref q) → Same H H' → Q (.ref q) H'
theorem ok_rpages {C : Addr} (cRule : RuleCls K mg C) (d : MdPages K C) (B : Blt2 K mg) : FnOk P w K mg base CX0 1 d.f d.fd PRule_pages (spRPages C) := by
  refine d.F.ok scRule_pages (fun vs H Q E h => ?_) (fun cdv A outer s H vs Q E hr h => ?_)
  · obtain ⟨p, R, rfl, _⟩ := h
    rfl
  · obtain ⟨p, R, rfl, ra, k⟩ := h
    refine ⟨_, (pss_one (ps_ret (pe_callTy (c_list K) (by rfl) B.list (by decide +kernel) (pa_cons (e_fld K (pv 0)) pa_nil)))), ?_⟩
    obtain ⟨np, dx, tn, lr, hp, h2, h3⟩ := ra
    obtain ⟨xs, ht, dt, _⟩ := tup_at h2
    obtain rfl := DtAll.of_strs dt
    walk_at "v"
    refine d_fld hp cRule.cl cRule.nN (ruleF_names _ _) ?_
    walk_at "v"
    refine i_listT ht (fun l hl => ?_)
    exact k l _ (fun S tS => dt_list upd_same (DtAll.strs _) (tS.nm hl)) ((Same.refl _).new hl)
def spRSteps (C : Addr) : Sp := fun vs H Q _ => ∃ (p : Addr) (R : RG), vs = [.ref p] ∧ RuleAt [] C H p R ∧ ∀ q H', Dt [] H' (stepsD R.steps) (.ref q) → Same H H' → Q (.ref q) H'
theorem ok_rsteps {C : Addr} (cRule : RuleCls K mg C) (d : MdSteps K C) (B : Blt2 K mg) : FnOk P w K mg base CX0 1 d.f d.fd PRule_steps (spRSteps C) := by
  refine d.F.ok scRule_steps (fun vs H Q E h => ?_) (fun cdv A outer s H vs Q E hr h => ?_)
  · obtain ⟨p, R, rfl, _⟩ := h
    rfl
  · obtain ⟨p, R, rfl, ra, k⟩ := h
    refine ⟨_, (pss_one (ps_ret (pe_callTy (c_list K) (by rfl) B.list (by decide +kernel) (pa_cons (e_fld K (pv 0)) pa_nil)))), ?_⟩
    obtain ⟨np, dx, tn, lr, hp, h2, h3⟩ := ra
    obtain ⟨xs, ht, dt, _⟩ := list_at h3
    walk_at "v"
    refine d_fld hp cRule.cl cRule.nR (ruleF_rows _ _) ?_
    walk_at "v"
    refine i_listL ht (fun l hl => ?_)
    exact k l _ (dt_list upd_same (DtAll.keep ((Keep.refl _ _).new hl) _ _ dt) (by simp)) ((Same.refl _).new hl)
theorem depthAll_le {n : Nat} : ∀ (l : List PyData), (∀ x ∈ l, x.depth ≤ n) → PyData.depthAll l ≤ n
  | [], _ => Nat.zero_le _
  | x :: r, h => by
    show max x.depth (PyData.depthAll r) ≤ n
    have h1 := h x (by simp)
    have h2 := depthAll_le r (fun y hy => h y (by simp [hy]))
    omega
theorem depth_tup_le {n : Nat} {l : List PyData} (h : ∀ x ∈ l, x.depth ≤ n) : (PyData.tuple l).depth ≤ n + 1 := by
  have := depthAll_le l h
  show PyData.depthAll l + 1 ≤ n + 1
  omega
theorem depth_lst_le {n : Nat} {l : List PyData} (h : ∀ x ∈ l, x.depth ≤ n) : (PyData.list l).depth ≤ n + 1 := by
  have := depthAll_le l h
  show PyData.depthAll l + 1 ≤ n + 1
  omega
theorem depth_str (x : Str) : (PyData.str x).depth = 0 := rfl
theorem depth_lotT (l : List Str) : (lotT l).depth ≤ 1 := depth_tup_le (n := 0) (fun x hx => by obtain ⟨y, _, rfl⟩ := List.mem_map.mp hx; exact Nat.zero_le _)
theorem depth_triD (t : Tri) : (triD t).depth ≤ 2 := depth_tup_le (n := 1) (fun x hx => by
  simp only [List.mem_cons,
        List.not_mem_nil, or_false] at hx
  rcases hx with rfl | rfl | rfl <;> exact depth_lotT _)
theorem depth_whenD (l : List Tri) : (whenD l).depth ≤ 3 := depth_tup_le (n := 2) (fun x hx => by obtain ⟨y, _, rfl⟩ := List.mem_map.mp hx; exact depth_triD _)
theorem depth_stepD (s : Sd) : (stepD s).depth ≤ 4 := by
  unfold stepD
  split <;> refine depth_tup_le (n := 3) (fun x hx => ?_) <;> simp only [List.mem_cons, List.not_mem_nil, or_false] at hx
  · rcases hx with rfl | rfl | rfl | rfl | rfl
    · exact Nat.zero_le _
    · exact Nat.le_trans (depth_lotT _) (by decide)
    · exact Nat.le_trans (depth_lotT _) (by decide)
    · exact Nat.le_trans (depth_lotT _) (by decide)
    · exact depth_whenD _
  · rcases hx with rfl | rfl | rfl
    · exact Nat.zero_le _
    · exact Nat.le_trans (depth_lotT _) (by decide)
    · exact depth_whenD _
  · rcases hx with rfl | rfl
    · exact Nat.zero_le _
    · exact depth_whenD _
theorem depth_stepsD (l : List Sd) : (stepsD l).depth ≤ 5 := depth_lst_le (n := 4) (fun x hx => by obtain ⟨y, _, rfl⟩ := List.mem_map.mp hx; exact depth_stepD _)
theorem i_eqSelf {S T : List Addr} {H : Hp} {x y : V} {d : PyData} {Q : VK} (h1 : Dt S H d x) (h2 : Dt T H d y) (dp : d.depth ≤ 60) (q : Q (.bl true) H) : rEqP K x y H Q :=
  i_eqP h1 h2 (.inl dp) (by rw [SeqAt.eqv_refl_plain d (Dt.plain d x h1)]; exact q)
def REq (C : Addr) : Addr → Addr → Hp → Prop := fun a b H => ∃ R : RG, RuleAt [] C H a R ∧ RuleAt [] C H b R
theorem ok_req {C : Addr} (cRule : RuleCls K mg C) (iRule : InsC K C) (d : MdREq K C) (B : Blt2 K mg) : FnOk P w K mg base CX0 1 d.f d.fd PRule___eq__ (spEq (REq C)) := by
  refine d.F.ok scRule___eq__ (fun vs H Q E h => ?_) (fun cdv A outer s H vs Q E hr h => ?_)
  · obtain ⟨a, b, rfl, _⟩ := h
    rfl
  · obtain ⟨a, b, rfl, ⟨R, ra, rb⟩, k⟩ := h
    refine ⟨_, (pss_one (ps_ret (pe_and (pe_callB (c_isC K iRule) (by rfl) B.isinstance (by decide +kernel) (pa_cons (pv 1) (pa_cons (e_glob cRule.gv) pa_nil))) (pe_and (pe_cmpR (o_eqP K hr.units) (e_fld K (pv 0)) (e_fld K (pv 1)) (nomark _)) (pe_one (pe_cmpR (o_eqP K hr.units) (e_fld K (pv 0)) (e_fld K (pv 1)) (nomark _))))))), ?_⟩
    obtain ⟨np, dx, tn, lr, hp, h2, h3⟩ := ra
    obtain ⟨np', dx', tn', lr', hp', h2', h3'⟩ := rb
    walk_at "v"
    refine ⟨b, dx', _, rfl, hp', ?_⟩
    walk_at "v"
    refine d_fld hp cRule.cl cRule.nN (ruleF_names _ _) ?_
    walk_at "v"
    refine d_fld hp' cRule.cl cRule.nN (ruleF_names _ _) ?_
    refine i_eqSelf h2 h2' (Nat.le_trans (depth_lotT _) (by decide)) ?_
    walk_at "v"
    refine d_fld hp cRule.cl cRule.nR (ruleF_rows _ _) ?_
    walk_at "v"
    refine d_fld hp' cRule.cl cRule.nR (ruleF_rows _ _) ?_
    refine i_eqSelf h3 h3' (Nat.le_trans (depth_stepsD _) (by decide)) ?_
    exact k _ Ext.rfl'
def spNeedRule (C : Addr) : Sp := fun vs H Q _ => ∃ p dx fs, vs = [.ref p] ∧ H p = some (.ins C dx fs) ∧ Q .non H
theorem ok_needrule {C : Addr} (cRule : RuleCls K mg C) (iRule : InsC K C) (d : Fd K mg "need_rule" sneed_rule Pneed_rule) (B : Blt2 K mg) : FnOk P w K mg base CX0 1 d.f d.fd Pneed_rule (spNeedRule C) := by
  refine d.F.ok scneed_rule (fun vs H Q E h => ?_) (fun cdv A outer s H vs Q E hr h => ?_)
  · obtain ⟨p, dx, fs, rfl, _⟩ := h
    rfl
  · obtain ⟨p, dx, fs, rfl, hp, k⟩ := h
    refine ⟨_, (pss_one (ps_if (pt_not (pt_val (pe_callB (c_isC K iRule) (by rfl) B.isinstance (by decide +kernel) (pa_cons (pv 0) (pa_cons (e_glob cRule.gv) pa_nil))))) (pss_one ps_never) pss_nil)), ?_⟩
    walk_at "v"
    refine ⟨p, dx, fs, rfl, hp, ?_⟩
    walk_at "v"
    exact k
end Lr
set_option Elab.async false
set_option linter.all false
set_option maxRecDepth 100000
set_option maxHeartbeats 4000000
/-! Tv: texts of ended lines, signs of names. -/
namespace Lr
open PySem PySem.Spec PyProof.Rows L2 TL
theorem letL : LET.cps.toList = [97, 98, 99, 100, 101, 102, 103, 104, 105, 106, 107, 108, 109, 110, 111, 112, 113, 114, 115, 116, 117, 118, 119, 120, 121, 122] := by decide +kernel
theorem let_big {c : Nat} (h : (letB c || figB c) = true) : 48 ≤ c := by
  rw [Bool.or_eq_true] at h
  rcases h with h | h
  · unfold letB at h
    rw [letL, decide_eq_true_eq] at h
    simp only [List.mem_cons, List.not_mem_nil, or_false] at h
    omega
  · exact ((fig_iff c).mp h).1
theorem name_free {z : Str} (h : nameB z = true) {s : Nat} (hs : s < 48) : s ∉ tl z := fun m => by
  simp only [nameB, Bool.and_eq_true] at h
  have := List.all_eq_true.mp h.1.2 s m
  have := let_big this
  omega
theorem join_nil : ∀ (l : List Str), tl (Str.join ("" : Str) l) = (l.map tl).flatten
  | [] => rfl
  | [x] => by show tl x = _; simp
  | x :: y :: r => by
    have ih := join_nil (y :: r)
    have e0 : tl ("" : Str) = [] := by decide +kernel
    show tl (x ++ ("" : Str) ++ Str.join ("" : Str) (y :: r)) = _
    rw [tl_append, tl_append, ih, e0]; simp
theorem join_nln : ∀ (ls : List Str), tl (Str.join NLN (ls ++ [("" : Str)])) = (ls.map fun x => tl x ++ [10]).flatten
  | [] => by show tl ("" : Str) = []; decide +kernel
  | x :: r => by
    have ih := join_nln r
    have e : Str.join NLN ((x :: r) ++ [("" : Str)]) = x ++ NLN ++ Str.join NLN (r ++ [("" : Str)]) := by
      cases r <;> rfl
    rw [e, tl_append, tl_append, ih, tl_nln]; simp
theorem text_lines (ls : List Str) : Txt.join ("" : Str) (ls.map fun x => x ++ NLN) = Txt.join NLN (ls ++ [("" : Str)]) := by
  rw [join_eq, join_eq]
  refine ext_tl ?_
  rw [join_nil, join_nln, List.map_map]
  congr 1
  refine List.map_congr_left
        fun x _ => ?_
  show tl (x ++ NLN) = _
  rw [tl_append, tl_nln]
end Lr
set_option Elab.async false
set_option linter.all false
set_option maxRecDepth 100000
set_option maxHeartbeats 4000000
/-! R5: how long a step's words are; a list of triples put together from its front. -/
namespace Lr
open PySem PySem.Spec PyProof.Rows L2 TL
theorem whenW_snoc : ∀ (ts : List Tri) (t : Tri), whenW (ts ++ [t]) = whenW ts ++ ((if 0 < ts.length then [sSL] else []) ++ triW t)
  | [], t => by simp [whenW]
  | u :: ts, t => by
    show triW u ++ ((ts ++ [t]).map fun t => sSL :: triW t).flatten = _
    rw [if_pos (by simp)]
    simp [whenW]
theorem whenW_take {ts : List Tri} {i : Nat} {t : Tri} (h : ts[i]? = some t) : whenW (ts.take (i + 1)) = whenW (ts.take i) ++ ((if 0 < i then [sSL] else []) ++ triW t) := by
  have hl := (List.getElem?_eq_some_iff.mp h).1
  rw [List.take_succ, h, Option.toList_some, whenW_snoc]
  have : (ts.take i).length = i := by rw [List.length_take]; omega
  rw [this]
theorem nameB_le {x : Str} (h : nameB x = true) : x.length ≤ 8 := (nameB_len h).2
theorem sub_len {pg l : List Str} (hp : PgOk pg) (h : l.Sublist pg) : l.length ≤ 3 := Nat.le_trans h.length_le hp.most
theorem ch_len (c : Nat) (x : Str) : (ch c ++ x).length = x.length + 1 := by
  have : (ch c).length = 1 := rfl
  rw [len_app, this]; omega
theorem triW_len {pg : List Str} (hp : PgOk pg) {t : Tri} (h : t.Ok pg) : (triW t).length ≤ 9 ∧ ∀ x ∈ triW t, x.length ≤ 9 := by
  unfold triW
  split
  · refine ⟨by simp, fun x hx => ?_⟩
    simp at hx; subst hx; exact (by decide : sMI.length ≤ 9)
  · have l1 := sub_len hp h.c
    have l2 := sub_len hp h.f
    have l3 := sub_len hp h.s
    refine ⟨by simp [triL, withS]; omega, fun x hx => ?_⟩
    simp only [triL, withS, List.mem_append, List.mem_map] at hx
    rcases hx with ⟨y, hy, rfl⟩ | ⟨y, hy, rfl⟩ | ⟨y, hy, rfl⟩
    · have := nameB_le (sub_name hp h.c y hy); rw [ch_len]; omega
    · have := nameB_le (sub_name hp h.f y hy); rw [ch_len]; omega
    · have := nameB_le (sub_name hp h.s y hy); rw [ch_len]; omega
theorem whenW_len {pg : List Str} (hp : PgOk pg) : ∀ {ts : List Tri}, (∀ t ∈ ts, t.Ok pg) → (whenW ts).length ≤ 10 * ts.length ∧ ∀ x ∈ whenW ts, x.length ≤ 9 := by
  have key : ∀ ts : List Tri, (∀ t ∈ ts, t.Ok pg) → ((ts.map fun t => sSL :: triW t).flatten).length ≤ 10 * ts.length ∧ ∀ x ∈ (ts.map fun t => sSL :: triW t).flatten, x.length ≤ 9 := by
    intro ts
    induction ts with
    | nil => intro _; simp
    | cons t ts ih =>
      intro h
      obtain ⟨a, b⟩ := triW_len hp (h t (by simp))
      obtain ⟨c, d⟩ := ih (fun z hz => h z (by simp [hz]))
      refine ⟨by simp only [List.map_cons, List.flatten_cons, List.length_append, List.length_cons]; omega, fun x hx => ?_⟩
      simp only [List.map_cons, List.flatten_cons, List.mem_append, List.mem_cons] at hx
      rcases hx with (rfl | hx) | hx
      · decide
      · exact b x hx
      · exact d x hx
  intro ts h
  cases ts with
  | nil => simp [whenW]
  | cons t ts =>
    obtain ⟨a, b⟩ := triW_len hp (h t (by simp))
    obtain ⟨c, d⟩ := key ts (fun z hz => h z (by simp [hz]))
    refine ⟨by simp only [whenW, List.length_append, List.length_cons]; omega, fun x hx => ?_⟩
    rcases List.mem_append.mp
          hx with hx | hx
    · exact b x hx
    · exact d x hx
theorem kdW_len {pg : List Str} (hp : PgOk pg) {k : Kd} (h : k.Ok pg) : (kdW k).length ≤ 12 ∧ ∀ x ∈ kdW k, x.length ≤ 9 := by
  have nm : ∀ {l : List Str}, l.Sublist pg → ∀ x ∈ l, x.length ≤ 9 := fun s x hx => by have := nameB_le (sub_name hp s x hx); omega
  cases k with
  | do_ r w v =>
    have l1 := sub_len hp h.1
    have l2 := sub_len hp h.2.1
    have sv := h.2.2.2.trans h.2.1
    have l3 := sub_len hp sv
    refine ⟨by simp [kdW]; omega, fun x hx => ?_⟩
    simp only [kdW, List.mem_cons, List.mem_append] at hx
    rcases hx with rfl | hx | rfl | hx | rfl | hx
    · decide
    · exact nm h.1 x hx
    · decide
    · exact nm h.2.1 x hx
    · decide
    · exact nm sv x hx
  | out l =>
    have l1 := sub_len hp h.1
    refine ⟨by simp [kdW]; omega, fun x hx => ?_⟩
    simp only [kdW, List.mem_cons] at hx
    rcases hx with rfl | hx
    · decide
    · exact nm h.1 x hx
  | alone y =>
    refine ⟨by simp [kdW], fun x hx => ?_⟩
    simp only [kdW, List.mem_cons, List.not_mem_nil, or_false] at hx
    subst hx
    rcases h with rfl | rfl | rfl <;> decide
theorem stepW_len {pg : List Str} (hp : PgOk pg) {s : Sd} (h : s.Ok pg) : (stepW s).length ≤ 13 + 10 * s.wh.length ∧ ∀ x ∈ stepW s, x.length ≤ 9 := by
  obtain ⟨a, b⟩ := kdW_len hp h.k
  obtain ⟨c, d⟩ := whenW_len hp h.w
  refine ⟨by simp only [stepW, List.length_append, List.length_cons]; omega, fun x hx => ?_⟩
  simp only [stepW, List.mem_append, List.mem_cons] at hx
  rcases hx with hx | rfl | hx
  · exact b x hx
  · decide
  · exact d x hx
theorem sum_le {n : Nat} : ∀ {l : List Str}, (∀ x ∈ l, x.length ≤ n) → (l.map (·.length)).sum ≤ n * l.length
  | [], _ => by simp
  | x :: l, h => by
    have h1 := h x (by simp)
    have h2 := sum_le (l := l) (fun y hy => h y (by simp [hy]))
    simp only [List.map_cons, List.sum_cons, List.length_cons, Nat.mul_add]
    omega
theorem join_len (a : Str) (l : List Str) : (Txt.join a l).length ≤ (l.map (·.length)).sum + l.length * a.length := by
  rw [join_eq]
  cases l with
  | nil => exact Nat.zero_le _
  | cons x l =>
    rw [len_join_cons, List.length_cons, Nat.add_mul]
    omega
theorem lineW_len {pg : List Str} (hp : PgOk pg) {s : Sd} (h : s.Ok pg) : (lineW (stepW s)).length ≤ 10 * (13 + 10 * s.wh.length) := by
  obtain ⟨a, b⟩ := stepW_len hp h
  have j := join_len SPC (stepW s)
  have l1 : SPC.length = 1 := by decide
  rw [l1] at j
  have := sum_le b
  unfold lineW
  omega
end Lr
set_option Elab.async false
set_option linter.all false
set_option maxRecDepth 100000
set_option maxHeartbeats 4000000
namespace Lr
open PySem PySem.Spec PyProof.Rows L2 TL
local macro_rules | `(tactic| walk_at "ne") => `(tactic| (first | assumption | (refine ne_sym ?_; assumption) | (exact ne_of_none (by assumption) (by assumption)) | (exact ne_sym (ne_of_none (by assumption) (by assumption)))))
local macro_rules | `(tactic| walk_at "h") => `(tactic| (first | assumption | exact upd_same | (refine h_new ?_ (by assumption); walk_at "h") | (refine h_ne (by walk_at "ne") ?_; walk_at "h")))
local macro_rules | `(tactic| walk_at "v1") => `(tactic| (with_reducible first
  | refine i_seq ?_ | refine i_asg ?_ | refine i_ret ?_ | refine i_next ?_ | refine i_drop ?_ | refine i_ifS ?_ | refine i_if ?_ | refine i_and ?_ | refine i_or ?_ | refine i_not ?_ | refine i_test ?_ | refine i_tB ?_ | refine i_bl ?_ | refine i_yes ?_
  | refine i_op ?_ | refine i_un ?_ | refine i_chain ?_ | refine i_andV ?_ | refine i_orV ?_ | refine i_notV ?_ | refine i_cb ?_ | refine i_cons ?_ | refine i_nil ?_ | refine i_bm ?_ | refine i_bm0 ?_ | refine i_c ?_ | refine i_name ?_ | refine i_sub ?_
  | refine i_call ?_ | refine i_lst ?_ | refine i_tup ?_ | refine i_par ?_ | refine i_par2 ?_ | refine i_sl ?_ | refine i_np ?_ | refine i_pt ?_ | refine i_int ?_ | refine i_m0 ?_ | refine i_m1 ?_ | refine i_isS ?_
  | refine i_rI0 ?_ | refine i_inSign ?_ | refine i_notInSign ?_ | refine i_int1 ?_ | refine i_tru ?_ | refine i_isN ?_ | refine i_notN ?_ | refine iteT ?_ | refine iteF ?_ | refine i_brk ?_ | refine i_rt ?_ | refine i_nx ?_ | refine i_bk ?_ | refine i_ct ?_ | refine i_for ?_ | refine i_lc ?_ | refine i_dc ?_ | refine i_iL ?_ | refine i_iT ?_ | refine i_iR1 ?_ | refine i_iR2 ?_ | refine i_iS ?_ | refine i_iE ?_ | refine i_iEK ?_ | refine i_iEQ ?_ | refine i_iZS ?_ | refine i_dget ?_ | refine i_fld ?_ | refine i_sfld ?_ | refine i_dput ?_ | refine i_meth ?_ | refine i_rU ?_ | refine i_cont ?_ | refine i_make ?_))
local macro_rules | `(tactic| walk_at "v2") => `(tactic| (first
  | ((with_reducible refine' i_var ?k1 ?_); (case k1 => exact rfl))
  | ((with_reducible refine' i_eq ?k1 ?_); (case k1 => exact rfl))
  | ((with_reducible refine' i_ne ?k1 ?_); (case k1 => exact rfl))
  | ((with_reducible refine' i_ixL ?k1 ?k2 ?_); (case k1 => walk_at "h"); (case k2 => exact rfl))
  | ((with_reducible refine' i_ixT ?k1 ?k2 ?_); (case k1 => walk_at "h"); (case k2 => exact rfl))
  | ((with_reducible refine' i_lenL ?k1 ?_); (case k1 => walk_at "h"))
  | ((with_reducible refine' i_lenT ?k1 ?_); (case k1 => walk_at "h"))
  | (refine i_wipe (show wipe _ _ = wipe _ _ from rfl) ?_)
  | ((with_reducible refine' i_setL ?k1 ?k2 ?_); (case k1 => walk_at "h"); (case k2 => exact rfl))
  | ((with_reducible refine' i_tyl ?k1 ?_); (case k1 => walk_at "h"))))
local macro_rules | `(tactic| walk_at "v") => `(tactic| repeat (first | walk_at "v1" | walk_at "v2"))

variable {P : Program} {w : World} {K :
      PySem.W.Frag} {mg : Str → Option Value} {base : Heap}
open C8 (InsC call_isC)
abbrev sstep_line : Stmt := top 23
abbrev Nstep_line : List Str := ["step", "words", "at", "triple"]
abbrev Pstep_line : List Str := ["step"]
theorem scstep_line : FnScope Nstep_line Pstep_line (defScope sstep_line) := ⟨rfl, rfl, rfl, by decide +kernel, rfl, by decide +kernel, by decide +kernel⟩
theorem PS.by_ {X : Cx} {st : Stmt} {t' : TS} (h : ∃ t, PS X st t ∧ ∀ D σ H, t' D σ H → t D σ H) : PS X st t' := by
  obtain ⟨t, pt, imp⟩ := h
  exact ⟨fun pins s σ H D I z => pt.run pins s σ H D I (imp D σ H z)⟩
theorem stepD_eq (s : Sd) : stepD s = .tuple (.str (hdW s.k) :: ((mids s.k).map lotT ++ [whenD s.wh])) := by
  unfold stepD
  cases s.k <;> rfl
/-- a lot as it lies in the heap -/
def TupS (H : Hp) (v : V) (l : List Str) : Prop := ∃ a, v = .ref a ∧ H a = some (.tup (l.map V.str))
theorem lot_tup {S : List Addr} {H : Hp} {l : List Str} {v : V} (h : Dt S H (lotT l) v) : TupS H v l := by
  have h' := h
  unfold lotT Dt at h'
  obtain ⟨a, xs, e, n, h1, h2⟩ := h'
  cases e
  obtain rfl := DtAll.of_strs h2
  exact ⟨a, rfl, h1⟩
/-- a step as it lies in the heap -/
def StepAt (S : List Addr) (H : Hp) (s : Sd) (p : Addr) : Prop := ∃ (xs : List V) (aw : Addr) (ts : List V), H p = some (.tup (V.str (hdW s.k) :: (xs ++ [.ref aw]))) ∧ xs.length = (mids s.k).length ∧ (∀ (i : Nat) (l : List Str), (mids s.k)[i]? = some l → ∃ v : V, xs[i]? = some v ∧ TupS H v l) ∧
  H aw = some (.tup ts) ∧ DtAll S H (s.wh.map triD) ts
theorem step_tup {S : List Addr} {H : Hp} {s : Sd} {v : V} (h : Dt S H (stepD s) v) : ∃ p, v = .ref p ∧ StepAt S H s p := by
  rw [stepD_eq] at h
  have h' := h
  unfold Dt at h'
  obtain ⟨p, xs, rfl, n, hp, da⟩ := h'
  obtain ⟨x0, xr, rfl, z0, da⟩ := DtAll.cons_iff.mp da
  obtain ⟨ym, yw, rfl, dm, da⟩ := DtAll.app_inv da
  obtain ⟨vw, yn, rfl, zw, da⟩ := DtAll.cons_iff.mp da
  obtain rfl := DtAll.nil_iff.mp da
  have e0 : x0 = .str (hdW s.k) := by unfold Dt at z0; exact z0
  subst e0
  unfold whenD Dt at zw
  obtain ⟨aw, ts, rfl, _, hw, dw⟩ := zw
  refine ⟨p, rfl, ym, aw, ts, hp, ?_, fun i l hl => ?_, hw, dw⟩
  · have := dm.length; simpa using this
  · have hm : ((mids s.k).map lotT)[i]? = some (lotT l) := by rw [List.getElem?_map, hl]; rfl
    obtain ⟨v, hv, z⟩ := dm.get hm
    exact ⟨v, hv, lot_tup z⟩
theorem TupS.same {H H' : Hp} {v : V} {l : List Str} (h : TupS H v l) (k : Same H H') : TupS H' v l := by
  obtain ⟨a, e, h1⟩ := h
  exact ⟨a, e, k _ _ h1⟩
theorem same_none {H H' : Hp} {a : Addr} (s : Same H H') (h : H' a = none) : H a = none := by
  cases e : H a with
  | none => rfl
  | some o => rw [s _ _ e] at h; cases h
def stepPre (s : Sd) (i : Nat) : List Str := kdW s.k ++ (sQ :: whenW (s.wh.take i))
theorem stepPre_all (s : Sd) : stepPre s s.wh.length = stepW s := by unfold stepPre stepW; rw [List.take_length]
theorem small_sz {n : Nat} (h : n ≤ 100000) : n ≤ sizeLine := Nat.le_trans h (by decide)
theorem small_lt {n : Nat} (h : n ≤ 100000) : n < sizeLine := Nat.lt_of_le_of_lt h (by decide)
theorem i_catN {H : Hp} {Q : VK} {q b : Addr} {ws l : List V} (hq : H q = some (.lst ws)) (hb : H b = some (.lst l)) (z : ws.length + l.length ≤ 100000) (k : ∀ q' H', H q' = none → Same H H' → H' q' = some (.lst (ws ++ l)) → Q (.ref q') H') : rCat (.ref q) (.ref b) H Q :=
  i_cat hq hb (small_sz z) (fun q' hq' => k q' _ hq' ((Same.refl H).new hq') upd_same)
theorem i_catL {K : PySem.W.Frag} {H : Hp} {Q : VK} {q a : Addr} {ws l : List V} (ha : H a = some (.tup l)) (hq : H q = some (.lst ws)) (z : ws.length + l.length ≤ 100000) (k : ∀ q' H', H q' = none → Same H H' → H' q' = some (.lst (ws ++ l)) → Q (.ref q') H') :
    rList K [V.ref a] H fun y H2 => rCat (.ref q) y H2 Q :=
  i_listT ha (fun b hb => i_catN (h_new hq hb) upd_same z (fun q' H' h1 s1 h2 => k q' H' (same_none ((Same.refl H).new hb) h1) (((Same.refl H).new hb).trans s1) h2))
theorem i_catG {H : Hp} {Q : VK} {q : Addr} {ws l : List V} (hq : H q = some (.lst ws)) (z : ws.length + l.length ≤ 100000) (k : ∀ q' H', H q' = none → Same H H' → H' q' = some (.lst (ws ++ l)) → Q (.ref q') H') :
    l.length ≤ sizeLine ∧ ∀ b, H b = none → rCat (.ref q) (.ref b) (upd H b (.lst l)) Q :=
  ⟨small_sz (by omega), fun b hb => i_catN (h_new hq hb) upd_same z (fun q' H' h1 s1 h2 => k q' H' (same_none ((Same.refl H).new hb) h1) (((Same.refl H).new hb).trans s1) h2)⟩
theorem stepPre_len {pg : List Str} (hp : PgOk pg) {s : Sd} (h : s.Ok pg) (i : Nat) : (stepPre s i).length ≤ 13 + 10 * s.wh.length ∧ ∀ x ∈ stepPre s i, x.length ≤ 9 := by
  have o : Sd.Ok pg ⟨s.k, s.wh.take i⟩ := ⟨h.k, fun t ht => h.w t (List.mem_of_mem_take ht)⟩
  have := stepW_len hp o
  refine ⟨Nat.le_trans this.1 ?_, this.2⟩
  show 13 + 10 * (s.wh.take i).length ≤ _
  rw [List.length_take]; omega
theorem i_iteCat {c : Bool} {x : V} {σ : L2.St} {H : Hp} {R : VK} {q : Addr} {ws : List V} (hq : H q = some (.lst ws)) (z : ws.length + 1 ≤ 100000) (k : ∀ q' H', H q' = none → Same H H' → H' q' = some (.lst (ws ++ (if c = true then [x] else []))) → R (.ref q') H') :
    if c = true then tLst (tCons (tC x) tNil) σ H fun y H2 => rCat (.ref q) y H2 R else tLst tNil σ H fun y H2 => rCat (.ref q) y H2 R := by
  cases c with
  | true => exact i_catG (l := [x]) hq z k
  | false => exact i_catG (l := []) hq (by simp; omega) k
/-- what the `if` over the kind makes of the words -/
def hdT (p wp : Addr) (rest : L2.St) (s : Sd) (H0 : Hp) : TS := fun D σ H => σ = some (.ref p) :: some (.ref wp) :: rest ∧ H = upd H0 wp (.lst [.str (hdW s.k)]) ∧ H0 wp = none ∧
  ∀ wq H', H0 wq = none → Same H0 H' → H' wq = some (.lst ((kdW s.k).map V.str)) → D.nx (some (.ref p) :: some (.ref wq) :: rest) H'
def spStepLine : Sp := fun vs H Q _ => ∃ (S : List Addr) (s : Sd) (p : Addr) (pg : List Str), vs = [.ref p] ∧ Dt S H (stepD s) (.ref p) ∧ PgOk pg ∧ s.Ok pg ∧ s.wh.length ≤ 100 ∧
  ∀ H', Same H H' → Q (.str (lineW (stepW s) ++ NLN)) H'
theorem ok_stepline (d : Fd K mg "step_line" sstep_line Pstep_line) (dtriple_words : Fd K mg "triple_words" striple_words Ptriple_words) (B : Blt2 K mg) : FnOk P w K mg base CX0 2 d.f d.fd Pstep_line spStepLine := by
  have Gtriple_words : FnOk P w K mg base CX0 1 dtriple_words.f dtriple_words.fd Ptriple_words spTripW := ok_triplewords dtriple_words B
  refine d.F.ok scstep_line (fun vs H Q E h => ?_) (fun cdv A outer s H vs Q E hr h => ?_)
  · obtain ⟨S, s, p, pg, rfl, _⟩ := h
    rfl
  · obtain ⟨S, sd, p, pg, rfl, hd, po, ok, lw, k⟩ := h
    obtain ⟨p', e', ⟨xs, aw, ts, hp, lxs, hm, haw, dts⟩⟩ := step_tup hd
    cases e'
    have pw : ∀ {H'}, Same H H' → ∃ xs, H' p = some (.tup xs) ∧ True := fun s => ⟨_, s _ _ hp, trivial⟩
    refine ⟨_, (pss_cons (ps_set (i := 1) scstep_line.nd rfl (by first | exact Or.inl rfl | exact Or.inr rfl) (pe_lst (pa_cons (pe_ix (x_tup K) (pv 0) pe_int (fun _ _ => rfl)) pa_nil)))
      (pss_cons (PS.by_ (t' := fun D σ H1 => ∃ wp, hdT p wp [none, none] sd H D σ H1) ⟨_, (ps_if (pt_cmpR op_eq (pe_ix (x_tup K) (pv 0) pe_int (fun _ _ => rfl)) pe_str (nomark _)) (pss_one (ps_set (i := 1) scstep_line.nd rfl (by first | exact Or.inl rfl | exact Or.inr rfl) (pe_op op_cat (pe_op op_cat (pe_op op_cat (pe_op op_cat (pe_op op_cat (pv 1) (pe_callTy (c_list K) (by rfl) B.list (by decide +kernel) (pa_cons (pe_ix (x_tup K) (pv 0) pe_int (fun _ _ => rfl)) pa_nil))) (pe_lst (pa_cons pe_str pa_nil))) (pe_callTy (c_list K) (by rfl) B.list (by decide +kernel) (pa_cons (pe_ix (x_tup K) (pv 0) pe_int (fun _ _ => rfl)) pa_nil))) (pe_lst (pa_cons pe_str pa_nil))) (pe_callTy (c_list K) (by rfl) B.list (by decide +kernel) (pa_cons (pe_ix (x_tup K) (pv 0) pe_int (fun _ _ => rfl)) pa_nil))))) (pss_one (ps_if (pt_cmpR op_eq (pe_ix (x_tup K) (pv 0) pe_int (fun _ _ => rfl)) pe_str (nomark _)) (pss_one (ps_set (i := 1) scstep_line.nd rfl (by first | exact Or.inl rfl | exact Or.inr rfl) (pe_op op_cat (pv 1) (pe_callTy (c_list K) (by rfl) B.list (by decide +kernel) (pa_cons (pe_ix (x_tup K) (pv 0) pe_int (fun _ _ => rfl)) pa_nil))))) pss_nil))), by
          rintro D σ H1 ⟨wp, rfl, rfl, hw, q⟩
          have s0 : Same H (upd H wp (.lst [.str (hdW sd.k)])) := (Same.refl H).new hw
          generalize eH1 : upd H wp (.lst [.str (hdW sd.k)]) = H1 at s0 ⊢
          have hw1 : H1 wp = some (.lst [.str (hdW sd.k)]) := by rw [← eH1]; exact upd_same
          walk_at "v"
          refine i_ixT (s0 _ _ hp) (atI_nat (j := 0) rfl) ?_
          walk_at "v"
          cases ek : sd.k with
          | do_ r w v =>
            rw [ek] at hp hm hw1
            obtain ⟨v1, e1, a1, rfl, ha1⟩ := hm 0 r rfl
            obtain ⟨v2, e2, a2, rfl, ha2⟩ := hm 1 w rfl
            obtain ⟨v3, e3, a3, rfl, ha3⟩ := hm 2 v rfl
            have l1 := sub_len po (by have := ok.k; rw [ek] at this; exact this.1 : r.Sublist pg)
            have l2 := sub_len po (by have := ok.k; rw [ek] at this; exact this.2.1 : w.Sublist pg)
            have l3 := sub_len po (by have := ok.k; rw [ek] at this; exact this.2.2.2.trans this.2.1 : v.Sublist pg)
            have ati : ∀ {n : Nat} {x : V}, xs[n]? = some x → atI (V.str (hdW (.do_ r w v)) :: (xs ++ [.ref aw])) ((n + 1 : Nat) : Int) = some x := fun {n x} e => atI_nat (j := n + 1) (by
              rw [List.getElem?_cons_succ, List.getElem?_append_left (List.getElem?_eq_some_iff.mp e).1]; exact e)
            refine iteT ?_
            walk_at "v"
            refine i_ixT (s0 _ _ hp) (ati e1) ?_
            walk_at "v"
            refine i_catL (s0 _ _ ha1) hw1 (by simp; omega) (fun q2 H2 n2 s2 h2 => ?_)
            have s02 := s0.trans s2
            walk_at "v"
            refine i_catG h2 (by simp; omega) (fun q3 H3 n3 s3 h3 => ?_)
            have s03 := s02.trans s3
            walk_at "v"
            refine i_ixT (s03 _ _ hp) (ati e2) ?_
            walk_at "v"
            refine i_catL (s03 _ _ ha2) h3 (by simp; omega) (fun q4 H4 n4 s4 h4 => ?_)
            have s04 := s03.trans s4
            walk_at "v"
            refine i_catG h4 (by simp; omega) (fun q5 H5 n5 s5 h5 => ?_)
            have s05 := s04.trans s5
            walk_at "v"
            refine i_ixT (s05 _ _ hp) (ati e3) ?_
            walk_at "v"
            refine i_catL (s05 _ _ ha3) h5 (by simp; omega) (fun q6 H6 n6 s6 h6 => ?_)
            have s06 := s05.trans s6
            refine q q6 H6 (same_none s05 n6) s06 ?_
            rw [h6, ek]
            simp [kdW, hdW]
          | out l =>
            rw [ek] at hp hm hw1
            obtain ⟨v1, e1, a1, rfl, ha1⟩ := hm 0 l rfl
            have l1 := sub_len po (by have := ok.k; rw [ek] at this; exact this.1 : l.Sublist pg)
            have ati : ∀ {n : Nat} {x : V}, xs[n]? = some x → atI (V.str (hdW (.out l)) :: (xs ++ [.ref aw])) ((n + 1 : Nat) : Int) = some x := fun {n x} e => atI_nat (j := n + 1) (by
              rw [List.getElem?_cons_succ, List.getElem?_append_left (List.getElem?_eq_some_iff.mp e).1]; exact e)
            refine ifd (fun h => absurd (V.str.inj h) (show ("out" : Str) ≠ "do" by decide)) (fun _ => ?_)
            walk_at "v"
            refine i_ixT (s0 _ _ hp) (atI_nat (j := 0) rfl) ?_
            walk_at "v"
            refine iteT ?_
            walk_at "v"
            refine i_ixT (s0 _ _ hp) (ati e1) ?_
            walk_at "v"
            refine i_catL (s0 _ _ ha1) hw1 (by simp; omega) (fun q2 H2 n2 s2 h2 => ?_)
            have s02 := s0.trans s2
            refine q q2 H2 (same_none s0 n2) s02 ?_
            rw [h2, ek]
            simp [kdW, hdW]
          | alone x =>
            rw [ek] at hp hm hw1
            have nx : x ≠ ("do" : Str) ∧ x ≠ ("out" : Str) := by
              have := ok.k; rw [ek] at this
              rcases this with rfl | rfl | rfl <;> exact ⟨by decide, by decide⟩
            refine ifd (fun h => absurd (V.str.inj h) nx.1) (fun _ => ?_)
            walk_at "v"
            refine i_ixT (s0 _ _ hp) (atI_nat (j := 0) rfl) ?_
            walk_at "v"
            refine ifd (fun h => absurd (V.str.inj h) nx.2) (fun _ => ?_)
            refine q wp H1 hw s0 ?_
            rw [hw1, ek]
            rfl⟩)
      (pss_cons (ps_expr (e_bm K PySem.F.plainAttrs_list PySem.F.slot_list_append PySem.F.type_list_append mt_append (pv 1) (pa_cons pe_str pa_nil)))
      (pss_cons (ps_for PassesOwn.never rfl (w_enumQ K (by rfl) B.enumerate (pa_cons (pe_ix (x_tup K) (pv 0) (pe_un un_neg pe_int) (fun _ _ => rfl)) pa_nil)) (g_tup K (n := 2) rfl (pgs_cons (pg_name (i := 2) scstep_line.nd rfl (by first | exact Or.inl rfl | exact Or.inr rfl)) (pgs_cons (pg_name (i := 3) scstep_line.nd rfl (by first | exact Or.inl rfl | exact Or.inr rfl)) pgs_nil)))
      (pss_one (ps_set (i := 1) scstep_line.nd rfl (by first | exact Or.inl rfl | exact Or.inr rfl) (pe_op op_cat (pe_op op_cat (pv 1) (pe_ifExp (pt_cmpR op_gt (pv 2) pe_int (nomark _)) (pe_lst (pa_cons pe_str pa_nil)) (pe_lst pa_nil))) (pe_call Gtriple_words (hr.mono (by decide)) (by rfl) dtriple_words.g dtriple_words.F.kp dtriple_words.b .nil pass0 (pa_cons (pv 3) pa_nil))))))
      (pss_one (ps_ret (pe_op o_addS (pe_m1 PySem.F.slot_str_join PySem.F.type_str_join (m_join K) pe_str (pv 1)) pe_str))))))), ?_⟩
    walk_at "v"
    refine i_ixT hp (atI_nat (j := 0) rfl) ?_
    walk_at "v"
    refine ⟨show 1 ≤ sizeLine by decide, fun wp hwp => ?_⟩
    refine ⟨wp, rfl, rfl, hwp, fun wq H1 hwq s1 hq1 => ?_⟩
    walk_at "v"
    obtain ⟨lk, xk⟩ := kdW_len po ok.k
    refine i_app hq1 (by rw [List.length_map]; exact small_lt (by omega)) ?_
    have hq2 : (upd H1 wq (.lst ((kdW sd.k).map V.str ++ [.str sQ]))) wq = some (.lst ((stepPre sd 0).map V.str)) := by rw [upd_same]; simp [stepPre, whenW]
    have s2 : Same H (upd H1 wq (.lst ((kdW sd.k).map V.str ++ [.str sQ]))) := fun a o e => by rw [upd_ne (ne_of_none e hwq)]; exact s1 _ _ e
    generalize upd H1 wq (.lst ((kdW sd.k).map V.str ++ [.str sQ])) = H2 at hq2 s2
    walk_at "v"
    refine i_ixT (s2 _ _ hp) (by rw [← List.cons_append]; exact atI_last _ _) ?_
    walk_at "v"
    refine ⟨aw, ts, _, rfl, .inr rfl, s2 _ _ haw, fun J wk => ?_⟩
    have lts : ts.length = sd.wh.length := by simpa using dts.length
    refine for_by wk ⟨fun i σ H' => (∃ wq v2 v3, σ = [some (.ref p), some (.ref wq), v2, v3] ∧ H' wq = some (.lst ((stepPre sd i).map V.str))) ∧ Same H2 H', ?_, fun i σ H' _ ⟨_, z⟩ => z _ _ (s2 _ _ haw), ?_, ?_⟩
    · exact ⟨⟨wq, _, _, rfl, hq2⟩, Same.refl _⟩
    · rintro i x σ H3 H4 hi ⟨⟨wq, v2, v3, rfl, hq3⟩, s3⟩ ⟨T, y0, y, rfl, hT, rfl, e0, hy⟩
      obtain rfl : y0 = .int ((0 : Int) + (i : Nat)) := (Option.some.inj e0).symm
      obtain ⟨td, gt, zt⟩ := dts.get' hy
      rw [List.getElem?_map] at gt
      obtain ⟨t, gti, rfl⟩ := Option.map_eq_some_iff.mp gt
      have tok := ok.w t (List.mem_of_getElem? gti)
      refine g_two upd_same ?_
      have s4 : Same H3 (upd H3 T (.tup [.int ((0 : Int) + (i : Nat)), y])) := (Same.refl _).new hT
      generalize upd H3 T (.tup [.int ((0 : Int) + (i : Nat)), y]) = H4 at s4
      have hq4 := s4 _ _ hq3
      have sl := (stepPre_len po ok i).1
      have s24 := (s2.trans s3).trans s4
      walk_at "v"
      refine i_iteCat hq4 (by rw [List.length_map]; omega) (fun q5 H5 n5 s5 h5 => ?_)
      have s25 := s24.trans s5
      walk_at "v"
      obtain ⟨lt, _⟩ := triW_len po tok
      refine ⟨S, triD t, y, t, rfl, zt.same s25, rfl, ?_, ?_, ?_, ?_, fun q6 H6 n6 s6 => ?_⟩
      · have := sub_len po tok.c; omega
      · have := sub_len po tok.f; omega
      · have := sub_len po tok.s; omega
      · intro x hx
        simp only [List.mem_append] at hx
        rcases hx with hx | hx | hx
        · have := nameB_le (sub_name po tok.c x hx); omega
        · have := nameB_le (sub_name po tok.f x hx); omega
        · have := nameB_le (sub_name po tok.s x hx); omega
      · obtain ⟨a6, z6, h6, _⟩ := lst_at (n6 [] trk_nil)
        cases z6
        walk_at "v"
        refine i_catN (s6 _ _ h5) h6 ?_ (fun q7 H7 n7 s7 h7 => ?_)
        · simp only [List.length_append, List.length_map]
          split <;> simp only [List.length_cons, List.length_nil] <;> omega
        refine ⟨⟨q7, _, _, rfl, ?_⟩, s3.trans (s4.trans (s5.trans (s6.trans s7)))⟩
        rw [h7]
        have e1 : (decide ((0 : Int) < 0 + (i : Nat)) = true) = (0 < i) := by simp
        have e2 : stepPre sd (i + 1) = stepPre sd i ++ ((if 0 < i then [sSL] else []) ++ triW t) := by
          unfold stepPre; rw [whenW_take gti, List.append_assoc, List.cons_append]
        rw [e2]
        simp only [e1, List.map_append, List.append_assoc]
        by_cases h0 : 0 < i
        · simp [h0]
        · simp [h0]
    · rintro σ H3 ⟨⟨wq, v2, v3, rfl, hq3⟩, s3⟩
      rw [lts, stepPre_all] at hq3
      obtain ⟨ls, xs⟩ := stepW_len po ok
      have hj := sum_le xs
      have hl := lineW_len po ok
      have l1 : SPC.length = 1 := by decide
      walk_at "v"
      refine i_join hq3 (by show _ + _ * SPC.length ≤ _; rw [l1]; omega) ?_
      refine i_adds ?_ (k _ (s2.trans s3))
      exact small_sz (Nat.le_trans (Nat.add_le_add hl (show NLN.length ≤ 1 by decide)) (by omega))
end Lr
set_option Elab.async false
set_option linter.all false
set_option maxRecDepth 100000
set_option maxHeartbeats 4000000
/-! R6: texts of rules written and read back. -/
namespace Lr
open PySem PySem.Spec PyProof.Rows L2 TL
theorem fre_join (s : Nat) (hs : s ≠ 32) : ∀ l : List (List Nat), (∀ w ∈ l, s ∉ w) → s ∉ joinL [32] l := by
  intro l
  induction l with
  | nil => intro _; simp [joinL]
  | cons a r ih =>
    intro hl
    cases r with
    | nil => exact hl a (by simp)
    | cons b r =>
      show s ∉ a ++ ([32] ++ joinL [32] (b :: r))
      intro m
      rcases List.mem_append.mp m with m | m
      · exact hl a (by simp) m
      · rcases List.mem_append.mp m with m | m
        · simp at m; omega
        · exact ih (fun w hw => hl w (by simp [hw])) m
theorem tl_lineW (ws : List Str) : tl (lineW ws) = joinL [32] (ws.map tl) := by
  unfold lineW; rw [join_eq, tl_join, tl_spc]
theorem line_freeW {ws : List Str} (h : ∀ w ∈ ws, 10 ∉ tl w) : 10 ∉ tl (lineW ws) := by
  rw [tl_lineW]
  refine fre_join 10 (by decide) _ (fun w hw => ?_)
  obtain ⟨x, hx, rfl⟩ := List.mem_map.mp hw
  exact h x hx
theorem words_lineW {ws : List Str} (ne : ws ≠ []) (h : ∀ w ∈ ws, 32 ∉ tl w) : words (lineW ws) = ws :=
  split_of tl_spc (by decide) ne h rfl
/-- no sign of a word is the blank or the line's end -/
def FreeW (x : Str) : Prop := 32 ∉ tl x ∧ 10 ∉ tl x
theorem name_freeW {x : Str} (h : nameB x = true) : FreeW x := ⟨name_free h (by decide), name_free h (by decide)⟩
theorem tl_of {x : Str} {l : List Nat} (e : tl x = l) (h1 : 32 ∉ l) (h2 : 10 ∉ l) : FreeW x := by rw [← e] at h1 h2; exact ⟨h1, h2⟩
theorem free_q : FreeW sQ := tl_of (l := [63]) (by decide +kernel) (by decide) (by decide)
theorem free_gt : FreeW sGT := tl_of (l := [62]) (by decide +kernel) (by decide) (by decide)
theorem free_co : FreeW sCO := tl_of (l := [58]) (by decide +kernel) (by decide) (by decide)
theorem free_sl : FreeW sSL := tl_of (l := [47]) (by decide +kernel) (by decide) (by decide)
theorem free_mi : FreeW sMI := tl_of (l := [45]) (by decide +kernel) (by decide) (by decide)
theorem free_do : FreeW "do" := tl_of (l := [100, 111]) (by decide +kernel) (by decide) (by decide)
theorem free_out : FreeW "out" := tl_of (l := [111, 117, 116]) (by decide +kernel) (by decide) (by decide)
theorem free_force : FreeW "force" := tl_of (l := [102, 111, 114, 99, 101]) (by decide +kernel) (by decide) (by decide)
theorem free_mark : FreeW "mark" := tl_of (l := [109, 97, 114, 107]) (by decide +kernel) (by decide) (by decide)
theorem free_cut : FreeW "cut" := tl_of (l := [99, 117, 116]) (by decide +kernel) (by decide) (by decide)
theorem free_pg : FreeW sPG := tl_of (l := [112, 97, 103, 101, 115]) (by decide +kernel) (by decide) (by decide)
theorem free_ch {c : Nat} {x : Str} (h : FreeW x) (h1 : c ≠ 32) (h2 : c ≠ 10) : FreeW (ch c ++ x) := by
  unfold FreeW
  rw [tl_ch]
  refine ⟨fun m => ?_, fun m => ?_⟩
  · rcases List.mem_cons.mp m with e | m
    · exact h1 e.symm
    · exact h.1 m
  · rcases List.mem_cons.mp m with e | m
    · exact h2 e.symm
    · exact h.2 m
theorem triW_free {pg : List Str} (hp : PgOk pg) {t : Tri} (h : t.Ok pg) : ∀ x ∈ triW t, FreeW x := by
  intro x hx
  unfold triW at hx
  split at hx
  · simp at hx; subst hx; exact free_mi
  · simp only [triL, withS, List.mem_append, List.mem_map] at hx
    rcases hx with ⟨y, hy, rfl⟩ | ⟨y, hy, rfl⟩ | ⟨y, hy, rfl⟩
    · exact free_ch (name_freeW (sub_name hp h.c y hy)) (by decide) (by decide)
    · exact free_ch (name_freeW (sub_name hp h.f y hy)) (by decide) (by decide)
    · exact free_ch (name_freeW (sub_name hp h.s y hy)) (by decide) (by decide)
theorem whenW_free {pg : List Str} (hp : PgOk pg) : ∀ {ts : List Tri}, (∀ t ∈ ts, t.Ok pg) → ∀ x ∈ whenW ts, FreeW x := by
  intro ts h x hx
  cases ts with
  | nil => simp [whenW] at hx
  | cons t ts =>
    simp only [whenW, List.mem_append, List.mem_flatten, List.mem_map] at hx
    rcases hx with hx | ⟨l, ⟨u, hu, rfl⟩, hx⟩
    · exact triW_free hp (h t (by simp)) x hx
    · rcases List.mem_cons.mp hx with rfl | hx
      · exact free_sl
      · exact triW_free hp (h u (by simp [hu])) x hx
theorem kdW_free {pg : List Str} (hp : PgOk pg) {k : Kd} (h : k.Ok pg) : ∀ x ∈ kdW k, FreeW x := by
  have nm : ∀ {l : List Str}, l.Sublist pg → ∀ x ∈ l, FreeW x := fun s x hx => name_freeW (sub_name hp s x hx)
  intro x hx
  cases k with
  | do_ r w v =>
    simp only [kdW, List.mem_cons, List.mem_append] at hx
    rcases hx with rfl | hx | rfl | hx | rfl | hx
    · exact free_do
    · exact nm h.1 x hx
    · exact free_gt
    · exact nm h.2.1 x hx
    · exact free_co
    · exact nm (h.2.2.2.trans h.2.1) x hx
  | out l =>
    simp only [kdW, List.mem_cons] at hx
    rcases hx with rfl | hx
    · exact free_out
    · exact nm h.1 x hx
  | alone y =>
    simp only [kdW, List.mem_cons, List.not_mem_nil, or_false] at hx
    subst hx
    rcases h with rfl | rfl | rfl
    · exact free_force
    · exact free_mark
    · exact free_cut
theorem stepW_free {pg : List Str} (hp : PgOk pg) {s : Sd} (h : s.Ok pg) : ∀ x ∈ stepW s, FreeW x := by
  intro x hx
  simp only [stepW, List.mem_append, List.mem_cons] at hx
  rcases hx with hx | rfl | hx
  · exact kdW_free hp h.k x hx
  · exact free_q
  · exact whenW_free hp h.w x hx
theorem stepW_nil (s : Sd) : stepW s ≠ [] := by simp [stepW]
theorem words_step {pg : List Str} (hp : PgOk pg) {s : Sd} (h : s.Ok pg) : words (lineW (stepW s)) = stepW s := words_lineW (stepW_nil s) (fun w hw => (stepW_free hp h w hw).1)
theorem pagesW_free {pg : List Str} (hp : PgOk pg) : ∀ x ∈ sPG :: pg, FreeW x := fun x hx => by
  rcases List.mem_cons.mp
        hx with rfl | hx
  · exact free_pg
  · exact name_freeW (hp.name x hx)
theorem words_pages {pg : List Str} (hp : PgOk pg) : words (lineW (sPG :: pg)) = sPG :: pg := words_lineW (by simp) (fun w hw => (pagesW_free hp w hw).1)
theorem linesR_free {R : RG} (ok : R.Ok) : ∀ l ∈ linesR R, 10 ∉ tl l := by
  intro l hl
  unfold linesR at hl
  rcases List.mem_cons.mp hl with rfl | hl
  · exact line_freeW (fun w hw => (pagesW_free ok.pg w hw).2)
  · obtain ⟨s, hs, rfl⟩ := List.mem_map.mp hl
    exact line_freeW (fun w hw => (stepW_free ok.pg (ok.st s hs) w hw).2)
theorem lines_text {ls : List Str} (h : ∀ l ∈ ls, 10 ∉ tl l) : lines (Txt.join ("" : Str) (ls.map fun l => l ++ NLN)) = ls ++ [("" : Str)] := by
  refine split_of tl_nln (by decide) (by simp) (fun p hp => ?_) (text_lines ls).symm
  rcases List.mem_append.mp
        hp with hp | hp
  · exact h p hp
  · simp at hp; subst hp
    have : tl ("" : Str) = [] := by decide +kernel
    rw [this]; simp
theorem lines_textR {R : RG} (ok : R.Ok) : lines (textR R) = linesR R ++ [("" : Str)] := lines_text (linesR_free ok)
theorem fault_textR {R : RG} (ok : R.Ok) : faultR (textR R) = none := by
  rw [faultR_of (lines_textR ok)]
  unfold linesR faultL
  simp only [words_pages ok.pg, pagesP_of ok.pg]
  have hs : faultS R.pages (R.steps.map fun s => lineW (stepW s)) 0 = none := faultS_none (fun m y hy => by
    rw [List.getElem?_map] at hy
    obtain ⟨s, hs, rfl⟩ := Option.map_eq_some_iff.mp hy
    have so := ok.st s (List.mem_of_getElem? hs)
    rw [words_step ok.pg so, stepP_of ok.pg so]
    have := (List.getElem?_eq_some_iff.mp hs).1
    have := ok.most
    simp; omega)
  simp only [hs]
  rw [if_pos trivial, if_neg]
  intro e
  have := ok.pos
  have e2 := List.map_eq_nil_iff.mp e
  rw [e2] at this
  simp at this
theorem steps_of {pg : List Str} : ∀ {ls : List Str}, (∀ y ∈ ls, stepP pg (words y) ≠ none) → ∃ ss : List Sd, ls.map (fun x => stepP pg (words x)) = ss.map some
  | [], _ => ⟨[], rfl⟩
  | x :: ls, h => by
    obtain ⟨ss, e⟩ := steps_of (pg := pg) (ls := ls) (fun y hy => h y (by simp [hy]))
    cases e0 : stepP pg (words x) with
    | none => exact absurd e0 (h x (by simp))
    | some r => exact ⟨r :: ss, by simp [e0, e]⟩
theorem line_words (z : Str) : lineW (words z) = z := join_split tl_spc (by decide)
/-- a text without fault is the text of a rule -/
theorem text_toldR {z : Str} (hf : faultR z = none) : ∃ R : RG, R.Ok ∧ lines z = linesR R ++ [("" : Str)] ∧ textR R = z ∧ (∀ (i : Nat) (s : Sd), R.steps[i]? = some s → ∃ l, (linesR R)[i + 1]? = some l ∧ stepP R.pages (words l) = some s) := by
  have hne : lines z ≠ [] := split_ne tl_nln (by decide)
  obtain ⟨ls, l, el⟩ : ∃ ls l, lines z = ls ++ [l] := ⟨(lines z).dropLast, (lines z).getLast hne, (List.dropLast_concat_getLast hne).symm⟩
  rw [faultR_of el] at hf
  cases ls with
  | nil =>
    simp only [faultL] at hf
    split at hf <;> simp at hf
  | cons x r =>
    simp only [faultL] at hf
    cases ep : pagesP (words x) with
    | none => rw [ep] at hf; cases hf
    | some pg =>
      rw [ep] at hf
      simp only at hf
      cases es : faultS pg r 0 with
      | some i => rw [es] at hf; cases hf
      | none =>
        rw [es] at hf
        simp only at hf
        have el0 : l = ("" : Str) := by
          by_cases h : l = ("" : Str)
          · exact h
          · rw [if_neg h] at hf; cases hf
        rw [if_pos el0] at hf
        have hr : r ≠ [] := fun h => by rw [if_pos h] at hf; cases hf
        subst el0
        obtain ⟨ew, po⟩ := pagesP_some ep
        have no := faultS_no es
        obtain ⟨ss, ers⟩ := steps_of (pg := pg) (ls := r) (fun y hy => by
          obtain ⟨m, hm⟩ := List.mem_iff_getElem?.mp hy
          exact fun h => no m y hm (.inr h))
        have lens : r.length = ss.length := by have := congrArg List.length ers; simpa using this
        have at_ : ∀ (j : Nat) (x : Str) (s : Sd), r[j]? = some x → ss[j]? = some s → stepP pg (words x) = some s := fun j x s h1 h2 => by
          have e1 : (r.map fun x => stepP pg (words x))[j]? = (ss.map some)[j]? := by rw [ers]
          rw [List.getElem?_map, List.getElem?_map, h1, h2] at e1
          exact Option.some.inj e1
        have l8 : ss.length ≤ 8 := by
          rcases Nat.lt_or_ge 8 r.length with h | h
          · have := no 8 r[8] (by simp [h])
            simp at this
          · omega
        have lpos : 1 ≤ ss.length := by
          rw [← lens]
          cases r with
          | nil => exact absurd rfl hr
          | cons a b => simp
        have ok : RG.Ok ⟨pg, ss⟩ := ⟨po, fun s hs => by
          obtain ⟨j, hj⟩ := List.mem_iff_getElem?.mp hs
          have hjl : j < ss.length := (List.getElem?_eq_some_iff.mp hj).1
          exact (stepP_some (at_ j r[j] s (by simp [show j < r.length by omega]) hj)).1, lpos, l8⟩
        have e1 : lineW (sPG :: pg) = x := by rw [← ew]; exact line_words x
        have e2 : (ss.map fun s => lineW (stepW s)) = r := by
          refine List.ext_getElem?
                fun j => ?_
          rw [List.getElem?_map]
          rcases Nat.lt_or_ge j r.length with h | h
          · have h1 : r[j]? = some r[j] := by simp [h]
            have h2 : ss[j]? = some (ss[j]'(by omega)) := by simp
            rw [h2, h1]
            have := (stepP_some (at_ j _ _ h1 h2)).2
            show some (lineW (stepW _)) = _
            rw [this, line_words]
          · simp [show r.length ≤ j by omega, show ss.length ≤ j by omega]
        have eL : linesR ⟨pg, ss⟩ = x :: r := by unfold linesR; rw [e1, e2]
        refine ⟨⟨pg, ss⟩, ok, by rw [eL]; exact el, ?_, fun i s hi => ?_⟩
        · unfold textR
          rw [eL, text_lines]
          have : (x :: r) ++ [("" : Str)] = lines z := el.symm
          rw [this]
          exact join_split tl_nln (by decide)
        · have hil := (List.getElem?_eq_some_iff.mp hi).1
          refine ⟨r[i]'(by show i < r.length; rw [lens]; exact hil), by rw [eL]; simp, at_ i _ s (by simp) hi⟩
end Lr
set_option Elab.async false
set_option linter.all false
set_option maxRecDepth 100000
set_option maxHeartbeats 4000000
/-! Vx: own exceptions with one field, raised. -/
namespace Lr
open PySem PySem.Spec PyProof.Rows L2 TL
variable {P : Program} {w : World} {K :
      PySem.W.Frag} {mg : Str → Option Value} {base : Heap}
structure ExB (K : PySem.W.Frag) (mg : Str → Option Value) (x fld qual : Str) (st : Stmt) (ps : List Str) where
  C : Addr
  f : Addr
  fd : FuncData
  T : OexC K C
  g : mg x = some (.ref C)
  iC : PySem.W.findIn K (.ref C) "__init__" = some (some (.ref f))
  tI : PySem.W.typeIn K (.ref f) = some (.type "function")
  F : Fun K "__init__" qual st f fd
  b : Binds K fd ps []
  no : PySem.W.findIn K (.ref C) fld = some none
  xf : XfC K C
def spExInit (C : Addr) (fld : Str) : Sp := fun vs H Q _ => ∃ (a : Addr) (y : V), vs = [.ref a, y] ∧ H a = some (exo a C none) ∧ ∀ dx, H dx = none → dx ≠ a → Q .non (upd (upd H dx (exd dx [(fld, y)])) a (exo a C (some dx)))
theorem i_raise {σ : L2.St} {H : Hp} {C : Addr} {fld : Str} {ta : TA} {W : XK} {y : V} {H1 : Hp} (h : ta σ H fun vs H2 => vs = [y] ∧ H2 = H1) (mono : ∀ (R R' : List V → Hp → Prop), (∀ vs H, R vs H → R' vs H) → ta σ H R → ta σ H R')
    (q : ∀ d, H1 d = none → W (.ref C) (some d) (upd H1 d (.xd [(fld, y)]))) : tMkO C (spExInit C fld) [] ta σ H W := by
  refine mono _ _ (fun vs H2 z => ?_) h
  obtain ⟨rfl, rfl⟩ := z
  refine ⟨by simp, fun a ha => ⟨a, y, rfl, upd_same, fun dx hdx dne => ?_⟩⟩
  have hdx' : H2 dx = none := by rw [upd_ne dne] at hdx; exact hdx
  refine ⟨rfl, dx, [(fld, y)], upd_same, by rw [upd_ne dne]; exact upd_same, hdx', ?_⟩
  have e : upd (del (upd (upd (upd H2 a (exo a C none)) dx (exd dx [(fld, y)])) a (exo a C (some dx))) a) dx (.xd [(fld, y)]) = upd H2 dx (.xd [(fld, y)]) := by
    funext b
    by_cases h1 : b = dx
    · subst h1; rw [upd_same, upd_same]
    · rw [upd_ne h1, upd_ne h1]
      by_cases h2 : b = a
      · subst h2; rw [del_same, ha]
      · rw [del_ne h2, upd_ne h2, upd_ne h1, upd_ne h2]
  rw [e]
  exact q dx hdx'
end Lr
set_option Elab.async false
set_option linter.all false
set_option maxRecDepth 100000
set_option maxHeartbeats 4000000
namespace Lr
open PySem PySem.Spec PyProof.Rows L2 TL
local macro_rules | `(tactic| walk_at "ne") => `(tactic| (first | assumption | (refine ne_sym ?_; assumption) | (exact ne_of_none (by assumption) (by assumption)) | (exact ne_sym (ne_of_none (by assumption) (by assumption)))))
local macro_rules | `(tactic| walk_at "h") => `(tactic| (first | assumption | exact upd_same | (refine h_new ?_ (by assumption); walk_at "h") | (refine h_ne (by walk_at "ne") ?_; walk_at "h")))
local macro_rules | `(tactic| walk_at "v1") => `(tactic| (with_reducible first
  | refine i_seq ?_ | refine i_asg ?_ | refine i_ret ?_ | refine i_next ?_ | refine i_drop ?_ | refine i_ifS ?_ | refine i_if ?_ | refine i_and ?_ | refine i_or ?_ | refine i_not ?_ | refine i_test ?_ | refine i_tB ?_ | refine i_bl ?_ | refine i_yes ?_
  | refine i_op ?_ | refine i_un ?_ | refine i_chain ?_ | refine i_andV ?_ | refine i_orV ?_ | refine i_notV ?_ | refine i_cb ?_ | refine i_cons ?_ | refine i_nil ?_ | refine i_bm ?_ | refine i_bm0 ?_ | refine i_c ?_ | refine i_name ?_ | refine i_sub ?_
  | refine i_call ?_ | refine i_lst ?_ | refine i_tup ?_ | refine i_par ?_ | refine i_par2 ?_ | refine i_sl ?_ | refine i_np ?_ | refine i_pt ?_ | refine i_int ?_ | refine i_m0 ?_ | refine i_m1 ?_ | refine i_isS ?_
  | refine i_rI0 ?_ | refine i_inSign ?_ | refine i_notInSign ?_ | refine i_int1 ?_ | refine i_tru ?_ | refine i_isN ?_ | refine i_notN ?_ | refine iteT ?_ | refine iteF ?_ | refine i_brk ?_ | refine i_rt ?_ | refine i_nx ?_ | refine i_bk ?_ | refine i_ct ?_ | refine i_for ?_ | refine i_lc ?_ | refine i_dc ?_ | refine i_iL ?_ | refine i_iT ?_ | refine i_iR1 ?_ | refine i_iR2 ?_ | refine i_iS ?_ | refine i_iE ?_ | refine i_iEK ?_ | refine i_iEQ ?_ | refine i_iZS ?_ | refine i_dget ?_ | refine i_fld ?_ | refine i_sfld ?_ | refine i_dput ?_ | refine i_meth ?_ | refine i_rU ?_ | refine i_cont ?_ | refine i_make ?_))
local macro_rules | `(tactic| walk_at "v2") => `(tactic| (first
  | ((with_reducible refine' i_var ?k1 ?_); (case k1 => exact rfl))
  | ((with_reducible refine' i_eq ?k1 ?_); (case k1 => exact rfl))
  | ((with_reducible refine' i_ne ?k1 ?_); (case k1 => exact rfl))
  | ((with_reducible refine' i_ixL ?k1 ?k2 ?_); (case k1 => walk_at "h"); (case k2 => exact rfl))
  | ((with_reducible refine' i_ixT ?k1 ?k2 ?_); (case k1 => walk_at "h"); (case k2 => exact rfl))
  | ((with_reducible refine' i_lenL ?k1 ?_); (case k1 => walk_at "h"))
  | ((with_reducible refine' i_lenT ?k1 ?_); (case k1 => walk_at "h"))
  | (refine i_wipe (show wipe _ _ = wipe _ _ from rfl) ?_)
  | ((with_reducible refine' i_setL ?k1 ?k2 ?_); (case k1 => walk_at "h"); (case k2 => exact rfl))
  | ((with_reducible refine' i_tyl ?k1 ?_); (case k1 => walk_at "h"))))
local macro_rules | `(tactic| walk_at "v") => `(tactic| repeat (first | walk_at "v1" | walk_at "v2"))

variable {P : Program} {w : World} {K :
      PySem.W.Frag} {mg : Str → Option Value} {base : Heap}
open C8 (InsC call_isC)
abbrev srule_text : Stmt := top 24
abbrev Nrule_text : List Str := ["rule", "step"]
abbrev Prule_text : List Str := ["rule"]
theorem scrule_text : FnScope Nrule_text Prule_text (defScope srule_text) := ⟨rfl, rfl, rfl, by decide +kernel, rfl, by decide +kernel, by decide +kernel⟩
abbrev FdNeedRule (K : PySem.W.Frag) (mg : Str → Option Value) := Fd K mg "need_rule" sneed_rule Pneed_rule
abbrev FdStepLine (K : PySem.W.Frag) (mg : Str → Option Value) := Fd K mg "step_line" sstep_line Pstep_line
theorem app_asc (x y z : Str) : x ++ y ++ z = x ++ (y ++ z) := ext_tl (by rw [tl_append, tl_append, tl_append, tl_append, List.append_assoc])
theorem textR_cons (R : RG) : textR R = (lineW (sPG :: R.pages) ++ NLN) ++ Txt.join ("" : Str) (R.steps.map fun s => lineW (stepW s) ++ NLN) := by
  unfold textR linesR
  rw [join_eq, join_eq]
  refine ext_tl ?_
  rw [join_nil, tl_append, join_nil]
  simp only [List.map_cons, List.flatten_cons, List.map_map]
  rfl
theorem whenW_ge : ∀ (ts : List Tri), ts.length ≤ (whenW ts).length
  | [] => by simp
  | t :: ts => by
    have key : ∀ ts : List Tri, ts.length ≤ ((ts.map fun t => sSL :: triW t).flatten).length := by
      intro ts
      induction ts with
      | nil => simp
      | cons t ts ih => simp only [List.map_cons, List.flatten_cons, List.length_append, List.length_cons]; omega
    have := key ts
    have h1 : 1 ≤ (triW t).length := by
      cases h : triW t with
      | nil => exact absurd h (triW_ne t)
      | cons a b => simp
    simp only [whenW, List.length_append, List.length_cons]; omega
def spRuleText (C : Addr) : Sp := fun vs H Q _ => ∃ (p : Addr) (R : RG), vs = [.ref p] ∧ RuleAt [] C H p R ∧ R.Ok ∧ (∀ s ∈ R.steps, s.wh.length ≤ 100) ∧ ∀ H', Same H H' → Q (.str (textR R)) H'
theorem ok_ruletext {C : Addr} (cRule : RuleCls K mg C) (iRule : InsC K C) (d : Fd K mg "rule_text" srule_text Prule_text) (dneed_rule : FdNeedRule K mg) (dstep_line : FdStepLine K mg) (dtriple_words : FdTripW K mg) (B : Blt2 K mg) : FnOk P w K mg base CX0 3 d.f d.fd Prule_text (spRuleText C) := by
  have Gneed_rule : FnOk P w K mg base CX0 1 dneed_rule.f dneed_rule.fd Pneed_rule (spNeedRule C) := ok_needrule cRule iRule dneed_rule B
  have Gstep_line : FnOk P w K mg base CX0 2 dstep_line.f dstep_line.fd Pstep_line spStepLine := ok_stepline dstep_line dtriple_words B
  refine d.F.ok scrule_text (fun vs H Q E h => ?_) (fun cdv A outer s H vs Q E hr h => ?_)
  · obtain ⟨p, R, rfl, _⟩ := h
    rfl
  · obtain ⟨p, R, rfl, ra, ok, lw, k⟩ := h
    refine ⟨_, (pss_cons (ps_expr (pe_call Gneed_rule (hr.mono (by decide)) (by rfl) dneed_rule.g dneed_rule.F.kp dneed_rule.b .nil pass0 (pa_cons (pv 0) pa_nil)))
      (pss_one (ps_ret (pe_op o_addS (pe_op o_addS (pe_m1 PySem.F.slot_str_join PySem.F.type_str_join (m_join K) pe_str (pe_op op_cat (pe_lst (pa_cons pe_str pa_nil)) (pe_callTy (c_list K) (by rfl) B.list (by decide +kernel) (pa_cons (e_fld K (pv 0)) pa_nil)))) pe_str) (pe_m1 PySem.F.slot_str_join PySem.F.type_str_join (m_join K) pe_str (pe_lc (own := [("step", 1)]) (g := gName 1) (tt := tYes) rfl scrule_text.nd (w_list K (e_fld K (pv 0))) (blkOk_by (own := [("step", 1)]) (N := Nrule_text) (sc := defScope srule_text) (by decide +kernel)) (fun _ _ _ _ _ => by exact (pg_name (i := 1) scrule_text.nd rfl (by first | exact Or.inl rfl | exact Or.inr rfl))) (fun _ _ _ _ _ => pts_nil) (fun _ _ _ _ _ => by exact (pe_call Gstep_line (hr.mono (by decide)) (by rfl) dstep_line.g dstep_line.F.kp dstep_line.b .nil pass0 (pa_cons (pv 1) pa_nil))))))))), ?_⟩
    obtain ⟨np, dx, tn, lr, hp, h2, h3⟩ := ra
    obtain ⟨_, et, ht⟩ := lot_tup h2
    cases et
    obtain ⟨rxs, hl, dl, _⟩ := list_at h3
    have l1 := ok.pg.most
    walk_at "v"
    refine ⟨p, dx, _, rfl, hp, ?_⟩
    walk_at "v"
    refine ⟨show 1 ≤ sizeLine by decide, fun q1 hq1 => ?_⟩
    have s1 : Same H (upd H q1 (.lst [.str sPG])) := (Same.refl H).new hq1
    have hq1' : upd H q1 (.lst [.str sPG]) q1 = some (.lst [.str sPG]) := upd_same
    obtain ⟨H1, e1⟩ : ∃ H1, H1 = upd H q1 (.lst [.str sPG]) := ⟨_, rfl⟩
    rw [← e1] at s1 hq1' ⊢
    clear e1
    walk_at "v"
    refine d_fld (s1 _ _ hp) cRule.cl cRule.nN (ruleF_names _ _) ?_
    walk_at "v"
    refine i_catL (s1 _ _ ht) hq1' (by simp; omega) (fun q2 H2 n2 s2 h2' => ?_)
    have s02 := s1.trans s2
    have h2'' : H2 q2 = some (.lst ((sPG :: R.pages).map V.str)) := h2'
    have pl : ∀ x ∈ sPG :: R.pages, x.length ≤ 9 := fun x hx => by
      rcases List.mem_cons.mp
            hx with rfl | hx
      · decide
      · have := nameB_le (ok.pg.name x hx); omega
    have ps := sum_le pl
    have pj := join_len SPC (sPG :: R.pages)
    have sl : SPC.length = 1 := by decide
    have nl : NLN.length = 1 := by decide
    rw [sl] at pj
    simp only [List.length_cons] at ps pj
    walk_at "v"
    refine i_join h2'' (by show _ + _ * SPC.length ≤ _; rw [sl]; simp only [List.length_cons]; omega) ?_
    have lp : (lineW (sPG :: R.pages)).length ≤ 100 := by unfold lineW; omega
    walk_at "v"
    refine i_adds (x := lineW (sPG :: R.pages)) (y := NLN) (small_sz (by rw [nl]; omega)) ?_
    walk_at "v"
    refine d_fld (s02 _ _ hp) cRule.cl cRule.nR (ruleF_rows _ _) ?_
    walk_at "v"
    refine w_lst (s02 _ _ hl) ?_
    have lrx : rxs.length = R.steps.length := by simpa using dl.length
    refine lc_by (walk_list (xs := rxs)) fun D hD => ⟨fun i H' => H' D = some (.lst (((R.steps.take i).map fun s => lineW (stepW s) ++ NLN).map V.str)) ∧ Same H2 H', ⟨upd_same, (Same.refl _).new hD⟩, fun i H' _ ⟨_, s⟩ => SqL.of (s _ _ (s02 _ _ hl)), ?_, ?_⟩
    · rintro i x H4 H5 hi ⟨hD4, s4⟩ ⟨rfl, hx⟩
      obtain ⟨di, hdi, hdx⟩ := dl.get' hx
      rw [List.getElem?_map] at hdi
      obtain ⟨si, hsi, rfl⟩ := Option.map_eq_some_iff.mp hdi
      have ms := List.mem_of_getElem? hsi
      obtain ⟨pi, rfl, _⟩ := step_tup hdx
      walk_at "v"
      refine ⟨[], si, pi, R.pages, rfl, hdx.same (s02.trans s4), ok.pg, ok.st _ ms, lw _ ms, fun H6 s6 => ?_⟩
      have h8 := ok.most
      refine ⟨_, s6 _ _ hD4, by simp only [List.length_map, List.length_take]; exact small1000 (by omega), ?_, (s4.trans s6).put hD⟩
      rw [List.take_succ, hsi]
      simpa using upd_same
    · rintro H4 ⟨hD4, s4⟩
      rw [lrx, List.take_length] at hD4
      walk_at "v"
      have sums : ∀ x ∈ R.steps.map (fun s => lineW (stepW s) ++ NLN), x.length ≤ 10131 := fun x hx => by
        obtain ⟨s, hs, rfl⟩ := List.mem_map.mp hx
        have := lineW_len ok.pg (ok.st s hs)
        have := lw s hs
        show (lineW (stepW s) ++ NLN).length ≤ _
        rw [len_app, nl]; omega
      have hs := sum_le sums
      have h8 := ok.most
      have l0 : ("" : Str).length = 0 := by decide
      have hj := join_len ("" : Str) (R.steps.map fun s => lineW (stepW s) ++ NLN)
      rw [l0] at hj
      simp only [List.length_map] at hs
      refine i_join hD4 (by rw [l0]; omega) ?_
      refine i_adds ?_ ?_
      · show (lineW (sPG :: R.pages) ++ NLN).length + _ ≤ _
        rw [len_app, nl]
        exact small_sz (by omega)
      · have := k H4 (s02.trans s4)
        rw [textR_cons] at this
        exact this
end Lr
set_option Elab.async false
set_option linter.all false
set_option maxRecDepth 100000
set_option maxHeartbeats 4000000
namespace Lr
open PySem PySem.Spec PyProof.Rows L2 TL
local macro_rules | `(tactic| walk_at "ne") => `(tactic| (first | assumption | (refine ne_sym ?_; assumption) | (exact ne_of_none (by assumption) (by assumption)) | (exact ne_sym (ne_of_none (by assumption) (by assumption)))))
local macro_rules | `(tactic| walk_at "h") => `(tactic| (first | assumption | exact upd_same | (refine h_new ?_ (by assumption); walk_at "h") | (refine h_ne (by walk_at "ne") ?_; walk_at "h")))
local macro_rules | `(tactic| walk_at "v1") => `(tactic| (with_reducible first
  | refine i_seq ?_ | refine i_asg ?_ | refine i_ret ?_ | refine i_next ?_ | refine i_drop ?_ | refine i_ifS ?_ | refine i_if ?_ | refine i_and ?_ | refine i_or ?_ | refine i_not ?_ | refine i_test ?_ | refine i_tB ?_ | refine i_bl ?_ | refine i_yes ?_
  | refine i_op ?_ | refine i_un ?_ | refine i_chain ?_ | refine i_andV ?_ | refine i_orV ?_ | refine i_notV ?_ | refine i_cb ?_ | refine i_cons ?_ | refine i_nil ?_ | refine i_bm ?_ | refine i_bm0 ?_ | refine i_c ?_ | refine i_name ?_ | refine i_sub ?_
  | refine i_call ?_ | refine i_lst ?_ | refine i_tup ?_ | refine i_par ?_ | refine i_par2 ?_ | refine i_sl ?_ | refine i_np ?_ | refine i_pt ?_ | refine i_int ?_ | refine i_m0 ?_ | refine i_m1 ?_ | refine i_isS ?_
  | refine i_rI0 ?_ | refine i_inSign ?_ | refine i_notInSign ?_ | refine i_int1 ?_ | refine i_tru ?_ | refine i_isN ?_ | refine i_notN ?_ | refine iteT ?_ | refine iteF ?_ | refine i_brk ?_ | refine i_rt ?_ | refine i_nx ?_ | refine i_bk ?_ | refine i_ct ?_ | refine i_for ?_ | refine i_lc ?_ | refine i_dc ?_ | refine i_iL ?_ | refine i_iT ?_ | refine i_iR1 ?_ | refine i_iR2 ?_ | refine i_iS ?_ | refine i_iE ?_ | refine i_iEK ?_ | refine i_iEQ ?_ | refine i_iZS ?_ | refine i_dget ?_ | refine i_fld ?_ | refine i_sfld ?_ | refine i_dput ?_ | refine i_meth ?_ | refine i_rU ?_ | refine i_cont ?_ | refine i_make ?_))
local macro_rules | `(tactic| walk_at "v2") => `(tactic| (first
  | ((with_reducible refine' i_var ?k1 ?_); (case k1 => exact rfl))
  | ((with_reducible refine' i_eq ?k1 ?_); (case k1 => exact rfl))
  | ((with_reducible refine' i_ne ?k1 ?_); (case k1 => exact rfl))
  | ((with_reducible refine' i_ixL ?k1 ?k2 ?_); (case k1 => walk_at "h"); (case k2 => exact rfl))
  | ((with_reducible refine' i_ixT ?k1 ?k2 ?_); (case k1 => walk_at "h"); (case k2 => exact rfl))
  | ((with_reducible refine' i_lenL ?k1 ?_); (case k1 => walk_at "h"))
  | ((with_reducible refine' i_lenT ?k1 ?_); (case k1 => walk_at "h"))
  | (refine i_wipe (show wipe _ _ = wipe _ _ from rfl) ?_)
  | ((with_reducible refine' i_setL ?k1 ?k2 ?_); (case k1 => walk_at "h"); (case k2 => exact rfl))
  | ((with_reducible refine' i_tyl ?k1 ?_); (case k1 => walk_at "h"))))
local macro_rules | `(tactic| walk_at "v") => `(tactic| repeat (first | walk_at "v1" | walk_at "v2"))

variable {P : Program} {w : World} {K :
      PySem.W.Frag} {mg : Str → Option Value} {base : Heap}
open C8 (InsC call_isC)
abbrev sBadText___init__ : Stmt := inClass (top 5) 0
abbrev NBadText___init__ : List Str := ["self", "line"]
abbrev PBadText___init__ : List Str := ["self", "line"]
theorem scBadText___init__ : FnScope NBadText___init__ PBadText___init__ (defScope sBadText___init__) := ⟨rfl, rfl, rfl, by decide +kernel, rfl, by decide +kernel, by decide +kernel⟩
abbrev sread_rule : Stmt := top 32
abbrev Nread_rule : List Str := ["text", "line", "lines", "names"]
abbrev Pread_rule : List Str := ["text"]
theorem scread_rule : FnScope Nread_rule Pread_rule (defScope sread_rule) := ⟨rfl, rfl, rfl, by decide +kernel, rfl, by decide +kernel, by decide +kernel⟩
abbrev ExText (K : PySem.W.Frag) (mg : Str → Option Value) := ExB K mg "BadText" "line" "BadText.__init__" sBadText___init__ PBadText___init__
theorem ok_extext (d : ExText K mg) : FnOk P w K mg base CX0 1 d.f d.fd PBadText___init__ (spExInit d.C "line") := by
  refine d.F.ok scBadText___init__ (fun vs H Q E h => ?_) (fun cdv A outer s H vs Q E hr h => ?_)
  · obtain ⟨a, y, rfl, _⟩ := h
    rfl
  · obtain ⟨a, y, rfl, ha, k⟩ := h
    refine ⟨_, (pss_one (ps_ost (pv 0) (pv 1))), ?_⟩
    exact ⟨_, rfl, _, rfl, a, d.C, rfl, d.T, d.no, .inl ⟨ha, k⟩⟩
abbrev FdRuleFault (K : PySem.W.Frag) (mg : Str → Option Value) := Fd K mg "rule_fault" srule_fault Prule_fault
/-- the defs that a rule's text and a rule's making lean on -/
structure RDefs (K : PySem.W.Frag) (mg : Str → Option Value) (C : Addr) where
  fault : FdRuleFault K mg
  linesIn : FdLinesIn K mg
  pagesIn : FdPagesIn K mg
  stepIn : FdStepIn K mg
  wordsIn : FdWordsIn K mg
  whenIn : FdWhenIn K mg
  lotsIn : FdLotsIn K mg
  parted : FdParted K mg
  tripIn : FdTripIn K mg
  tripW : FdTripW K mg
  lotAmong : FdLotAmong K mg
  namesOf : FdNamesOf K mg
  isName : FdIsName K mg
  stepOf : FdStepOf K mg
  whenOf : FdWhenOf K mg
  init : MdRInit K C
  mkR : Mk K C init.f
  needRule : FdNeedRule K mg
  stepLine : FdStepLine K mg
  cls : RuleCls K mg C
  iC : InsC K C
  al : Alone K mg
  ex : ExText K mg
  B : Blt2 K mg
def spReadRule (C CE : Addr) : Sp := fun vs H Q E => ∃ (S : List Addr) (d : PyData) (v : V), vs = [v] ∧ Dt S H d v ∧ (∀ z, d = .str z → z.length ≤ 10000 ∧ (∀ x ∈ lines z, (words x).length ≤ 64)) ∧
  (∀ z, d = .str z → faultR z = none → ∃ R : RG, R.Ok ∧ textR R = z ∧ ∀ p H', (∀ S, Trk S H → RuleAt S C H' p R) → Same H H' → Q (.ref p) H') ∧
  (∀ z n, d = .str z → faultR z = some n → ∀ dd H', H' dd = some (.xd [(("line" : Str), .int (n : Nat))]) → Same H H' → E (.ref CE) (some dd) H') ∧
  (isK "str" d = false → ∀ dd H', H' dd = some (.xd [(("line" : Str), .int 0)]) → Same H H' → E (.ref CE) (some dd) H')
theorem ok_readrule {C : Addr} (D : RDefs K mg C) (d : Fd K mg "read_rule" sread_rule Pread_rule) :
    FnOk P w K mg base (L2.CX P w) 8 d.f d.fd Pread_rule (spReadRule C D.ex.C) := by
  obtain ⟨drule_fault, dlines_in, dpages_in, dstep_in, dwords_in, dwhen_in, dlots_in, dparted, dtriple_in, dtriple_words, dlot_among, dnames_of, dis_name, dstep_of, dwhen_of, dinit, mkRule, _, _, cRule, iRule, AL, eBadText, B⟩ := D
  have Grule_fault : FnOk P w K mg base CX0 7 drule_fault.f drule_fault.fd Prule_fault spRuleFault := ok_rulefault drule_fault dlines_in dpages_in dstep_in dwords_in dwhen_in dlots_in dparted dtriple_in dtriple_words dlot_among dnames_of dis_name B
  have Glines_in : FnOk P w K mg base CX0 1 dlines_in.f dlines_in.fd Plines_in spLinesIn := ok_linesin dlines_in B.toBlt
  have Gpages_in : FnOk P w K mg base CX0 3 dpages_in.f dpages_in.fd Ppages_in spPagesIn := ok_pagesin dpages_in dwords_in dnames_of dis_name B
  have Gstep_in : FnOk P w K mg base CX0 6 dstep_in.f dstep_in.fd Pstep_in spStepIn := ok_stepin dstep_in dwords_in dwhen_in dlots_in dparted dtriple_in dtriple_words dlot_among dnames_of dis_name B
  have GRule___init__ : FnOk P w K mg base CX0 6 dinit.f dinit.fd PRule___init__ (spRuleInit C) := ok_ruleinit cRule dinit dstep_of dwhen_of dlot_among dnames_of dis_name AL B
  have GeBadText : FnOk P w K mg base CX0 1 eBadText.f eBadText.fd PBadText___init__ (spExInit eBadText.C "line") := ok_extext eBadText
  refine d.F.okX scread_rule (fun vs H Q E h => ?_) (fun cdv A outer s H vs Q E hr h => ?_)
  · obtain ⟨S, d, v, rfl, _⟩ := h
    rfl
  · obtain ⟨S, d, v, rfl, hd, hz, kg, kb, k0⟩ := h
    refine ⟨_, (pss_cons (ps_set (i := 1) scread_rule.nd rfl (by first | exact Or.inl rfl | exact Or.inr rfl) (pe_call Grule_fault (hr.mono (by decide)) (by rfl) drule_fault.g drule_fault.F.kp drule_fault.b .nil pass0 (pa_cons (pv 0) pa_nil)))
      (pss_cons (ps_if (pt_cmpR o_notN (pv 1) pe_non (nomark _)) (pss_one (ps_raise rfl (takes_of rfl rfl rfl rfl) (pmk_oex eBadText.T eBadText.iC eBadText.tI GeBadText (hr.mono (by decide)) eBadText.b .nil pass0 (by rfl) eBadText.g (by exact (pa_cons (pv 1) pa_nil))))) pss_nil)
      (pss_cons (ps_set (i := 2) scread_rule.nd rfl (by first | exact Or.inl rfl | exact Or.inr rfl) (pe_ix (x_tup K) (pe_call Glines_in (hr.mono (by decide)) (by rfl) dlines_in.g dlines_in.F.kp dlines_in.b .nil pass0 (pa_cons (pv 0) pa_nil)) pe_int (fun _ _ => rfl)))
      (pss_cons (ps_set (i := 3) scread_rule.nd rfl (by first | exact Or.inl rfl | exact Or.inr rfl) (pe_call Gpages_in (hr.mono (by decide)) (by rfl) dpages_in.g dpages_in.F.kp dpages_in.b .nil pass0 (pa_cons (pe_ix (x_list K) (pv 2) pe_int (fun _ _ => rfl)) pa_nil)))
      (pss_one (ps_ret (pe_make mkRule GRule___init__ (hr.mono (by decide)) (by rfl) cRule.g dinit.b .nil pass0 (pa_cons (pv 3) (pa_cons (pe_lc (own := [("line", 1)]) (g := gName 1) (tt := tYes) rfl scread_rule.nd (w_list K (pe_slice (s_list K) (pv 2) (po_some pe_int) po_none)) (blkOk_by (own := [("line", 1)]) (N := Nread_rule) (sc := defScope sread_rule) (by decide +kernel)) (fun _ _ _ _ _ => by exact (pg_name (i := 1) scread_rule.nd rfl (by first | exact Or.inl rfl | exact Or.inr rfl))) (fun _ _ _ _ _ => pts_nil) (fun _ _ _ _ _ => by exact (pe_call Gstep_in (hr.mono (by decide)) (by rfl) dstep_in.g dstep_in.F.kp dstep_in.b .nil pass0 (pa_cons (pv 1) (pa_cons (pv 3) pa_nil))))) pa_nil))))))))), ?_⟩
    walk_at "v"
    refine ⟨S, d, v, rfl, hd, fun z e => ⟨(hz z e).1, (hz z e).2, fun H1 s1 => ?_⟩, fun ns H1 s1 => ?_⟩
    · subst e
      have ev : v = .str z := by unfold Dt at hd; exact hd
      subst ev
      obtain ⟨hz1, hz2⟩ := hz z rfl
      walk_at "v"
      cases ef : faultR z with
      | some n =>
        refine ifn (fun _ => ?_) (fun h => by cases h)
        exact i_raise (y := .int (n : Nat)) (H1 := H1) ⟨_, rfl, rfl, rfl⟩ (fun R R' h ⟨v, e, q⟩ => ⟨v, e, h _ _ q⟩) (fun d hd => kb z n rfl ef d _ upd_same (s1.new hd))
      | none =>
        refine ifn (fun h => absurd rfl h) (fun _ => ?_)
        obtain ⟨R, ok, et, kR⟩ := kg z rfl ef
        have eln : lines z = linesR R ++ [("" : Str)] := by rw [← et]; exact lines_textR ok
        have lsz : ∀ x ∈ lines z, x.length ≤ 10000 := fun x hx => Nat.le_trans (len_sum_split tl_nln (by decide) x hx) hz1
        walk_at "v"
        refine ⟨z, rfl, by omega, fun ls l t q1 H2 el ht hq s2 => ?_⟩
        obtain ⟨e1, e2⟩ := List.append_inj' (el.symm.trans eln) rfl
        subst e1
        walk_at "v"
        refine i_ixL hq (atI_nat (j := 0) rfl) ?_
        walk_at "v"
        have m0 : lineW (sPG :: R.pages) ∈ lines z := by rw [eln]; simp [linesR]
        refine ⟨lineW (sPG :: R.pages), rfl, lsz _ m0, hz2 _ m0, (fun e => by rw [words_pages ok.pg, pagesP_of ok.pg] at e; cases e), fun pg epg q3 H3 n3 h3 s3 => ?_⟩
        rw [words_pages ok.pg, pagesP_of ok.pg] at epg
        cases epg
        have s13 := (s1.trans s2).trans s3
        have hq3 := s3 _ _ hq
        walk_at "v"
        have eL : (linesR R).map V.str = .str (lineW (sPG :: R.pages)) :: (R.steps.map fun s => lineW (stepW s)).map V.str := rfl
        refine ⟨q1, _, rfl, SqL.of hq3, fun p1 hp1 => ?_⟩
        rw [eL, cut_drop1']
        have h4 : upd H3 p1 (.lst ((R.steps.map fun s => lineW (stepW s)).map V.str)) p1 = some (.lst ((R.steps.map fun s => lineW (stepW s)).map V.str)) := upd_same
        have s4 : Same H3 (upd H3 p1 (.lst ((R.steps.map fun s => lineW (stepW s)).map V.str))) := (Same.refl _).new hp1
        obtain ⟨H4, e4⟩ : ∃ H4, H4 = upd H3 p1 (.lst ((R.steps.map fun s => lineW (stepW s)).map V.str)) := ⟨_, rfl⟩
        rw [← e4] at h4 s4 ⊢
        clear e4
        have s14 := s13.trans s4
        have lR : ((R.steps.map fun s => lineW (stepW s)).map V.str).length = R.steps.length := by simp
        have h34 := s4 _ _ h3
        have h8 := ok.most
        refine w_lst h4 ?_
        refine lc_by (walk_list (xs := (R.steps.map fun s => lineW (stepW s)).map V.str)) fun D hD => ⟨fun i H' => ∃ ds : List PyData, ds.length = i ∧ (∀ (j : Nat) e s, ds[j]? = some e → R.steps[j]? = some s → un e = un (stepD s)) ∧ Acc [] H4 H' D ds, ⟨[], rfl, by simp, Acc.start (Keep.refl _ _) hD⟩, fun i H' _ ⟨_, _, _, ac⟩ => SqL.of (ac.kp.same _ _ h4), ?_, ?_⟩
        · rintro i x H5 H6 hi ⟨ds, ld, ud, ac⟩ ⟨rfl, hx⟩
          rw [List.getElem?_map, List.getElem?_map] at hx
          obtain ⟨y, hy, rfl⟩ := Option.map_eq_some_iff.mp hx
          obtain ⟨si, hsi, rfl⟩ := Option.map_eq_some_iff.mp hy
          have ms := List.mem_of_getElem? hsi
          have so := ok.st _ ms
          have mz : lineW (stepW si) ∈ lines z := by rw [eln]; simp only [linesR, List.mem_append, List.mem_cons, List.mem_map]; exact .inl (.inr ⟨si, ms, rfl⟩)
          walk_at "v"
          refine ⟨lineW (stepW si), q3, R.pages, rfl, lsz _ mz, hz2 _ mz, ac.kp.same _ _ h34, ok.pg, fun en => ?_, fun s' es dd v' H7 ud' nv s7 => ?_⟩
          · rw [words_step ok.pg so, stepP_of ok.pg so] at en; cases en
          · rw [words_step ok.pg so, stepP_of ok.pg so] at es
            cases es
            obtain ⟨acc, ea, la, _⟩ := id ac.ex
            obtain ⟨e8, ac8⟩ := ac.step trk_nil ea nv.toM (Keep.of_same s7)
            have hil := (List.getElem?_eq_some_iff.mp hsi).1
            refine ⟨acc, e8, by rw [la, ld]; exact small1000 (by omega), ds ++ [dd], by simp [ld], fun j e s h1 h2 => ?_, ac8⟩
            rcases Nat.lt_or_ge j i with hj | hj
            · exact ud j e s (by rw [List.getElem?_append_left (by omega)] at h1; exact h1) h2
            · have hj' : j = i := by
                have := (List.getElem?_eq_some_iff.mp h1).1
                simp [ld] at this; omega
              subst hj'
              rw [List.getElem?_append_right (by omega), ld] at h1
              simp at h1; subst h1
              rw [hsi] at h2; cases h2
              exact ud'
        · rintro H5 ⟨ds, ld, ud, ac⟩
          rw [lR] at ld
          have s45 := ac.kp.same
          have s15 := s14.trans s45
          walk_at "v"
          intro p dx hp hdx dne
          have hp' : upd H5 dx (.own p) p = none := by rw [upd_ne dne.symm]; exact hp
          have sm : Same H5 (upd (upd H5 dx (.own p)) p (.ins C dx [])) := ((Same.refl H5).new hdx).new hp'
          have av : ∀ t ∈ [p], H5 t = none := fun t h => by simp at h; subst h; exact hp
          have d1 := ((Dt.avoid av _ _ (dt_strs (s45 _ _ h34))).same sm)
          have d2 := ((Dt.avoid av _ _ (ac.done [] trk_nil (fun _ h => nomatch h))).same sm)
          have lw : ∀ s ∈ R.steps, s.wh.length ≤ 100 := fun s hs => by
            have mz : lineW (stepW s) ∈ lines z := by rw [eln]; simp only [linesR, List.mem_append, List.mem_cons, List.mem_map]; exact .inl (.inr ⟨s, hs, rfl⟩)
            have h1 := hz2 _ mz
            rw [words_step ok.pg (ok.st s hs)] at h1
            have h2 := whenW_ge s.wh
            simp only [stepW, List.length_append, List.length_cons] at h1
            omega
          refine ⟨[p] ++ [], p, dx, lstS R.pages, .list ds, .ref q3, .ref D, R, R.pages, rfl, upd_same, by simp, d1, d2, ok, un_lst _, List.Perm.refl _, ⟨rfl, ld, fun i e s h1 h2 => ⟨s, ud i e s h1 h2, SdPerm.refl s⟩⟩, lw, fun H6 k6 ra => ?_⟩
          have sA : Same H5 H6 := fun x o e => ((Keep.of_same sm).trans k6) x o (by simp; rintro rfl; rw [hp] at e; cases e) e
          exact ⟨rfl, kR p H6 (fun S t => ra S ((t.keep (Keep.of_same (S := []) s15)).keep (Keep.of_same (S := []) sm)) ((t.keep (Keep.of_same (S := []) s15)).nm hp)) (s15.trans sA)⟩
    · walk_at "v"
      refine ifn (fun _ => ?_) (fun h => by cases h)
      exact i_raise (y := .int 0) (H1 := H1) ⟨_, rfl, rfl, rfl⟩ (fun R R' h ⟨v, e, q⟩ => ⟨v, e, h _ _ q⟩) (fun d hd => k0 ns d _ upd_same (s1.new hd))
end Lr
set_option Elab.async false
set_option linter.all false
set_option maxRecDepth 100000
set_option maxHeartbeats 4000000
namespace Lr
open PySem PySem.Spec PyProof.Rows L2 TL
local macro_rules | `(tactic| walk_at "ne") => `(tactic| (first | assumption | (refine ne_sym ?_; assumption) | (exact ne_of_none (by assumption) (by assumption)) | (exact ne_sym (ne_of_none (by assumption) (by assumption)))))
local macro_rules | `(tactic| walk_at "h") => `(tactic| (first | assumption | exact upd_same | (refine h_new ?_ (by assumption); walk_at "h") | (refine h_ne (by walk_at "ne") ?_; walk_at "h")))
local macro_rules | `(tactic| walk_at "v1") => `(tactic| (with_reducible first
  | refine i_seq ?_ | refine i_asg ?_ | refine i_ret ?_ | refine i_next ?_ | refine i_drop ?_ | refine i_ifS ?_ | refine i_if ?_ | refine i_and ?_ | refine i_or ?_ | refine i_not ?_ | refine i_test ?_ | refine i_tB ?_ | refine i_bl ?_ | refine i_yes ?_
  | refine i_op ?_ | refine i_un ?_ | refine i_chain ?_ | refine i_andV ?_ | refine i_orV ?_ | refine i_notV ?_ | refine i_cb ?_ | refine i_cons ?_ | refine i_nil ?_ | refine i_bm ?_ | refine i_bm0 ?_ | refine i_c ?_ | refine i_name ?_ | refine i_sub ?_
  | refine i_call ?_ | refine i_lst ?_ | refine i_tup ?_ | refine i_par ?_ | refine i_par2 ?_ | refine i_sl ?_ | refine i_np ?_ | refine i_pt ?_ | refine i_int ?_ | refine i_m0 ?_ | refine i_m1 ?_ | refine i_isS ?_
  | refine i_rI0 ?_ | refine i_inSign ?_ | refine i_notInSign ?_ | refine i_int1 ?_ | refine i_tru ?_ | refine i_isN ?_ | refine i_notN ?_ | refine iteT ?_ | refine iteF ?_ | refine i_brk ?_ | refine i_rt ?_ | refine i_nx ?_ | refine i_bk ?_ | refine i_ct ?_ | refine i_for ?_ | refine i_lc ?_ | refine i_dc ?_ | refine i_iL ?_ | refine i_iT ?_ | refine i_iR1 ?_ | refine i_iR2 ?_ | refine i_iS ?_ | refine i_iE ?_ | refine i_iEK ?_ | refine i_iEQ ?_ | refine i_iZS ?_ | refine i_dget ?_ | refine i_fld ?_ | refine i_sfld ?_ | refine i_dput ?_ | refine i_meth ?_ | refine i_rU ?_ | refine i_cont ?_ | refine i_make ?_))
local macro_rules | `(tactic| walk_at "v2") => `(tactic| (first
  | ((with_reducible refine' i_var ?k1 ?_); (case k1 => exact rfl))
  | ((with_reducible refine' i_eq ?k1 ?_); (case k1 => exact rfl))
  | ((with_reducible refine' i_ne ?k1 ?_); (case k1 => exact rfl))
  | ((with_reducible refine' i_ixL ?k1 ?k2 ?_); (case k1 => walk_at "h"); (case k2 => exact rfl))
  | ((with_reducible refine' i_ixT ?k1 ?k2 ?_); (case k1 => walk_at "h"); (case k2 => exact rfl))
  | ((with_reducible refine' i_lenL ?k1 ?_); (case k1 => walk_at "h"))
  | ((with_reducible refine' i_lenT ?k1 ?_); (case k1 => walk_at "h"))
  | (refine i_wipe (show wipe _ _ = wipe _ _ from rfl) ?_)
  | ((with_reducible refine' i_setL ?k1 ?k2 ?_); (case k1 => walk_at "h"); (case k2 => exact rfl))
  | ((with_reducible refine' i_tyl ?k1 ?_); (case k1 => walk_at "h"))))
local macro_rules | `(tactic| walk_at "v") => `(tactic| repeat (first | walk_at "v1" | walk_at "v2"))

variable {P : Program} {w : World} {K :
      PySem.W.Frag} {mg : Str → Option Value} {base : Heap}
abbrev s_law_nwhen : Stmt := top 34
abbrev N_law_nwhen : List Str := ["stream", "pages", "lots", "kind", "turn", "k"]
abbrev P_law_nwhen : List Str := ["stream", "pages", "lots"]
theorem sc_law_nwhen : FnScope N_law_nwhen P_law_nwhen (defScope s_law_nwhen) := ⟨rfl, rfl, rfl, by decide +kernel, rfl, by decide +kernel, by decide +kernel⟩
theorem NewM.tri {M : List Addr} {H0 H1 : Hp} {p : Addr} {t : Tri} {v1 v2 v3 : V} (k : Keep M H0 H1) (h : H1 p = none) (n1 : NewM M H0 H1 (lotT t.c) v1) (n2 : NewM M H0 H1 (lotT t.f) v2) (n3 : NewM M H0 H1 (lotT t.s) v3) : NewM M H0 (upd H1 p (.tup [v1, v2, v3])) (triD t) (.ref p) :=
  NewM.tup k h fun S t m => DtAll.cons (n1 S t m) (DtAll.cons (n2 S t m) (DtAll.cons (n3 S t m) DtAll.nil))
theorem NewM.when1 {M : List Addr} {H0 H1 : Hp} {p : Addr} {t : Tri} {v : V} (k : Keep M H0 H1) (h : H1 p = none) (n : NewM M H0 H1 (triD t) v) : NewM M H0 (upd H1 p (.tup [v])) (whenD [t]) (.ref p) :=
  NewM.tup k h fun S t m => DtAll.cons (n S t m) DtAll.nil
theorem NewM.upd {M : List Addr} {H0 H1 : Hp} {p : Addr} {o : HO} {d : PyData} {v : V} (n : NewM M H0 H1 d v) (h : H1 p = none) : NewM M H0 (L2.upd H1 p o) d v := n.keep ((Keep.refl _ _).new h)
/-- a tuple made of the list that a loop filled -/
theorem Acc.tup {M : List Addr} {H0 H' : Hp} {D q : Addr} {ds : List PyData} {acc : List V} (a : Acc M H0 H' D ds) (e : H' D = some (.lst acc)) (h : H' q = none) : NewM M H0 (L2.upd H' q (.tup acc)) (.tuple ds) (.ref q) := by
  obtain ⟨acc', e', _, z⟩ := a.ex
  rw [e] at e'; cases e'
  exact NewM.tup a.kp h fun S t m => DtAll.mono (fun x hx => List.mem_cons_of_mem _ hx) _ _ (z S t m)
theorem PE.by_ {X : Cx} {e : Expr} {t' : TE} (h : ∃ t, PE X e t ∧ ∀ σ H Q, t' σ H Q → t σ H Q) : PE X e t' := by
  obtain ⟨t, h, m⟩ := h
  exact ⟨fun pins s σ H Q I z => h.run pins s σ H Q I (m σ H Q z)⟩
/-- the triple of three empty lots, written down -/
def tTri0 : TE := fun σ H Q => ∀ p H', New H H' (triD ⟨[], [], []⟩) (.ref p) → Same H H' → Q (.ref p) H'
theorem pe_tri0 {X : Cx} {x0 x1 x2 x3 : Nat} {p0 p1 p2 p3 : Pos} : PE X (.Tuple [.Tuple [] x1 p1, .Tuple [] x2 p2, .Tuple [] x3 p3] x0 p0) tTri0 := by
  refine PE.by_ ⟨_, pe_tup (pa_cons (pe_tup pa_nil) (pa_cons (pe_tup pa_nil) (pa_cons (pe_tup pa_nil) pa_nil))), fun σ H Q h => ?_⟩
  refine ⟨Nat.zero_le _, fun q1 h1 => ⟨Nat.zero_le _, fun q2 h2 => ⟨Nat.zero_le _, fun q3 h3 => ⟨show 3 ≤ sizeLine by decide, fun q hq => ?_⟩⟩⟩⟩
  have k0 : Keep [] H H := Keep.refl _ _
  have n1 : NewM [] H (upd H q1 (.tup [])) (lotT []) (.ref q1) := NewM.strs [] k0 h1
  have k1 := k0.new (o := .tup []) h1
  have n2 : NewM [] H _ (lotT []) (.ref q2) := NewM.strs [] k1 h2
  have k2 := k1.new (o := .tup []) h2
  have n3 : NewM [] H _ (lotT []) (.ref q3) := NewM.strs [] k2 h3
  have k3 := k2.new (o := .tup []) h3
  exact h q _ (NewM.tri (t := ⟨[], [], []⟩) k3 hq ((n1.upd h2).upd h3) (n2.upd h3) n3).toN (k3.new hq).same
def spNWhen (a b : Addr) : Sp := fun vs H Q _ => ∃ (n : Nat) (H0 : Hp) (N : Addr) (pg : List Str) (t : Tri) (v : V), vs = [.ref a, .ref N, v] ∧ H N = some (.lst (pg.map V.str)) ∧ N ∉ [a, b] ∧ pg.length ≤ 3 ∧ Keep [a, b] H0 H ∧ Trk [a, b] H0 ∧ NewM [a, b] H0 H (triD t) v ∧ t.Ok pg ∧ StreamAt a b n H ∧ n < 2 ^ 38 ∧
  ∀ ts v' H', (∀ t ∈ ts, t.Ok pg) → ts.length ≤ 2 → NewM [a, b] H0 H' (whenD ts) v' → StreamAt a b (n + 20) H' → Keep [a, b] H H' → Q v' H'
theorem sub_strs : ∀ {pg : List Str} {ys : List V}, ys.Sublist (pg.map V.str) → ∃ l : List Str, ys = l.map V.str ∧ l.Sublist pg := fun h => by
  obtain ⟨l, h1, h2⟩ := List.sublist_map_iff.mp h
  exact ⟨l, h2, h1⟩
theorem ok_nwhen {a b : Addr} (d : Fd K mg "_law_nwhen" s_law_nwhen P_law_nwhen) (d_law_below : FdB K mg) (d_law_lot : FdLot K mg) (B : Blt2 K mg) : FnOk P w K mg base CX0 3 d.f d.fd P_law_nwhen (spNWhen a b) := by
  have G_law_below : FnOk P w K mg base CX0 1 d_law_below.f d_law_below.fd P_law_below (spBelow a b) := ok_below d_law_below B.toBlt
  have G_law_lot : FnOk P w K mg base CX0 2 d_law_lot.f d_law_lot.fd P_law_lot (spLot a b) := ok_lot d_law_lot d_law_below B.toBlt
  refine d.F.ok sc_law_nwhen (fun vs H Q E h => ?_) (fun cdv A outer s H vs Q E hr h => ?_)
  · obtain ⟨n, H0, N, pg, t, v, rfl, _⟩ := h
    rfl
  · obtain ⟨n, H0, N, pg, t, v, rfl, hN, nN, l3, k0, tr0, nv, tok, st, hn, k⟩ := h
    refine ⟨_, (pss_cons (ps_set (i := 3) sc_law_nwhen.nd rfl (by first | exact Or.inl rfl | exact Or.inr rfl) (pe_call G_law_below (hr.mono (by decide)) (by rfl) d_law_below.g d_law_below.F.kp d_law_below.b .nil pass0 (pa_cons (pv 0) (pa_cons pe_int pa_nil))))
      (pss_cons (ps_if (pt_cmpR op_lt (pv 3) pe_int (nomark _)) (pss_one (ps_ret (pe_tup (pa_cons pe_tri0 pa_nil)))) pss_nil)
      (pss_cons (ps_if (pt_cmpR op_eq (pv 3) pe_int (nomark _)) (pss_one (ps_ret (pe_callTy (c_tuple K) (by rfl) B.tuple (by decide +kernel) (pa_cons (pe_lc (own := [("turn", 4)]) (g := gName 4) (tt := tYes) rfl sc_law_nwhen.nd (pi_range1 (by rfl) B.range (pa_cons (pe_call G_law_below (hr.mono (by decide)) (by rfl) d_law_below.g d_law_below.F.kp d_law_below.b .nil pass0 (pa_cons (pv 0) (pa_cons pe_int pa_nil))) pa_nil)) (blkOk_by (own := [("turn", 4)]) (N := N_law_nwhen) (sc := defScope s_law_nwhen) (by decide +kernel)) (fun _ _ _ _ _ => by exact (pg_name (i := 4) sc_law_nwhen.nd rfl (by first | exact Or.inl rfl | exact Or.inr rfl))) (fun _ _ _ _ _ => pts_nil) (fun _ _ _ _ _ => by exact (pe_callTy (c_tuple K) (by rfl) B.tuple (by decide +kernel) (pa_cons (pe_lc (own := [("k", 5)]) (g := gName 5) (tt := tYes) rfl sc_law_nwhen.nd (pi_range1 (by rfl) B.range (pa_cons pe_int pa_nil)) (blkOk_by (own := [("k", 5)]) (N := N_law_nwhen) (by rfl)) (fun _ _ _ _ _ => by exact (pg_name (i := 5) sc_law_nwhen.nd rfl (by first | exact Or.inl rfl | exact Or.inr rfl))) (fun _ _ _ _ _ => pts_nil) (fun _ _ _ _ _ => by exact (pe_callTy (c_tuple K) (by rfl) B.tuple (by decide +kernel) (pa_cons (pe_call G_law_lot (hr.mono (by decide)) (by rfl) d_law_lot.g d_law_lot.F.kp d_law_lot.b .nil pass0 (pa_cons (pv 0) (pa_cons (pv 1) (pa_cons pe_int pa_nil)))) pa_nil)))) pa_nil)))) pa_nil)))) pss_nil)
      (pss_one (ps_ret (pe_tup (pa_cons (pv 2) pa_nil))))))), ?_⟩
    walk_at "v"
    refine ⟨n, 8, rfl, by decide, by decide, st, by omega, fun d1 H1 d10 d11 st1 kp1 => ?_⟩
    have k01 := k0.trans kp1
    walk_at "v"
    refine ifd (fun c1 => ?_) (fun c1 => ?_)
    · walk_at "v"
      intro p1 H2 n1 s1
      have k02 := k01.trans (Keep.of_same s1)
      have nw : NewM [a, b] H0 H2 (triD ⟨[], [], []⟩) (.ref p1) := n1.toM.pre k01
      walk_at "v"
      refine ⟨show 1 ≤ sizeLine by decide, fun q hq => ?_⟩
      refine k [⟨[], [], []⟩] _ _ (fun t ht => ?_) (by simp) (NewM.when1 k02 hq nw) (((st1.same s1).new hq).mono (by omega)) ((kp1.trans (Keep.of_same s1)).new hq)
      simp at ht; subst ht
      exact ⟨List.nil_sublist _, List.nil_sublist _, List.nil_sublist _⟩
    walk_at "v"
    refine ifd (fun c2 => ?_) (fun c2 => ?_)
    · walk_at "v"
      refine ⟨n + 1, 3, rfl, by decide, by decide, st1, by omega, fun d2 H2 d20 d21 st2 kp2 => ?_⟩
      have k02 := k01.trans kp2
      obtain ⟨y2, rfl⟩ : ∃ y : Nat, d2 = y := ⟨d2.toNat, by omega⟩
      have hN2 := (kp1.trans kp2) _ _ nN hN
      walk_at "v"
      refine w_rg1 (by omega) ?_
      refine lc_by walk_range fun D hD => ⟨fun i H' => ∃ ts : List Tri, ts.length = i ∧ (∀ t ∈ ts, t.Ok pg) ∧ Acc [a, b] H0 H' D (ts.map triD) ∧ StreamAt a b (n + 2 + 9 * i) H' ∧ Keep [a, b] H2 H', ⟨[], rfl, by simp, Acc.start k02 hD, (st2.new hD).mono (by omega), (Keep.refl _ _).new hD⟩, fun _ _ _ _ => trivial, ?_, ?_⟩
      · rintro i x H3 H4 hi ⟨ts, lt, okt, ac, st3, kp3⟩ ⟨rfl, rfl⟩
        have hi' : i < y2 := by simpa using hi
        have k03 := k02.trans kp3
        walk_at "v"
        refine w_rg1 (n := 3) (by decide) ?_
        refine lc_by walk_range fun D2 hD2 => ⟨fun j H' => ∃ ls : List (List Str), ls.length = j ∧ (∀ l ∈ ls, l.Sublist pg) ∧ Acc [a, b] H4 H' D2 (ls.map lotT) ∧ StreamAt a b (n + 2 + 9 * i + 3 * j) H' ∧ Keep [a, b] H4 H', ⟨[], rfl, by simp, Acc.start (Keep.refl _ _) hD2, (st3.new hD2).mono (by omega), (Keep.refl _ _).new hD2⟩, fun _ _ _ _ => trivial, ?_, ?_⟩
        · rintro j x H5 H6 hj ⟨ls, ll, okl, ac2, st5, kp5⟩ ⟨rfl, rfl⟩
          have hj' : j < 3 := by simpa using hj
          walk_at "v"
          refine ⟨n + 2 + 9 * i + 3 * j, N, pg.map V.str, 3, rfl, (kp3.trans kp5) _ _ nN hN2, nN, by decide, by decide, by rw [List.length_map]; omega, st5, by omega, fun q ys H7 sl hq hq7 st7 kp7 => ?_⟩
          obtain ⟨l, rfl, sl'⟩ := sub_strs sl
          rw [List.length_map] at st7
          walk_at "v"
          refine i_tupleL hq7 (fun q8 hq8 => ?_)
          obtain ⟨acc, ea, la, _⟩ := id ac2.ex
          obtain ⟨e8, ac8⟩ := ac2.step st3.trk ea (NewM.strs l kp7 hq8) (kp7.new hq8)
          have hDab := st3.na hD2
          refine ⟨acc, e8, by rw [la, List.length_map, ll]; exact small1000 (by omega), ls ++ [l], by simp [ll], fun z hz => ?_, by rw [List.map_append]; exact ac8, ((st7.new hq8).put hDab.1 hDab.2).mono (by omega), (kp5.trans (kp7.new hq8)).new' hD2⟩
          rcases List.mem_append.mp
                hz with hz | hz
          · exact okl z hz
          · simp at hz; subst hz; exact sl'
        · rintro H5 ⟨ls, ll, okl, ac2, st5, kp5⟩
          have ll3 : ls.length = 3 := by simpa using ll
          obtain ⟨l1, l2, l3', rfl⟩ : ∃ l1 l2 l3, ls = [l1, l2, l3] := by
            match ls, ll3 with
            | [x, y, z], _ =>
                  exact ⟨x, y, z, rfl⟩
          walk_at "v"
          obtain ⟨acc2, ea2, _, _⟩ := id ac2.ex
          refine i_tupleL ea2 (fun q8 hq8 => ?_)
          have nt : NewM [a, b] H4 (upd H5 q8 (.tup acc2)) (triD ⟨l1, l2, l3'⟩) (.ref q8) := ac2.tup ea2 hq8
          obtain ⟨acc, ea, la, _⟩ := id ac.ex
          obtain ⟨e8, ac8⟩ := ac.step tr0 ea nt (kp5.new hq8)
          have hDab := st2.na hD
          refine ⟨acc, e8, by rw [la, List.length_map, lt]; exact small1000 (by omega), ts ++ [⟨l1, l2, l3'⟩], by simp [lt], fun z hz => ?_, by rw [List.map_append]; exact ac8, ((st5.new hq8).put hDab.1 hDab.2).mono (by simp; omega), (kp3.trans (kp5.new hq8)).new' hD⟩
          rcases List.mem_append.mp
                hz with hz | hz
          · exact okt z hz
          · simp at hz; subst hz; exact ⟨okl _ (by simp), okl _ (by simp), okl _ (by simp)⟩
      · rintro H3 ⟨ts, lt, okt, ac, st3, kp3⟩
        walk_at "v"
        obtain ⟨acc, ea, _, _⟩ := id ac.ex
        refine i_tupleL ea (fun q8 hq8 => ?_)
        have lt' : ts.length = y2 := by simpa using lt
        exact k ts _ _ okt (by omega) (ac.tup ea hq8) ((st3.new hq8).mono (by rw [lt'.symm.trans lt] at *; omega)) ((kp1.trans (kp2.trans kp3)).new hq8)
    · walk_at "v"
      refine ⟨show 1 ≤ sizeLine by decide, fun q hq => ?_⟩
      refine k [t] _ _ (fun t ht => by simp at ht; subst ht; exact tok) (by simp) (NewM.when1 k01 hq (nv.keep kp1)) ((st1.new hq).mono (by omega)) (kp1.new hq)
end Lr
set_option Elab.async false
set_option linter.all false
set_option maxRecDepth 100000
set_option maxHeartbeats 4000000
namespace Lr
open PySem PySem.Spec PyProof.Rows L2 TL
local macro_rules | `(tactic| walk_at "ne") => `(tactic| (first | assumption | (refine ne_sym ?_; assumption) | (exact ne_of_none (by assumption) (by assumption)) | (exact ne_sym (ne_of_none (by assumption) (by assumption)))))
local macro_rules | `(tactic| walk_at "h") => `(tactic| (first | assumption | exact upd_same | (refine h_new ?_ (by assumption); walk_at "h") | (refine h_ne (by walk_at "ne") ?_; walk_at "h")))
local macro_rules | `(tactic| walk_at "v1") => `(tactic| (with_reducible first
  | refine i_seq ?_ | refine i_asg ?_ | refine i_ret ?_ | refine i_next ?_ | refine i_drop ?_ | refine i_ifS ?_ | refine i_if ?_ | refine i_and ?_ | refine i_or ?_ | refine i_not ?_ | refine i_test ?_ | refine i_tB ?_ | refine i_bl ?_ | refine i_yes ?_
  | refine i_op ?_ | refine i_un ?_ | refine i_chain ?_ | refine i_andV ?_ | refine i_orV ?_ | refine i_notV ?_ | refine i_cb ?_ | refine i_cons ?_ | refine i_nil ?_ | refine i_bm ?_ | refine i_bm0 ?_ | refine i_c ?_ | refine i_name ?_ | refine i_sub ?_
  | refine i_call ?_ | refine i_lst ?_ | refine i_tup ?_ | refine i_par ?_ | refine i_par2 ?_ | refine i_sl ?_ | refine i_np ?_ | refine i_pt ?_ | refine i_int ?_ | refine i_m0 ?_ | refine i_m1 ?_ | refine i_isS ?_
  | refine i_rI0 ?_ | refine i_inSign ?_ | refine i_notInSign ?_ | refine i_int1 ?_ | refine i_tru ?_ | refine i_isN ?_ | refine i_notN ?_ | refine iteT ?_ | refine iteF ?_ | refine i_brk ?_ | refine i_rt ?_ | refine i_nx ?_ | refine i_bk ?_ | refine i_ct ?_ | refine i_for ?_ | refine i_lc ?_ | refine i_dc ?_ | refine i_iL ?_ | refine i_iT ?_ | refine i_iR1 ?_ | refine i_iR2 ?_ | refine i_iS ?_ | refine i_iE ?_ | refine i_iEK ?_ | refine i_iEQ ?_ | refine i_iZS ?_ | refine i_dget ?_ | refine i_fld ?_ | refine i_sfld ?_ | refine i_dput ?_ | refine i_meth ?_ | refine i_rU ?_ | refine i_cont ?_ | refine i_make ?_))
local macro_rules | `(tactic| walk_at "v2") => `(tactic| (first
  | ((with_reducible refine' i_var ?k1 ?_); (case k1 => exact rfl))
  | ((with_reducible refine' i_eq ?k1 ?_); (case k1 => exact rfl))
  | ((with_reducible refine' i_ne ?k1 ?_); (case k1 => exact rfl))
  | ((with_reducible refine' i_ixL ?k1 ?k2 ?_); (case k1 => walk_at "h"); (case k2 => exact rfl))
  | ((with_reducible refine' i_ixT ?k1 ?k2 ?_); (case k1 => walk_at "h"); (case k2 => exact rfl))
  | ((with_reducible refine' i_lenL ?k1 ?_); (case k1 => walk_at "h"))
  | ((with_reducible refine' i_lenT ?k1 ?_); (case k1 => walk_at "h"))
  | (refine i_wipe (show wipe _ _ = wipe _ _ from rfl) ?_)
  | ((with_reducible refine' i_setL ?k1 ?k2 ?_); (case k1 => walk_at "h"); (case k2 => exact rfl))
  | ((with_reducible refine' i_tyl ?k1 ?_); (case k1 => walk_at "h"))))
local macro_rules | `(tactic| walk_at "v") => `(tactic| repeat (first | walk_at "v1" | walk_at "v2"))

variable {P : Program} {w : World} {K :
      PySem.W.Frag} {mg : Str → Option Value} {base : Heap}
abbrev s_law_ndo : Stmt := top 35
abbrev N_law_ndo : List Str := ["stream", "pages", "one", "kind", "reads", "writes", "values", "page"]
abbrev P_law_ndo : List Str := ["stream", "pages"]
theorem sc_law_ndo : FnScope N_law_ndo P_law_ndo (defScope s_law_ndo) := ⟨rfl, rfl, rfl, by decide +kernel, rfl, by decide +kernel, by decide +kernel⟩
abbrev FdChance (K : PySem.W.Frag) (mg : Str → Option Value) := Fd K mg "_law_chance" s_law_chance P_law_chance
abbrev FdNWhen (K : PySem.W.Frag) (mg : Str → Option Value) := Fd K mg "_law_nwhen" s_law_nwhen P_law_nwhen
def spNDo (a b : Addr) : Sp := fun vs H Q _ => ∃ (n : Nat) (N : Addr) (pg : List Str), vs = [.ref a, .ref N] ∧ H N = some (.lst (pg.map V.str)) ∧ N ∉ [a, b] ∧ 1 ≤ pg.length ∧ pg.length ≤ 3 ∧ StreamAt a b n H ∧ n < 2 ^ 37 ∧
  ∀ s v H', s.Ok pg → s.wh.length ≤ 2 → NewM [a, b] H H' (stepD s) v → StreamAt a b (n + 40) H' → Keep [a, b] H H' → Q v H'
/-- how the turn stands while reads and writes are drawn -/
structure JDo (a b N : Addr) (pg : List Str) (x : Str) (d : Int) (H0 : Hp) (m : Nat) (σ : L2.St) (H : Hp) : Prop where
  ex : ∃ (qr qw : Addr) (rd wr : List Str), σ = [some (.ref a), some (.ref N), some (.str x), some (.int d), some (.ref qr), some (.ref qw), none, none] ∧ H qr = some (.lst (rd.map V.str)) ∧ H qw = some (.lst (wr.map V.str)) ∧ qr ∉ [a, b] ∧ qw ∉ [a, b] ∧ rd.Sublist pg ∧ wr.Sublist pg ∧ wr ≠ []
  hN : H N = some (.lst (pg.map V.str))
  kp : Keep [a, b] H0 H
  st : StreamAt a b m H
theorem pick_str {pg : List Str} {x : V} {i : Nat} (h : (pg.map V.str)[i]? = some x) : ∃ y, x = .str y ∧ y ∈ pg := by
  rw [List.getElem?_map] at h
  obtain ⟨y, hy, rfl⟩ := Option.map_eq_some_iff.mp h
  exact ⟨y, rfl, List.mem_of_getElem? hy⟩
theorem ok_ndo {a b : Addr} (d : Fd K mg "_law_ndo" s_law_ndo P_law_ndo) (d_law_below : FdB K mg) (d_law_lot : FdLot K mg) (d_law_pick : FdPick K mg) (d_law_chance : FdChance K mg) (d_law_nwhen : FdNWhen K mg) (B : Blt2 K mg) : FnOk P w K mg base CX0 4 d.f d.fd P_law_ndo (spNDo a b) := by
  have G_law_below : FnOk P w K mg base CX0 1 d_law_below.f d_law_below.fd P_law_below (spBelow a b) := ok_below d_law_below B.toBlt
  have G_law_lot : FnOk P w K mg base CX0 2 d_law_lot.f d_law_lot.fd P_law_lot (spLot a b) := ok_lot d_law_lot d_law_below B.toBlt
  have G_law_pick : FnOk P w K mg base CX0 2 d_law_pick.f d_law_pick.fd P_law_pick (spPick a b) := ok_pick d_law_pick d_law_below B.toBlt
  have G_law_chance : FnOk P w K mg base CX0 2 d_law_chance.f d_law_chance.fd P_law_chance (spChance a b) := ok_chance d_law_chance d_law_below B.toBlt
  have G_law_nwhen : FnOk P w K mg base CX0 3 d_law_nwhen.f d_law_nwhen.fd P_law_nwhen (spNWhen a b) := ok_nwhen d_law_nwhen d_law_below d_law_lot B
  refine d.F.ok sc_law_ndo (fun vs H Q E h => ?_) (fun cdv A outer s H vs Q E hr h => ?_)
  · obtain ⟨n, N, pg, rfl, _⟩ := h
    rfl
  · obtain ⟨n, N, pg, rfl, hN, nN, l1, l3, st, hn, k⟩ := h
    refine ⟨_, (pss_cons (ps_set (i := 2) sc_law_ndo.nd rfl (by first | exact Or.inl rfl | exact Or.inr rfl) (pe_call G_law_pick (hr.mono (by decide)) (by rfl) d_law_pick.g d_law_pick.F.kp d_law_pick.b .nil pass0 (pa_cons (pv 0) (pa_cons (pv 1) pa_nil))))
      (pss_cons (ps_set (i := 3) sc_law_ndo.nd rfl (by first | exact Or.inl rfl | exact Or.inr rfl) (pe_call G_law_below (hr.mono (by decide)) (by rfl) d_law_below.g d_law_below.F.kp d_law_below.b .nil pass0 (pa_cons (pv 0) (pa_cons pe_int pa_nil))))
      (pss_cons (ps_par (i := 4) (j := 5) (by rfl) sc_law_ndo.nd rfl rfl (by decide) rfl rfl (pa_cons (pe_lst pa_nil) (pa_cons (pe_lst (pa_cons (pv 2) pa_nil)) pa_nil)) (by rfl))
      (pss_cons (PS.by_ (t' := fun D σ H1 => ∃ x d, x ∈ pg ∧ JDo a b N pg x d H (n + 2) σ H1 ∧ ∀ σ' H', JDo a b N pg x d H (n + 2) σ' H' → D.nx σ' H') ⟨_, (ps_if (pt_cmpR op_lt (pv 3) pe_int (nomark _)) (pss_one (ps_set (i := 4) sc_law_ndo.nd rfl (by first | exact Or.inl rfl | exact Or.inr rfl) (pe_lst (pa_cons (pv 2) pa_nil)))) pss_nil), by
          rintro D σ H1 ⟨x, d, mx, ⟨⟨qr, qw, rd, wr, rfl, hqr, hqw, nqr, nqw, sr, sw, nw⟩, hN1, kp, st1⟩, q⟩
          walk_at "v"
          refine ifd (fun c => ?_) (fun c => ?_)
          · walk_at "v"
            refine ⟨show 1 ≤ sizeLine by decide, fun p1 hp1 => ?_⟩
            exact q _ _ ⟨⟨p1, qw, [x], wr, rfl, upd_same, h_new hqw hp1, st1.nm hp1, nqw, List.singleton_sublist.mpr mx, sw, nw⟩, h_new hN1 hp1, kp.new hp1, st1.new hp1⟩
          · exact q _ _ ⟨⟨qr, qw, rd, wr, rfl, hqr, hqw, nqr, nqw, sr, sw, nw⟩, hN1, kp, st1⟩⟩)
      (pss_cons (PS.by_ (t' := fun D σ H1 => ∃ x d, x ∈ pg ∧ JDo a b N pg x d H (n + 2) σ H1 ∧ ∀ σ' H', JDo a b N pg x d H (n + 3) σ' H' → D.nx σ' H') ⟨_, (ps_if (PW.pt (pw_or (pt_cmpR op_eq (pv 3) pe_int (nomark _)) (pw_or1 (pt_cmpR op_eq (pv 3) pe_int (nomark _))))) (pss_one (ps_set (i := 4) sc_law_ndo.nd rfl (by first | exact Or.inl rfl | exact Or.inr rfl) (pe_lst (pa_cons (pe_call G_law_pick (hr.mono (by decide)) (by rfl) d_law_pick.g d_law_pick.F.kp d_law_pick.b .nil pass0 (pa_cons (pv 0) (pa_cons (pv 1) pa_nil))) pa_nil)))) pss_nil), by
          rintro D σ H1 ⟨x, d, mx, ⟨⟨qr, qw, rd, wr, rfl, hqr, hqw, nqr, nqw, sr, sw, nw⟩, hN1, kp, st1⟩, q⟩
          walk_at "v"
          have pick : ∀ (R : VK), (∀ (y : Str) q2 H2, y ∈ pg → H2 q2 = some (.lst [.str y]) → H2 qw = some (.lst (wr.map V.str)) → q2 ∉ [a, b] → H2 N = some (.lst (pg.map V.str)) → Keep [a, b] H H2 → StreamAt a b (n + 3) H2 → R (.ref q2) H2) →
              spPick a b [.ref a, .ref N] H1 (fun v H2 => [v].length ≤ sizeLine ∧ ∀ q2, H2 q2 = none → R (.ref q2) (upd H2 q2 (.lst [v]))) E0 := fun R z => by
            refine ⟨n + 2, N, _, rfl, hN1, nN, by rw [List.length_map]; omega, by rw [List.length_map]; omega, st1, by omega, fun y i H2 hy st2 kp2 => ⟨show 1 ≤ sizeLine by decide, fun q2 hq2 => ?_⟩⟩
            obtain ⟨y, rfl, my⟩ := pick_str hy
            exact z y q2 _ my upd_same (h_new (kp2 _ _ nqw hqw) hq2) (st2.nm hq2) (h_new (kp2 _ _ nN hN1) hq2) ((kp.trans kp2).new hq2) (st2.new hq2)
          refine ifd (fun c => ?_) (fun c => ?_)
          · refine iteT ?_
            walk_at "v"
            refine pick (fun v H2 => gName 4 v [some (V.ref a), some (V.ref N), some (V.str x), some (V.int d), some (V.ref qr), some (V.ref qw), none, none] H2 D.nx) (fun y q2 H2 my h2 hw2 n2 hN2 kp2 st2 => ?_)
            exact q _ _ ⟨⟨q2, qw, [y], wr, rfl, h2, hw2, n2, nqw, List.singleton_sublist.mpr my, sw, nw⟩, hN2, kp2, st2⟩
          · walk_at "v"
            refine ifd (fun c => ?_) (fun c => ?_)
            · walk_at "v"
              refine pick (fun v H2 => gName 4 v [some (V.ref a), some (V.ref N), some (V.str x), some (V.int d), some (V.ref qr), some (V.ref qw), none, none] H2 D.nx) (fun y q2 H2 my h2 hw2 n2 hN2 kp2 st2 => ?_)
              exact q _ _ ⟨⟨q2, qw, [y], wr, rfl, h2, hw2, n2, nqw, List.singleton_sublist.mpr my, sw, nw⟩, hN2, kp2, st2⟩
            · exact q _ _ ⟨⟨qr, qw, rd, wr, rfl, hqr, hqw, nqr, nqw, sr, sw, nw⟩, hN1, kp, st1.mono (by omega)⟩⟩)
      (pss_cons (PS.by_ (t' := fun D σ H1 => ∃ x d, x ∈ pg ∧ JDo a b N pg x d H (n + 3) σ H1 ∧ ∀ σ' H', JDo a b N pg x d H (n + 9) σ' H' → D.nx σ' H') ⟨_, (ps_if (pt_cmpR op_gt (pv 3) pe_int (nomark _)) (pss_cons (ps_set (i := 4) sc_law_ndo.nd rfl (by first | exact Or.inl rfl | exact Or.inr rfl) (pe_call G_law_lot (hr.mono (by decide)) (by rfl) d_law_lot.g d_law_lot.F.kp d_law_lot.b .nil pass0 (pa_cons (pv 0) (pa_cons (pv 1) (pa_cons pe_int pa_nil)))))
      (pss_one (ps_setLc (i := 5) (own := [("page", 7)]) (g := gName 7) rfl sc_law_ndo.nd rfl rfl (sw_true rfl rfl rfl (by decide +kernel)) (w_list K (pv 1)) (blkOk_by (own := [("page", 7)]) (N := N_law_ndo) (sc := defScope s_law_ndo) (by decide +kernel)) (fun _ _ _ _ _ => by exact (pg_name (i := 7) sc_law_ndo.nd rfl (by first | exact Or.inl rfl | exact Or.inr rfl))) (fun _ _ _ _ _ => by exact (pts_one (PW.pt (pw_or (pt_cmpR op_eq (pv 7) (pv 2) (nomark _)) (pw_or1 (pt_val (pe_call G_law_chance (hr.mono (by decide)) (by rfl) d_law_chance.g d_law_chance.F.kp d_law_chance.b .nil pass0 (pa_cons (pv 0) (pa_cons pe_int pa_nil))))))))) (fun _ _ _ _ _ => by exact (pv 7))))) pss_nil), by
          rintro D σ H1 ⟨x, d, mx, ⟨⟨qr, qw, rd, wr, rfl, hqr, hqw, nqr, nqw, sr, sw, nw⟩, hN1, kp, st1⟩, q⟩
          walk_at "v"
          refine ifd (fun c => ?_) (fun c => ?_)
          · walk_at "v"
            refine ⟨n + 3, N, pg.map V.str, 2, rfl, hN1, nN, by decide, by decide, by rw [List.length_map]; omega, st1, by omega, fun q2 ys H2 sl hq hq2 st2 kp2 => ?_⟩
            obtain ⟨l, rfl, sl'⟩ := sub_strs sl
            rw [List.length_map] at st2
            have hN2 := kp2 _ _ nN hN1
            walk_at "v"
            refine w_lst hN2 ?_
            have nq2 := st1.nm hq
            refine lc_by (walk_list (xs := pg.map V.str)) fun D1 hD1 => ⟨fun i H' => (∃ w : List Str, H' D1 = some (.lst (w.map V.str)) ∧ w.Sublist (pg.take i) ∧ (x ∈ pg.take i → x ∈ w)) ∧ StreamAt a b (n + 3 + pg.length + i) H' ∧ Keep [a, b] H2 H', ⟨⟨[], upd_same, by simp, by simp⟩, (st2.new hD1).mono (by omega), (Keep.refl _ _).new hD1⟩, fun i H' _ ⟨_, _, kp3⟩ => SqL.of (kp3 _ _ nN hN2), ?_, ?_⟩
            · rintro i y H3 H4 hi ⟨⟨wl, hw, sw3, xw⟩, st3, kp3⟩ ⟨rfl, hy⟩
              rw [List.getElem?_map] at hy
              obtain ⟨y, hy', rfl⟩ := Option.map_eq_some_iff.mp hy
              replace hy := hy'
              have hil : i < pg.length := (List.getElem?_eq_some_iff.mp hy).1
              have et : pg.take (i + 1) = pg.take i ++ [y] := by rw [List.take_succ, hy]; rfl
              have hDab := st2.nm hD1
              have hDab' := st2.na hD1
              have lwl : wl.length ≤ 3 := Nat.le_trans sw3.length_le (by rw [List.length_take]; omega)
              have add : ∀ {H5 : Hp}, StreamAt a b (n + 3 + pg.length + (i + 1)) H5 → Keep [a, b] H4 H5 → ∃ acc, H5 D1 = some (.lst acc) ∧ acc.length < sizeLine ∧ (fun i H' => (∃ w : List Str, H' D1 = some (.lst (w.map V.str)) ∧ w.Sublist (pg.take i) ∧ (x ∈ pg.take i → x ∈ w)) ∧ StreamAt a b (n + 3 + pg.length + i) H' ∧ Keep [a, b] H2 H') (i + 1) (upd H5 D1 (.lst (acc ++ [.str y]))) := fun {H5} st5 kp5 => by
                refine ⟨_, kp5 _ _ hDab hw, by rw [List.length_map]; exact small1000 (by omega), ⟨wl ++ [y], by rw [upd_same, List.map_append]; rfl, by rw [et]; exact sw3.append (List.Sublist.refl _), fun h => ?_⟩, st5.put hDab'.1 hDab'.2, (kp3.trans kp5).new' hD1⟩
                rw [et] at h
                rcases List.mem_append.mp
                      h with h | h
                · simp [xw h]
                · simp at h; simp [h]
              walk_at "v"
              refine ifd (fun c => ?_) (fun c => ?_)
              · refine iteT ?_
                walk_at "v"
                exact add (st3.mono (by omega)) (Keep.refl _ _)
              · walk_at "v"
                refine ⟨n + 3 + pg.length + i, 2, rfl, by decide, by decide, st3, by omega, fun cb H5 st5 kp5 => ?_⟩
                walk_at "v"
                cases cb with
                | true =>
                  refine iteT ?_
                  walk_at "v"
                  exact add st5 kp5
                | false =>
                  refine iteF ?_
                  refine ⟨⟨wl, kp5 _ _ hDab hw, by rw [et]; exact sw3.trans (List.sublist_append_left _ _), fun h => ?_⟩, st5, kp3.trans kp5⟩
                  rw [et] at h
                  rcases List.mem_append.mp
                        h with h | h
                  · exact xw h
                  · simp at h; subst h; exact absurd rfl c
            · rintro H3 ⟨⟨wl, hw, sw3, xw⟩, st3, kp3⟩
              rw [List.length_map, List.take_length] at sw3 xw
              rw [List.length_map] at st3
              refine q _ _ ⟨⟨q2, D1, l, wl, rfl, kp3 _ _ nq2 hq2, hw, nq2, st2.nm hD1, sl', sw3, fun e => ?_⟩, kp3 _ _ nN hN2, (kp.trans kp2).trans kp3, st3.mono (by omega)⟩
              have := xw mx
              rw [e] at this; simp at this
          · exact q _ _ ⟨⟨qr, qw, rd, wr, rfl, hqr, hqw, nqr, nqw, sr, sw, nw⟩, hN1, kp, st1.mono (by omega)⟩⟩)
      (pss_cons (ps_set (i := 6) sc_law_ndo.nd rfl (by first | exact Or.inl rfl | exact Or.inr rfl) (pe_call G_law_lot (hr.mono (by decide)) (by rfl) d_law_lot.g d_law_lot.F.kp d_law_lot.b .nil pass0 (pa_cons (pv 0) (pa_cons (pv 5) (pa_cons pe_int pa_nil)))))
      (pss_one (ps_ret (pe_tup (pa_cons pe_str (pa_cons (pe_callTy (c_tuple K) (by rfl) B.tuple (by decide +kernel) (pa_cons (pv 4) pa_nil)) (pa_cons (pe_callTy (c_tuple K) (by rfl) B.tuple (by decide +kernel) (pa_cons (pv 5) pa_nil)) (pa_cons (pe_callTy (c_tuple K) (by rfl) B.tuple (by decide +kernel) (pa_cons (pv 6) pa_nil)) (pa_cons (pe_call G_law_nwhen (hr.mono (by decide)) (by rfl) d_law_nwhen.g d_law_nwhen.F.kp d_law_nwhen.b .nil pass0 (pa_cons (pv 0) (pa_cons (pv 1) (pa_cons pe_tri0 pa_nil)))) pa_nil))))))))))))))), ?_⟩
    walk_at "v"
    refine ⟨n, N, _, rfl, hN, nN, by rw [List.length_map]; omega, by rw [List.length_map]; omega, st, by omega, fun x i H1 hx st1 kp1 => ?_⟩
    obtain ⟨x, rfl, mx⟩ := pick_str hx
    walk_at "v"
    refine ⟨n + 1, 7, rfl, by decide, by decide, st1, by omega, fun d1 H2 d10 d11 st2 kp2 => ?_⟩
    have kp02 := kp1.trans kp2
    walk_at "v"
    refine ⟨show 0 ≤ sizeLine by decide, fun q1 hq1 => ?_⟩
    walk_at "v"
    refine ⟨show 1 ≤ sizeLine by decide, fun q2 hq2 => ?_⟩
    have hN2 := kp02 _ _ nN hN
    refine ⟨.ref q1, .ref q2, rfl, ?_⟩
    refine ⟨x, d1, mx, ⟨⟨q1, q2, [], [x], rfl, h_new upd_same hq2, upd_same, st2.nm hq1, (st2.new hq1).nm hq2, List.nil_sublist _, List.singleton_sublist.mpr mx, by simp⟩, h_new (h_new hN2 hq1) hq2, (kp02.new hq1).new hq2, (st2.new hq1).new hq2⟩, fun σ' H' j => ⟨x, d1, mx, j, fun σ' H' j => ⟨x, d1, mx, j, fun σ' H' j => ?_⟩⟩⟩
    obtain ⟨⟨qr, qw, rd, wr, rfl, hqr, hqw, nqr, nqw, sr, sw, nw⟩, hN1, kp, st1⟩ := j
    have lw := sw.length_le
    walk_at "v"
    refine ⟨n + 9, qw, wr.map V.str, 6, rfl, hqw, nqw, by decide, by decide, by rw [List.length_map]; omega, st1, by omega, fun qv ys H3 sl hq hqv st3 kp3 => ?_⟩
    obtain ⟨vl, rfl, sv⟩ := sub_strs sl
    rw [List.length_map] at st3
    have kp03 := kp.trans kp3
    walk_at "v"
    refine i_tupleL (kp3 _ _ nqr hqr) (fun t1 ht1 => ?_)
    have n1 := NewM.strs rd kp03 ht1
    have kp04 := kp03.new (o := .tup (rd.map V.str)) ht1
    have st4 := st3.new (o := .tup (rd.map V.str)) ht1
    have hqw4 := h_new (o := .tup (rd.map V.str)) (kp3 _ _ nqw hqw) ht1
    have hqv4 := h_new (o := .tup (rd.map V.str)) hqv ht1
    have hN4 := h_new (o := .tup (rd.map V.str)) (kp3 _ _ nN hN1) ht1
    generalize upd H3 t1 (.tup (rd.map V.str)) = H4 at n1 kp04 st4 hqw4 hqv4 hN4
    walk_at "v"
    refine i_tupleL hqw4 (fun t2 ht2 => ?_)
    have n2 := NewM.strs wr kp04 ht2
    have n15 := n1.upd (o := .tup (wr.map V.str)) ht2
    have kp05 := kp04.new (o := .tup (wr.map V.str)) ht2
    have st5 := st4.new (o := .tup (wr.map V.str)) ht2
    have hqv5 := h_new (o := .tup (wr.map V.str)) hqv4 ht2
    have hN5 := h_new (o := .tup (wr.map V.str)) hN4 ht2
    generalize upd H4 t2 (.tup (wr.map V.str)) = H5 at n2 n15 kp05 st5 hqv5 hN5
    walk_at "v"
    refine i_tupleL hqv5 (fun t3 ht3 => ?_)
    have n3 := NewM.strs vl kp05 ht3
    have n16 := n15.upd (o := .tup (vl.map V.str)) ht3
    have n26 := n2.upd (o := .tup (vl.map V.str)) ht3
    have kp06 := kp05.new (o := .tup (vl.map V.str)) ht3
    have st6 := st5.new (o := .tup (vl.map V.str)) ht3
    have hN6 := h_new (o := .tup (vl.map V.str)) hN5 ht3
    generalize upd H5 t3 (.tup (vl.map V.str)) = H6 at n3 n16 n26 kp06 st6 hN6
    walk_at "v"
    intro t4 H7 n4 s7
    have kp07 := kp06.trans (Keep.of_same s7)
    walk_at "v"
    refine ⟨n + 9 + wr.length, H, N, pg, ⟨[], [], []⟩, .ref t4, rfl, s7 _ _ hN6, nN, l3, kp07, st.trk, n4.toM.pre kp06, ⟨List.nil_sublist _, List.nil_sublist _, List.nil_sublist _⟩, st6.same s7, by omega, fun ts v' H8 okt lt nv st8 kp8 => ?_⟩
    walk_at "v"
    refine ⟨show 5 ≤ sizeLine by decide, fun t5 ht5 => ?_⟩
    have kp78 : Keep [a, b] H6 H8 := (Keep.of_same s7).trans kp8
    refine k ⟨.do_ rd wr vl, ts⟩ _ _ ⟨⟨sr, sw, nw, sv⟩, okt⟩ lt (NewM.tup (kp06.trans kp78) ht5 fun S t m => DtAll.cons (show Dt S H8 (.str "do") (.str "do") by unfold Dt; rfl) (DtAll.cons (n16.keep kp78 S t m) (DtAll.cons (n26.keep kp78 S t m) (DtAll.cons (n3.keep kp78 S t m) (DtAll.cons (nv S t m) DtAll.nil))))) ((st8.new ht5).mono (by omega)) ((kp06.trans kp78).new ht5)
end Lr
set_option Elab.async false
set_option linter.all false
set_option maxRecDepth 100000
set_option maxHeartbeats 4000000
namespace Lr
open PySem PySem.Spec PyProof.Rows L2 TL
local macro_rules | `(tactic| walk_at "ne") => `(tactic| (first | assumption | (refine ne_sym ?_; assumption) | (exact ne_of_none (by assumption) (by assumption)) | (exact ne_sym (ne_of_none (by assumption) (by assumption)))))
local macro_rules | `(tactic| walk_at "h") => `(tactic| (first | assumption | exact upd_same | (refine h_new ?_ (by assumption); walk_at "h") | (refine h_ne (by walk_at "ne") ?_; walk_at "h")))
local macro_rules | `(tactic| walk_at "v1") => `(tactic| (with_reducible first
  | refine i_seq ?_ | refine i_asg ?_ | refine i_ret ?_ | refine i_next ?_ | refine i_drop ?_ | refine i_ifS ?_ | refine i_if ?_ | refine i_and ?_ | refine i_or ?_ | refine i_not ?_ | refine i_test ?_ | refine i_tB ?_ | refine i_bl ?_ | refine i_yes ?_
  | refine i_op ?_ | refine i_un ?_ | refine i_chain ?_ | refine i_andV ?_ | refine i_orV ?_ | refine i_notV ?_ | refine i_cb ?_ | refine i_cons ?_ | refine i_nil ?_ | refine i_bm ?_ | refine i_bm0 ?_ | refine i_c ?_ | refine i_name ?_ | refine i_sub ?_
  | refine i_call ?_ | refine i_lst ?_ | refine i_tup ?_ | refine i_par ?_ | refine i_par2 ?_ | refine i_sl ?_ | refine i_np ?_ | refine i_pt ?_ | refine i_int ?_ | refine i_m0 ?_ | refine i_m1 ?_ | refine i_isS ?_
  | refine i_rI0 ?_ | refine i_inSign ?_ | refine i_notInSign ?_ | refine i_int1 ?_ | refine i_tru ?_ | refine i_isN ?_ | refine i_notN ?_ | refine iteT ?_ | refine iteF ?_ | refine i_brk ?_ | refine i_rt ?_ | refine i_nx ?_ | refine i_bk ?_ | refine i_ct ?_ | refine i_for ?_ | refine i_lc ?_ | refine i_dc ?_ | refine i_iL ?_ | refine i_iT ?_ | refine i_iR1 ?_ | refine i_iR2 ?_ | refine i_iS ?_ | refine i_iE ?_ | refine i_iEK ?_ | refine i_iEQ ?_ | refine i_iZS ?_ | refine i_dget ?_ | refine i_fld ?_ | refine i_sfld ?_ | refine i_dput ?_ | refine i_meth ?_ | refine i_rU ?_ | refine i_cont ?_ | refine i_make ?_))
local macro_rules | `(tactic| walk_at "v2") => `(tactic| (first
  | ((with_reducible refine' i_var ?k1 ?_); (case k1 => exact rfl))
  | ((with_reducible refine' i_eq ?k1 ?_); (case k1 => exact rfl))
  | ((with_reducible refine' i_ne ?k1 ?_); (case k1 => exact rfl))
  | ((with_reducible refine' i_ixL ?k1 ?k2 ?_); (case k1 => walk_at "h"); (case k2 => exact rfl))
  | ((with_reducible refine' i_ixT ?k1 ?k2 ?_); (case k1 => walk_at "h"); (case k2 => exact rfl))
  | ((with_reducible refine' i_lenL ?k1 ?_); (case k1 => walk_at "h"))
  | ((with_reducible refine' i_lenT ?k1 ?_); (case k1 => walk_at "h"))
  | (refine i_wipe (show wipe _ _ = wipe _ _ from rfl) ?_)
  | ((with_reducible refine' i_setL ?k1 ?k2 ?_); (case k1 => walk_at "h"); (case k2 => exact rfl))
  | ((with_reducible refine' i_tyl ?k1 ?_); (case k1 => walk_at "h"))))
local macro_rules | `(tactic| walk_at "v") => `(tactic| repeat (first | walk_at "v1" | walk_at "v2"))

variable {P : Program} {w : World} {K :
      PySem.W.Frag} {mg : Str → Option Value} {base : Heap}
abbrev s_law_nrule : Stmt := top 36
abbrev N_law_nrule : List Str := ["stream", "pages", "steps", "page", "lot", "clean", "sure", "fresh", "turn", "one"]
abbrev P_law_nrule : List Str := ["stream"]
theorem sc_law_nrule : FnScope N_law_nrule P_law_nrule (defScope s_law_nrule) := ⟨rfl, rfl, rfl, by decide +kernel, rfl, by decide +kernel, by decide +kernel⟩
abbrev FdNDo (K : PySem.W.Frag) (mg : Str → Option Value) := Fd K mg "_law_ndo" s_law_ndo P_law_ndo
abbrev FdNames (K : PySem.W.Frag) (mg : Str → Option Value) := Fd K mg "_law_names" s_law_names P_law_names
def ruleD (R : RG) : PyData := .list [.list (R.pages.map .str), stepsD R.steps]
def spNRule (a b : Addr) : Sp := fun vs H Q _ => ∃ (n : Nat), vs = [.ref a] ∧ StreamAt a b n H ∧ n < 2 ^ 36 ∧
  ∀ R v H', R.Ok → (∀ s ∈ R.steps, s.wh.length ≤ 2) → NewM [a, b] H H' (ruleD R) v → StreamAt a b (n + 1000) H' → Keep [a, b] H H' → Q v H'
/-- the steps drawn so far -/
structure JH (a b N D : Addr) (pg : List Str) (H0 : Hp) (m c : Nat) (H : Hp) : Prop where
  ex : ∃ ss : List Sd, (∀ s ∈ ss, s.Ok pg ∧ s.wh.length ≤ 2) ∧ 1 ≤ ss.length ∧ ss.length ≤ c ∧ Acc [a, b] H0 H D (ss.map stepD)
  hN : H N = some (.lst (pg.map V.str))
  st : StreamAt a b m H
  tr : Trk [a, b] H0
  nN : N ∉ [a, b]
  nND : N ≠ D
theorem JH.kp {a b N D : Addr} {pg : List Str} {H0 H H' : Hp} {m m' c : Nat} (j : JH a b N D pg H0 m c H) (k : Keep [a, b] H H') (st : StreamAt a b m' H') : JH a b N D pg H0 m' c H' := by
  obtain ⟨ss, h1, h2, h3, ac⟩ := j.ex
  exact ⟨⟨ss, h1, h2, h3, ac.skip j.tr k⟩, k _ _ j.nN j.hN, st, j.tr, j.nN, j.nND⟩
theorem JH.mono {a b N D : Addr} {pg : List Str} {H0 H : Hp} {m m' c c' : Nat} (j : JH a b N D pg H0 m c H) (h : m ≤ m') (h' : c ≤ c') : JH a b N D pg H0 m' c' H := by
  obtain ⟨ss, h1, h2, h3, ac⟩ := j.ex
  exact ⟨⟨ss, h1, h2, by omega, ac⟩, j.hN, j.st.mono h, j.tr, j.nN, j.nND⟩
theorem JH.app {a b N D : Addr} {pg : List Str} {H0 H H' : Hp} {m m' c : Nat} {s : Sd} {v : V} {Q : VK} (j : JH a b N D pg H0 m c H) (hc : c ≤ 900) (ok : s.Ok pg) (lw : s.wh.length ≤ 2) (n : NewM [a, b] H H' (stepD s) v) (k : Keep [a, b] H H') (st : StreamAt a b m' H')
    (q : ∀ H2, JH a b N D pg H0 m' (c + 1) H2 → Q .non H2) : rAppend (.ref D) [v] H' Q := by
  obtain ⟨ss, h1, h2, h3, ac⟩ := j.ex
  obtain ⟨acc, ea, la, _⟩ := id ac.ex
  obtain ⟨e8, ac8⟩ := ac.step j.tr ea n k
  refine i_app e8 (by rw [la, List.length_map]; exact small1000 (by omega)) (q _ ?_)
  have hD : D ∉ [a, b] := j.tr.nm ac.fr
  have hD' : D ≠ a ∧ D ≠ b := by simpa using hD
  refine ⟨⟨ss ++ [s], fun z hz => ?_, by simp, by simp; omega, by rw [List.map_append]; exact ac8⟩, ?_, st.put hD'.1 hD'.2, j.tr, j.nN, j.nND⟩
  · rcases List.mem_append.mp hz with hz | hz
    · exact h1 z hz
    · simp at hz; subst hz; exact ⟨ok, lw⟩
  · rw [upd_ne j.nND]
    exact k _ _ j.nN j.hN
theorem JH.lst {a b N D : Addr} {pg : List Str} {H0 H : Hp} {m c : Nat} (j : JH a b N D pg H0 m c H) : ∃ acc, H D = some (.lst acc) := by
  obtain ⟨ss, h1, h2, h3, ac⟩ := j.ex
  obtain ⟨acc, ea, _⟩ := ac.ex
  exact ⟨acc, ea⟩
theorem JH.alone {a b N D : Addr} {pg : List Str} {H0 H1 H5 : Hp} {mj m c : Nat} {x : Str} {t : Tri} {v : V} {R : VK} (j : JH a b N D pg H0 mj c H1) (hc : c ≤ 900) (hx : (Kd.alone x).Ok pg) (ht : t.Ok pg) (kp : Keep [a, b] H1 H5) (nt : NewM [a, b] H1 H5 (triD t) v) (st : StreamAt a b m H5) (hm : m < 2 ^ 38) (l3 : pg.length ≤ 3)
    (q : ∀ H7, JH a b N D pg H0 (m + 20) (c + 1) H7 → R .non H7) : spNWhen a b [.ref a, .ref N, v] H5 (fun v' H6 => 2 ≤ sizeLine ∧ ∀ p, H6 p = none → rAppend (.ref D) [.ref p] (upd H6 p (.tup [.str x, v'])) R) E0 := by
  refine ⟨m, H1, N, pg, t, v, rfl, kp _ _ j.nN j.hN, j.nN, l3, kp, j.st.trk, nt, ht, st, hm, fun ts v' H6 okt lt nv st6 kp6 => ⟨by decide, fun e3 he3 => ?_⟩⟩
  have kp16 := kp.trans kp6
  exact j.app (s := ⟨.alone x, ts⟩) hc ⟨hx, okt⟩ lt (NewM.tup kp16 he3 fun S t mm => DtAll.cons (show Dt S H6 (.str x) (.str x) by unfold Dt; rfl) (DtAll.cons (nv S t mm) DtAll.nil)) (kp16.new he3) (st6.new he3) q
theorem perm_ex {α : Type} (f : α → PyData) {ys xs : List V} (p : ys.Perm xs) : ∀ {as : List α}, as.length = xs.length → ∃ bs : List α, bs.Perm as ∧ ∀ S H, DtAll S H (as.map f) xs → DtAll S H (bs.map f) ys := by
  induction p with
  | nil => intro as h; exact ⟨as, List.Perm.refl _, fun S H d => d⟩
  | cons x p ih =>
    intro as h
    cases as with
    | nil => simp at h
    | cons a as =>
      obtain ⟨bs, pb, hb⟩ := ih (as := as) (by simpa using h)
      refine ⟨a :: bs, pb.cons a, fun S H d => ?_⟩
      obtain ⟨y, ys', e, d1, d2⟩ := DtAll.cons_iff.mp d
      cases e
      exact DtAll.cons d1 (hb S H d2)
  | swap x y l =>
    intro as h
    match as, h with
    | a1 :: a2 :: as, h =>
      refine ⟨a2 :: a1 :: as, List.Perm.swap _ _ _, fun S H d => ?_⟩
      obtain ⟨y1, ys1, e, d1, d2⟩ := DtAll.cons_iff.mp d
      cases e
      obtain ⟨y2, ys2, e, d3, d4⟩ := DtAll.cons_iff.mp d2
      cases e
      exact DtAll.cons d3 (DtAll.cons d1 d4)
  | trans p1 p2 ih1 ih2 =>
    intro as h
    obtain ⟨bs, pb, hb⟩ := ih2 (as := as) h
    obtain ⟨cs, pc, hc⟩ := ih1 (as := bs) (by rw [pb.length_eq, h, p2.length_eq])
    exact ⟨cs, pc.trans pb, fun S H d => hc S H (hb S H d)⟩
theorem DtAll.take {S : List Addr} {H : Hp} : ∀ {ds : List PyData} {xs : List V} (n : Nat), DtAll S H ds xs → DtAll S H (ds.take n) (xs.take n)
  | ds, xs, 0, _ => by simp; exact DtAll.nil
  | [], xs, n + 1, d => by obtain rfl := DtAll.nil_iff.mp d; simp; exact DtAll.nil
  | a :: ds, xs, n + 1, d => by
    obtain ⟨y, ys, rfl, d1, d2⟩ := DtAll.cons_iff.mp d
    exact DtAll.cons d1 (DtAll.take n d2)
def P2 (a b N D : Addr) (pg : List Str) (H1 : Hp) (m : Nat) (σ : L2.St) (H : Hp) (lp : Addr) (l : List Str) : Prop := (∃ (x : Str) (v5 v6 v7 v8 v9 : Option V), σ = [some (.ref a), some (.ref N), some (.ref D), some (.str x), some (.ref lp), v5, v6, v7, v8, v9]) ∧ H lp = some (.tup (l.map V.str)) ∧ NewM [a, b] H1 H (lotT l) (.ref lp) ∧ l.Sublist pg ∧ l ≠ [] ∧ lp ∉ [a, b] ∧ Keep [a, b] H1 H ∧ StreamAt a b m H
def P3 (a b N D : Addr) (pg : List Str) (H1 : Hp) (m : Nat) (σ : L2.St) (H : Hp) (lp : Addr) (l : List Str) (cp : Addr) (cl : List Str) : Prop := (∃ (x : Str) (v6 v7 v8 v9 : Option V), σ = [some (.ref a), some (.ref N), some (.ref D), some (.str x), some (.ref lp), some (.ref cp), v6, v7, v8, v9]) ∧ NewM [a, b] H1 H (lotT l) (.ref lp) ∧ NewM [a, b] H1 H (lotT cl) (.ref cp) ∧ l.Sublist pg ∧ l ≠ [] ∧ cl.Sublist pg ∧ Keep [a, b] H1 H ∧ StreamAt a b m H
def P4 (a b N D : Addr) (pg : List Str) (H1 : Hp) (m : Nat) (σ : L2.St) (H : Hp) (l c s : List Str) : Prop := ∃ (lp cp sp : Addr), (∃ (x : Str) (v7 v8 v9 : Option V), σ = [some (.ref a), some (.ref N), some (.ref D), some (.str x), some (.ref lp), some (.ref cp), some (.ref sp), v7, v8, v9]) ∧ NewM [a, b] H1 H (lotT l) (.ref lp) ∧ NewM [a, b] H1 H (lotT c) (.ref cp) ∧ NewM [a, b] H1 H (lotT s) (.ref sp) ∧ l.Sublist pg ∧ l ≠ [] ∧ c.Sublist pg ∧ s.Sublist pg ∧ Keep [a, b] H1 H ∧ StreamAt a b m H
theorem ok_nrule {a b : Addr} (d : Fd K mg "_law_nrule" s_law_nrule P_law_nrule) (d_law_below : FdB K mg) (d_law_lot : FdLot K mg) (d_law_pick : FdPick K mg) (d_law_chance : FdChance K mg) (d_law_mixed : Fd K mg "_law_mixed" s_law_mixed P_law_mixed) (d_law_names : FdNames K mg) (d_law_name : FdName K mg) (d_law_nwhen : FdNWhen K mg) (d_law_ndo : FdNDo K mg) (B : Blt2 K mg) : FnOk P w K mg base CX0 5 d.f d.fd P_law_nrule (spNRule a b) := by
  have G_law_below : FnOk P w K mg base CX0 1 d_law_below.f d_law_below.fd P_law_below (spBelow a b) := ok_below d_law_below B.toBlt
  have G_law_pick : FnOk P w K mg base CX0 2 d_law_pick.f d_law_pick.fd P_law_pick (spPick a b) := ok_pick d_law_pick d_law_below B.toBlt
  have G_law_chance : FnOk P w K mg base CX0 2 d_law_chance.f d_law_chance.fd P_law_chance (spChance a b) := ok_chance d_law_chance d_law_below B.toBlt
  have G_law_mixed : FnOk P w K mg base CX0 2 d_law_mixed.f d_law_mixed.fd P_law_mixed (spMixed a b) := ok_mixed d_law_mixed d_law_below B.toBlt
  have G_law_names : FnOk P w K mg base CX0 4 d_law_names.f d_law_names.fd P_law_names (spNames a b) := ok_names d_law_names d_law_name d_law_below d_law_pick B.toBlt
  have G_law_nwhen : FnOk P w K mg base CX0 3 d_law_nwhen.f d_law_nwhen.fd P_law_nwhen (spNWhen a b) := ok_nwhen d_law_nwhen d_law_below d_law_lot B
  have G_law_ndo : FnOk P w K mg base CX0 4 d_law_ndo.f d_law_ndo.fd P_law_ndo (spNDo a b) := ok_ndo d_law_ndo d_law_below d_law_lot d_law_pick d_law_chance d_law_nwhen B
  refine d.F.ok sc_law_nrule (fun vs H Q E h => ?_) (fun cdv A outer s H vs Q E hr h => ?_)
  · obtain ⟨n, rfl, _⟩ := h
    rfl
  · obtain ⟨n, rfl, st, hn, k⟩ := h
    refine ⟨_, (pss_cons (ps_set (i := 1) sc_law_nrule.nd rfl (by first | exact Or.inl rfl | exact Or.inr rfl) (pe_call G_law_names (hr.mono (by decide)) (by rfl) d_law_names.g d_law_names.F.kp d_law_names.b .nil pass0 (pa_cons (pv 0) (pa_cons (pe_call G_law_pick (hr.mono (by decide)) (by rfl) d_law_pick.g d_law_pick.F.kp d_law_pick.b .nil pass0 (pa_cons (pv 0) (pa_cons (pe_lst (pa_cons pe_int (pa_cons pe_int (pa_cons pe_int (pa_cons pe_int (pa_cons pe_int pa_nil)))))) pa_nil))) pa_nil))))
      (pss_cons (ps_setLc (i := 2) (own := [("turn", 8)]) (g := gName 8) (tt := tYes) rfl sc_law_nrule.nd rfl rfl (sw_true rfl rfl rfl (by decide +kernel)) (pi_range1 (by rfl) B.range (pa_cons (pe_op op_add pe_int (pe_call G_law_below (hr.mono (by decide)) (by rfl) d_law_below.g d_law_below.F.kp d_law_below.b .nil pass0 (pa_cons (pv 0) (pa_cons pe_int pa_nil)))) pa_nil)) (blkOk_by (own := [("turn", 8)]) (N := N_law_nrule) (sc := defScope s_law_nrule) (by decide +kernel)) (fun _ _ _ _ _ => by exact (pg_name (i := 8) sc_law_nrule.nd rfl (by first | exact Or.inl rfl | exact Or.inr rfl))) (fun _ _ _ _ _ => pts_nil) (fun _ _ _ _ _ => by exact (pe_call G_law_ndo (hr.mono (by decide)) (by rfl) d_law_ndo.g d_law_ndo.F.kp d_law_ndo.b .nil pass0 (pa_cons (pv 0) (pa_cons (pv 1) pa_nil)))))
      (pss_cons (PS.by_ (t' := fun D0 σ H1 => ∃ N D pg, JH a b N D pg H (n + 149) 3 H1 ∧ 1 ≤ pg.length ∧ pg.length ≤ 3 ∧ (∃ v3 v4 v5 v6 v7 v8 v9, σ = [some (.ref a), some (.ref N), some (.ref D), v3, v4, v5, v6, v7, v8, v9]) ∧ ∀ v3 v4 v5 v6 v7 v8 v9 H2, JH a b N D pg H (n + 269) 6 H2 → D0.nx [some (.ref a), some (.ref N), some (.ref D), v3, v4, v5, v6, v7, v8, v9] H2) ⟨_, (ps_for PassesOwn.never rfl (w_list K (pv 1)) (pg_name (i := 3) sc_law_nrule.nd rfl (by first | exact Or.inl rfl | exact Or.inr rfl))
      (pss_cons (ps_set (i := 4) sc_law_nrule.nd rfl (by first | exact Or.inl rfl | exact Or.inr rfl) (pe_tup (pa_cons (pv 3) pa_nil)))
      (pss_cons (PS.by_ (t' := fun D0 σ H2 => ∃ N D pg H1 m lp l c, P2 a b N D pg H1 m σ H2 lp l ∧ JH a b N D pg H m c H1 ∧ m < 2 ^ 37 ∧ 1 ≤ pg.length ∧ pg.length ≤ 3 ∧ ∀ σ' H' lp l, P2 a b N D pg H1 (m + 1) σ' H' lp l → D0.nx σ' H') ⟨_, (ps_if (pt_val (pe_call G_law_chance (hr.mono (by decide)) (by rfl) d_law_chance.g d_law_chance.F.kp d_law_chance.b .nil pass0 (pa_cons (pv 0) (pa_cons pe_int pa_nil)))) (pss_one (ps_set (i := 4) sc_law_nrule.nd rfl (by first | exact Or.inl rfl | exact Or.inr rfl) (pe_callTy (c_tuple K) (by rfl) B.tuple (by decide +kernel) (pa_cons (pv 1) pa_nil)))) pss_nil), by
          rintro D0 σ H2 ⟨N, D, pg, H1, m, lp, l, c, ⟨⟨x, v5, v6, v7, v8, v9, rfl⟩, hlp, nl, sl, lne, nlp, kp, st2⟩, j, hm, l1, l3, q⟩
          walk_at "v"
          refine ⟨m, 6, rfl, by decide, by decide, st2, by omega, fun c1 H3 st3 kp3 => ?_⟩
          walk_at "v"
          cases c1 with
          | true =>
            refine iteT ?_
            walk_at "v"
            refine i_tupleL ((kp.trans kp3) _ _ j.nN j.hN) (fun q2 hq2 => ?_)
            refine q _ _ q2 pg ⟨⟨x, v5, v6, v7, v8, v9, rfl⟩, upd_same, NewM.strs pg (kp.trans kp3) hq2, List.Sublist.refl _, (fun e => by rw [e] at l1; simp at l1), st3.nm hq2, (kp.trans kp3).new hq2, st3.new hq2⟩
          | false =>
            refine iteF ?_
            exact q _ _ lp l ⟨⟨x, v5, v6, v7, v8, v9, rfl⟩, kp3 _ _ nlp hlp, nl.keep kp3, sl, lne, nlp, kp.trans kp3, st3⟩⟩)
      (pss_cons (PS.by_ (t' := fun D0 σ H2 => ∃ N D pg H1 m lp l c, P2 a b N D pg H1 m σ H2 lp l ∧ JH a b N D pg H (m - 1) c H1 ∧ m < 2 ^ 37 ∧ 1 ≤ pg.length ∧ pg.length ≤ 3 ∧ ∀ cp cl σ' H', P3 a b N D pg H1 (m + 3) σ' H' lp l cp cl → D0.nx σ' H') ⟨_, (ps_set (i := 5) sc_law_nrule.nd rfl (by first | exact Or.inl rfl | exact Or.inr rfl) (pe_callTy (c_tuple K) (by rfl) B.tuple (by decide +kernel) (pa_cons (pe_lc (own := [("one", 9)]) (g := gName 9) rfl sc_law_nrule.nd (w_list K (pv 1)) (blkOk_by (own := [("one", 9)]) (N := N_law_nrule) (sc := defScope s_law_nrule) (by decide +kernel)) (fun _ _ _ _ _ => by exact (pg_name (i := 9) sc_law_nrule.nd rfl (by first | exact Or.inl rfl | exact Or.inr rfl))) (fun _ _ _ _ _ => by exact (pts_one (PW.pt (pw_and (pt_cmpR (o_notIn K) (pv 9) (pv 4) (by rfl)) (pw_and1 (pt_val (pe_call G_law_chance (hr.mono (by decide)) (by rfl) d_law_chance.g d_law_chance.F.kp d_law_chance.b .nil pass0 (pa_cons (pv 0) (pa_cons pe_int pa_nil))))))))) (fun _ _ _ _ _ => by exact (pv 9))) pa_nil))), by
          rintro D0 σ H2 ⟨N, D, pg, H1, m, lp, l, c, ⟨⟨x, v5, v6, v7, v8, v9, rfl⟩, hlp, nl, sl, lne, nlp, kp, st2⟩, j, hm, l1, l3, q⟩
          walk_at "v"
          have hN2 := kp _ _ j.nN j.hN
          refine w_lst hN2 ?_
          refine lc_by (walk_list (xs := pg.map V.str)) fun D1 hD1 => ⟨fun i H' => (∃ w : List Str, H' D1 = some (.lst (w.map V.str)) ∧ w.Sublist (pg.take i)) ∧ StreamAt a b (m + i) H' ∧ Keep [a, b] H2 H', ⟨⟨[], upd_same, by simp⟩, (st2.new hD1).mono (by omega), (Keep.refl _ _).new hD1⟩, fun i H' _ ⟨_, _, kp3⟩ => SqL.of (kp3 _ _ j.nN hN2), ?_, ?_⟩
          · rintro i y H3 H4 hi ⟨⟨wl, hw, sw3⟩, st3, kp3⟩ ⟨rfl, hy⟩
            rw [List.getElem?_map] at hy
            obtain ⟨y, hy', rfl⟩ := Option.map_eq_some_iff.mp hy
            replace hy := hy'
            have hil : i < pg.length := (List.getElem?_eq_some_iff.mp hy).1
            have et : pg.take (i + 1) = pg.take i ++ [y] := by rw [List.take_succ, hy]; rfl
            have hDab := st2.nm hD1
            have hDab' := st2.na hD1
            have lwl : wl.length ≤ 3 := Nat.le_trans sw3.length_le (by rw [List.length_take]; omega)
            have skip : ∀ {H5 : Hp}, StreamAt a b (m + (i + 1)) H5 → Keep [a, b] H4 H5 → (fun i H' => (∃ w : List Str, H' D1 = some (.lst (w.map V.str)) ∧ w.Sublist (pg.take i)) ∧ StreamAt a b (m + i) H' ∧ Keep [a, b] H2 H') (i + 1) H5 := fun {H5} st5 kp5 =>
              ⟨⟨wl, kp5 _ _ hDab hw, by rw [et]; exact sw3.trans (List.sublist_append_left _ _)⟩, st5, kp3.trans kp5⟩
            walk_at "v"
            refine ⟨lp, l.map V.str, rfl, .inr (SqT.of (kp3 _ _ nlp hlp)), rfl, flat_strs l, ?_⟩
            refine ⟨_, rfl, ?_⟩
            cases hk : (if true then !inV (V.str y) (l.map V.str) else inV (V.str y) (l.map V.str)) with
            | false =>
              refine iteF ?_
              refine iteF ?_
              exact skip (st3.mono (by omega)) (Keep.refl _ _)
            | true =>
              refine iteT ?_
              walk_at "v"
              refine ⟨m + i, 3, rfl, by decide, by decide, st3, by omega, fun cb H5 st5 kp5 => ?_⟩
              walk_at "v"
              cases cb with
              | true =>
                refine iteT ?_
                walk_at "v"
                refine ⟨_, kp5 _ _ hDab hw, by rw [List.length_map]; exact small1000 (by omega), ⟨wl ++ [y], by rw [upd_same, List.map_append]; rfl, by rw [et]; exact sw3.append (List.Sublist.refl _)⟩, st5.put hDab'.1 hDab'.2, (kp3.trans kp5).new' hD1⟩
              | false =>
                refine iteF ?_
                exact skip st5 kp5
          · rintro H3 ⟨⟨wl, hw, sw3⟩, st3, kp3⟩
            rw [List.length_map, List.take_length] at sw3
            rw [List.length_map] at st3
            walk_at "v"
            refine i_tupleL hw (fun q8 hq8 => ?_)
            have kp13 := kp.trans kp3
            refine q q8 wl _ _ ⟨⟨x, v6, v7, v8, _, rfl⟩, (nl.keep kp3).upd hq8, NewM.strs wl kp13 hq8, sl, lne, sw3, kp13.new hq8, (st3.new hq8).mono (by omega)⟩⟩)
      (pss_cons (ps_set (i := 6) sc_law_nrule.nd rfl (by first | exact Or.inl rfl | exact Or.inr rfl) (pe_ifExp (pt_val (pe_call G_law_chance (hr.mono (by decide)) (by rfl) d_law_chance.g d_law_chance.F.kp d_law_chance.b .nil pass0 (pa_cons (pv 0) (pa_cons pe_int pa_nil)))) (pe_tup pa_nil) (pv 4)))
      (pss_one (PS.by_ (t' := fun D0 σ H2 => ∃ N D pg H1 m l cl sl c, P4 a b N D pg H1 m σ H2 l cl sl ∧ JH a b N D pg H (m - 5) c H1 ∧ m < 2 ^ 37 ∧ c ≤ 900 ∧ pg.length ≤ 3 ∧ ∀ v7 v8 v9 x lp cp sp H', JH a b N D pg H (m + 21) (c + 1) H' → D0.nx [some (.ref a), some (.ref N), some (.ref D), some (.str x), some (.ref lp), some (.ref cp), some (.ref sp), v7, v8, v9] H') ⟨_, (ps_if (pt_not (pt_val (pe_call G_law_chance (hr.mono (by decide)) (by rfl) d_law_chance.g d_law_chance.F.kp d_law_chance.b .nil pass0 (pa_cons (pv 0) (pa_cons pe_int pa_nil))))) (pss_one (ps_expr (e_bm K PySem.F.plainAttrs_list PySem.F.slot_list_append PySem.F.type_list_append mt_append (pv 2) (pa_cons (pe_tup (pa_cons pe_str (pa_cons (pv 4) (pa_cons (pe_call G_law_nwhen (hr.mono (by decide)) (by rfl) d_law_nwhen.g d_law_nwhen.F.kp d_law_nwhen.b .nil pass0 (pa_cons (pv 0) (pa_cons (pv 1) (pa_cons (pe_tup (pa_cons (pv 5) (pa_cons (pe_tup pa_nil) (pa_cons (pv 6) pa_nil)))) pa_nil)))) pa_nil)))) pa_nil)))) pss_nil), by
          rintro D0 σ H2 ⟨N, D, pg, H1, m, l, cl, sl, c, ⟨lp, cp, sp, ⟨x, v7, v8, v9, rfl⟩, nl, nc, ns, sl1, lne, sc, ss, kp, st2⟩, j, hm, hc, l3, q⟩
          walk_at "v"
          refine ⟨m, 5, rfl, by decide, by decide, st2, by omega, fun c1 H3 st3 kp3 => ?_⟩
          have kp13 := kp.trans kp3
          walk_at "v"
          cases c1 with
          | true =>
            refine iteF ?_
            exact q _ _ _ _ _ _ _ _ ((j.kp kp13 st3).mono (by omega) (by omega))
          | false =>
            refine iteT ?_
            walk_at "v"
            obtain ⟨acc3, hD3⟩ := (j.kp kp13 st3).lst
            refine i_tyl hD3 ?_
            walk_at "v"
            refine ⟨show 0 ≤ sizeLine by decide, fun e1 he1 => ?_⟩
            have n1 : NewM [a, b] H1 _ (lotT []) (.ref e1) := NewM.strs [] kp13 he1
            have kp4 := kp13.new (o := .tup []) he1
            have st4 := st3.new (o := .tup []) he1
            have nl4 := (nl.keep kp3).upd (o := .tup []) he1
            have nc4 := (nc.keep kp3).upd (o := .tup []) he1
            have ns4 := (ns.keep kp3).upd (o := .tup []) he1
            have eH : ∃ H4, H4 = upd H3 e1 (.tup []) := ⟨_, rfl⟩
            obtain ⟨H4, eH⟩ := eH
            rw [show upd H3 e1 (.tup (([] : List Str).map V.str)) = H4 from eH.symm] at n1
            rw [← eH] at kp4 st4 nl4 nc4 ns4 ⊢
            clear eH
            walk_at "v"
            refine ⟨show 3 ≤ sizeLine by decide, fun e2 he2 => ?_⟩
            have nt : NewM [a, b] H1 _ (triD ⟨cl, [], sl⟩) (.ref e2) := NewM.tri (t := ⟨cl, [], sl⟩) kp4 he2 nc4 n1 ns4
            have kp5 := kp4.new (o := .tup [.ref cp, .ref e1, .ref sp]) he2
            have st5 := st4.new (o := .tup [.ref cp, .ref e1, .ref sp]) he2
            have nl5 := nl4.upd (o := .tup [.ref cp, .ref e1, .ref sp]) he2
            generalize upd H4 e2 (.tup [.ref cp, .ref e1, .ref sp]) = H5 at nt kp5 st5 nl5
            walk_at "v"
            refine ⟨m + 1, H1, N, pg, _, .ref e2, rfl, kp5 _ _ j.nN j.hN, j.nN, l3, kp5, j.st.trk, nt, ⟨sc, List.nil_sublist _, ss⟩, st5, by omega, fun ts v' H6 okt lt nv st6 kp6 => ?_⟩
            walk_at "v"
            refine ⟨show 3 ≤ sizeLine by decide, fun e3 he3 => ?_⟩
            walk_at "v"
            have kp16 := kp5.trans kp6
            refine j.app (s := ⟨.out l, ts⟩) (m' := m + 21) hc ⟨⟨sl1, lne⟩, okt⟩ lt (NewM.tup kp16 he3 fun S t mm => DtAll.cons (show Dt S H6 (.str "out") (.str "out") by unfold Dt; rfl) (DtAll.cons ((nl5.keep kp6) S t mm) (DtAll.cons (nv S t mm) DtAll.nil))) (kp16.new he3) ((st6.new he3).mono (by omega)) (fun H7 j7 => ?_)
            exact q _ _ _ _ _ _ _ _ j7⟩))))))), by
        rintro D0 σ H1 ⟨N, D, pg, j, l1, l3, ⟨v3, v4, v5, v6, v7, v8, v9, rfl⟩, q⟩
        walk_at "v"
        refine w_lst j.hN ?_
        refine for_by (walk_list (xs := pg.map V.str)) ⟨fun i σ H' => (∃ v3 v4 v5 v6 v7 v8 v9, σ = [some (.ref a), some (.ref N), some (.ref D), v3, v4, v5, v6, v7, v8, v9]) ∧ JH a b N D pg H (n + 149 + 40 * i) (3 + i) H', ⟨⟨_, _, _, _, _, _, _, rfl⟩, j⟩, fun i σ H' _ ⟨_, j⟩ => SqL.of j.hN, ?_, ?_⟩
        · rintro i y σ H3 H4 hi ⟨⟨v3, v4, v5, v6, v7, v8, v9, rfl⟩, j⟩ ⟨rfl, hy⟩
          rw [List.getElem?_map] at hy
          obtain ⟨y, hy', rfl⟩ := Option.map_eq_some_iff.mp hy
          have my := List.mem_of_getElem? hy'
          have hi3 : i < 3 := by simp at hi; omega
          walk_at "v"
          refine ⟨show 1 ≤ sizeLine by decide, fun t1 ht1 => ?_⟩
          refine ⟨N, D, pg, H4, _, t1, [y], _, ⟨⟨y, v5, v6, v7, v8, v9, rfl⟩, upd_same, NewM.strs [y] (Keep.refl _ _) ht1, List.singleton_sublist.mpr my, by simp, j.st.nm ht1, (Keep.refl _ _).new ht1, j.st.new ht1⟩, j, by simp at hi; omega, l1, l3, fun σ' H5 lp l p2 => ?_⟩
          refine ⟨N, D, pg, H4, _, lp, l, _, p2, j, by simp at hi; omega, l1, l3, fun cp cl σ2 H6 p3 => ?_⟩
          obtain ⟨⟨x, w6, w7, w8, w9, rfl⟩, nl, nc, sl, lne, sc, kp6, st6⟩ := p3
          walk_at "v"
          refine ⟨_, 4, rfl, by decide, by decide, st6, by omega, fun c4 H7 st7 kp7 => ?_⟩
          have kp47 := kp6.trans kp7
          walk_at "v"
          have fin : ∀ (sp : Addr) (sl' : List Str) (H8 : Hp), Keep [a, b] H7 H8 → StreamAt a b (n + 149 + 40 * i + 1 + 3 + 1) H8 → NewM [a, b] H4 H8 (lotT sl') (.ref sp) → sl'.Sublist pg → P4 a b N D pg H4 (n + 149 + 40 * i + 1 + 3 + 1) [some (.ref a), some (.ref N), some (.ref D), some (.str x), some (.ref lp), some (.ref cp), some (.ref sp), w7, w8, w9] H8 l cl sl' := fun sp sl' H8 k8 s8 n8 sb => ⟨lp, cp, sp, ⟨x, w7, w8, w9, rfl⟩, nl.keep (kp7.trans k8), nc.keep (kp7.trans k8), n8, sl, lne, sc, sb, kp47.trans k8, s8⟩
          cases c4 with
          | true =>
            refine iteT ?_
            walk_at "v"
            refine ⟨show 0 ≤ sizeLine by decide, fun q8 hq8 => ?_⟩
            exact ⟨N, D, pg, H4, _, l, cl, [], _, fin q8 [] _ ((Keep.refl _ _).new hq8) (st7.new hq8) (NewM.strs [] kp47 hq8) (List.nil_sublist _), j, by omega, by omega, l3, fun v7 v8 v9 x lp cp sp H9 j9 => ⟨⟨_, _, _, _, _, _, _, rfl⟩, j9.mono (by omega) (by omega)⟩⟩
          | false =>
            refine iteF ?_
            walk_at "v"
            exact ⟨N, D, pg, H4, _, l, cl, l, _, fin lp l _ (Keep.refl _ _) st7 (nl.keep kp7) sl, j, by omega, by omega, l3, fun v7 v8 v9 x lp cp sp H9 j9 => ⟨⟨_, _, _, _, _, _, _, rfl⟩, j9.mono (by omega) (by omega)⟩⟩
        · rintro σ H3 ⟨⟨v3, v4, v5, v6, v7, v8, v9, rfl⟩, j⟩
          rw [List.length_map] at j
          exact q _ _ _ _ _ _ _ _ (j.mono (by omega) (by omega))⟩)
      (pss_cons (PS.by_ (t' := fun D0 σ H2 => ∃ N D pg m c v3 v4 v5 v6 v7 v8 v9, σ = [some (.ref a), some (.ref N), some (.ref D), v3, v4, v5, v6, v7, v8, v9] ∧ JH a b N D pg H m c H2 ∧ m < 2 ^ 37 ∧ c ≤ 900 ∧ pg.length ≤ 3 ∧ ∀ H', JH a b N D pg H (m + 25) (c + 1) H' → D0.nx [some (.ref a), some (.ref N), some (.ref D), v3, v4, v5, v6, v7, v8, v9] H') ⟨_, (ps_if (pt_not (pt_val (pe_call G_law_chance (hr.mono (by decide)) (by rfl) d_law_chance.g d_law_chance.F.kp d_law_chance.b .nil pass0 (pa_cons (pv 0) (pa_cons pe_int pa_nil))))) (pss_one (ps_expr (e_bm K PySem.F.plainAttrs_list PySem.F.slot_list_append PySem.F.type_list_append mt_append (pv 2) (pa_cons (pe_tup (pa_cons pe_str (pa_cons (pe_call G_law_nwhen (hr.mono (by decide)) (by rfl) d_law_nwhen.g d_law_nwhen.F.kp d_law_nwhen.b .nil pass0 (pa_cons (pv 0) (pa_cons (pv 1) (pa_cons (pe_tup (pa_cons (pe_tup pa_nil) (pa_cons (pe_tup pa_nil) (pa_cons (pe_callTy (c_tuple K) (by rfl) B.tuple (by decide +kernel) (pa_cons (pe_slice (s_list K) (pv 1) po_none (po_some (pe_call G_law_below (hr.mono (by decide)) (by rfl) d_law_below.g d_law_below.F.kp d_law_below.b .nil pass0 (pa_cons (pv 0) (pa_cons pe_int pa_nil))))) pa_nil)) pa_nil)))) pa_nil)))) pa_nil))) pa_nil)))) pss_nil), by
          rintro D0 σ H1 ⟨N, D, pg, m, c, v3, v4, v5, v6, v7, v8, v9, rfl, j, hm, hc, l3, q⟩
          walk_at "v"
          refine ⟨m, 5, rfl, by decide, by decide, j.st, by omega, fun c1 H3 st3 kp3 => ?_⟩
          walk_at "v"
          cases c1 with
          | true =>
            refine iteF ?_
            exact q _ ((j.kp kp3 st3).mono (by omega) (by omega))
          | false =>
            refine iteT ?_
            walk_at "v"
            obtain ⟨acc3, hD3⟩ := (j.kp kp3 st3).lst
            refine i_tyl hD3 ?_
            walk_at "v"
            refine ⟨show 0 ≤ sizeLine by decide, fun e1 he1 => ?_⟩
            have n1 : NewM [a, b] H1 _ (lotT []) (.ref e1) := NewM.strs [] kp3 he1
            have kp4 := kp3.new (o := .tup []) he1
            have st4 := st3.new (o := .tup []) he1
            obtain ⟨H4, eH⟩ : ∃ H4, H4 = upd H3 e1 (.tup []) := ⟨_, rfl⟩
            rw [show upd H3 e1 (.tup (([] : List Str).map V.str)) = H4 from eH.symm] at n1
            rw [← eH] at kp4 st4 ⊢
            clear eH
            walk_at "v"
            refine ⟨show 0 ≤ sizeLine by decide, fun e2 he2 => ?_⟩
            have n2 : NewM [a, b] H1 _ (lotT []) (.ref e2) := NewM.strs [] kp4 he2
            have n15 := n1.upd (o := .tup []) he2
            have kp5 := kp4.new (o := .tup []) he2
            have st5 := st4.new (o := .tup []) he2
            obtain ⟨H5, eH⟩ : ∃ H5, H5 = upd H4 e2 (.tup []) := ⟨_, rfl⟩
            rw [show upd H4 e2 (.tup (([] : List Str).map V.str)) = H5 from eH.symm] at n2
            rw [← eH] at kp5 st5 n15 ⊢
            clear eH
            walk_at "v"
            refine ⟨m + 1, 2, rfl, by decide, by decide, st5, by omega, fun d1 H6 d10 d11 st6 kp6 => ?_⟩
            obtain ⟨y1, rfl⟩ : ∃ y : Nat, d1 = y := ⟨d1.toNat, by omega⟩
            have kp16 := kp5.trans kp6
            walk_at "v"
            refine ⟨N, _, rfl, SqL.of (kp16 _ _ j.nN j.hN), fun p1 hp1 => ?_⟩
            rw [cut_to, ← List.map_take]
            have kp7 := kp16.new (o := .lst ((pg.take y1).map V.str)) hp1
            have st7 := st6.new (o := .lst ((pg.take y1).map V.str)) hp1
            have n17 := (n15.keep kp6).upd (o := .lst ((pg.take y1).map V.str)) hp1
            have n27 := (n2.keep kp6).upd (o := .lst ((pg.take y1).map V.str)) hp1
            have h7 : upd H6 p1 (.lst ((pg.take y1).map V.str)) p1 = some (.lst ((pg.take y1).map V.str)) := upd_same
            generalize upd H6 p1 (.lst ((pg.take y1).map V.str)) = H7 at kp7 st7 n17 n27 h7
            walk_at "v"
            refine i_tupleL h7 (fun e3 he3 => ?_)
            have n3 : NewM [a, b] H1 _ (lotT (pg.take y1)) (.ref e3) := NewM.strs (pg.take y1) kp7 he3
            have kp8 := kp7.new (o := .tup ((pg.take y1).map V.str)) he3
            have st8 := st7.new (o := .tup ((pg.take y1).map V.str)) he3
            have n18 := n17.upd (o := .tup ((pg.take y1).map V.str)) he3
            have n28 := n27.upd (o := .tup ((pg.take y1).map V.str)) he3
            generalize upd H7 e3 (.tup ((pg.take y1).map V.str)) = H8 at n3 kp8 st8 n18 n28
            walk_at "v"
            refine ⟨show 3 ≤ sizeLine by decide, fun e4 he4 => ?_⟩
            have nt := NewM.tri (t := ⟨[], [], pg.take y1⟩) kp8 he4 n18 n28 n3
            exact j.alone (R := fun _ H' => D0.nx [some (.ref a), some (.ref N), some (.ref D), v3, v4, v5, v6, v7, v8, v9] H') hc (.inl rfl) ⟨List.nil_sublist _, List.nil_sublist _, List.take_sublist _ _⟩ (kp8.new he4) nt (st8.new he4) (by omega) l3 (fun H9 j9 => q H9 (j9.mono (by omega) (by omega)))⟩)
      (pss_cons (PS.by_ (t' := fun D0 σ H2 => ∃ N D pg m c v3 v4 v5 v6 v7 v8 v9, σ = [some (.ref a), some (.ref N), some (.ref D), v3, v4, v5, v6, v7, v8, v9] ∧ JH a b N D pg H m c H2 ∧ m < 2 ^ 36 + 5000 ∧ c ≤ 800 ∧ pg.length ≤ 3 ∧ ∀ v7 v3 H', JH a b N D pg H (m + 50) (c + 2) H' → D0.nx [some (.ref a), some (.ref N), some (.ref D), v3, v4, v5, v6, v7, v8, v9] H') ⟨_, (ps_if (pt_val (pe_call G_law_chance (hr.mono (by decide)) (by rfl) d_law_chance.g d_law_chance.F.kp d_law_chance.b .nil pass0 (pa_cons (pv 0) (pa_cons pe_int pa_nil)))) (pss_cons (PS.by_ (t' := fun D0 σ H2 => ∃ N D pg m c v3 v4 v5 v6 v7 v8 v9, σ = [some (.ref a), some (.ref N), some (.ref D), v3, v4, v5, v6, v7, v8, v9] ∧ JH a b N D pg H m c H2 ∧ m < 2 ^ 37 ∧ c ≤ 900 ∧ pg.length ≤ 3 ∧ ∀ H', JH a b N D pg H (m + 20) (c + 1) H' → D0.nx [some (.ref a), some (.ref N), some (.ref D), v3, v4, v5, v6, v7, v8, v9] H') ⟨_, (ps_expr (e_bm K PySem.F.plainAttrs_list PySem.F.slot_list_append PySem.F.type_list_append mt_append (pv 2) (pa_cons (pe_tup (pa_cons pe_str (pa_cons (pe_call G_law_nwhen (hr.mono (by decide)) (by rfl) d_law_nwhen.g d_law_nwhen.F.kp d_law_nwhen.b .nil pass0 (pa_cons (pv 0) (pa_cons (pv 1) (pa_cons pe_tri0 pa_nil)))) pa_nil))) pa_nil))), by
          rintro D0 σ H1 ⟨N, D, pg, m, c, v3, v4, v5, v6, v7, v8, v9, rfl, j, hm, hc, l3, q⟩
          walk_at "v"
          obtain ⟨acc3, hD3⟩ := j.lst
          refine i_tyl hD3 ?_
          walk_at "v"
          intro e1 H4 n1 s4
          walk_at "v"
          exact j.alone (R := fun _ H' => D0.nx [some (.ref a), some (.ref N), some (.ref D), v3, v4, v5, v6, v7, v8, v9] H') hc (.inr (.inl rfl)) ⟨List.nil_sublist _, List.nil_sublist _, List.nil_sublist _⟩ (Keep.of_same s4) n1.toM (j.st.same s4) (by omega) l3 q⟩)
      (pss_cons (ps_set (i := 7) sc_law_nrule.nd rfl (by first | exact Or.inl rfl | exact Or.inr rfl) (pe_callTy (c_tuple K) (by rfl) B.tuple (by decide +kernel) (pa_cons (pe_lc (own := [("page", 3)]) (g := gName 3) rfl sc_law_nrule.nd (w_list K (pv 1)) (blkOk_by (own := [("page", 3)]) (N := N_law_nrule) (sc := defScope s_law_nrule) (by decide +kernel)) (fun _ _ _ _ _ => by exact (pg_name (i := 3) sc_law_nrule.nd rfl (by first | exact Or.inl rfl | exact Or.inr rfl))) (fun _ _ _ _ _ => by exact (pts_one (pt_not (pt_val (pe_call G_law_chance (hr.mono (by decide)) (by rfl) d_law_chance.g d_law_chance.F.kp d_law_chance.b .nil pass0 (pa_cons (pv 0) (pa_cons pe_int pa_nil))))))) (fun _ _ _ _ _ => by exact (pv 3))) pa_nil)))
      (pss_one (ps_expr (e_bm K PySem.F.plainAttrs_list PySem.F.slot_list_append PySem.F.type_list_append mt_append (pv 2) (pa_cons (pe_tup (pa_cons pe_str (pa_cons (pe_call G_law_nwhen (hr.mono (by decide)) (by rfl) d_law_nwhen.g d_law_nwhen.F.kp d_law_nwhen.b .nil pass0 (pa_cons (pv 0) (pa_cons (pv 1) (pa_cons (pe_tup (pa_cons (pe_tup pa_nil) (pa_cons (pv 7) (pa_cons (pe_tup pa_nil) pa_nil)))) pa_nil)))) pa_nil))) pa_nil)))))) pss_nil), by
          rintro D0 σ H1 ⟨N, D, pg, m, c, v3, v4, v5, v6, v7, v8, v9, rfl, j, hm, hc, l3, q⟩
          walk_at "v"
          refine ⟨m, 2, rfl, by decide, by decide, j.st, by omega, fun c1 H3 st3 kp3 => ?_⟩
          walk_at "v"
          cases c1 with
          | false =>
            refine iteF ?_
            exact q _ _ _ ((j.kp kp3 st3).mono (by omega) (by omega))
          | true =>
            refine iteT ?_
            refine ⟨N, D, pg, m + 1, c, v3, v4, v5, v6, v7, v8, v9, rfl, j.kp kp3 st3, by omega, by omega, l3, fun H4 j4 => ?_⟩
            have st4 := j4.st
            have hN4 := j4.hN
            walk_at "v"
            refine w_lst hN4 ?_
            refine lc_by (walk_list (xs := pg.map V.str)) fun D1 hD1 => ⟨fun i H' => (∃ w : List Str, H' D1 = some (.lst (w.map V.str)) ∧ w.Sublist (pg.take i)) ∧ StreamAt a b (m + 21 + i) H' ∧ Keep [a, b] H4 H', ⟨⟨[], upd_same, by simp⟩, (st4.new hD1).mono (by omega), (Keep.refl _ _).new hD1⟩, fun i H' _ ⟨_, _, kp3⟩ => SqL.of (kp3 _ _ j.nN hN4), ?_, ?_⟩
            · rintro i y H5 H6 hi ⟨⟨wl, hw, sw3⟩, st5, kp5⟩ ⟨rfl, hy⟩
              rw [List.getElem?_map] at hy
              obtain ⟨y, hy', rfl⟩ := Option.map_eq_some_iff.mp hy
              replace hy := hy'
              have hil : i < pg.length := (List.getElem?_eq_some_iff.mp hy).1
              have et : pg.take (i + 1) = pg.take i ++ [y] := by rw [List.take_succ, hy]; rfl
              have hDab := st4.nm hD1
              have hDab' := st4.na hD1
              have lwl : wl.length ≤ 3 := Nat.le_trans sw3.length_le (by rw [List.length_take]; omega)
              walk_at "v"
              refine ⟨m + 21 + i, 7, rfl, by decide, by decide, st5, by omega, fun cb H7 st7 kp7 => ?_⟩
              walk_at "v"
              cases cb with
              | false =>
                refine iteT ?_
                walk_at "v"
                refine ⟨_, kp7 _ _ hDab hw, by rw [List.length_map]; exact small1000 (by omega), ⟨wl ++ [y], by rw [upd_same, List.map_append]; rfl, by rw [et]; exact sw3.append (List.Sublist.refl _)⟩, st7.put hDab'.1 hDab'.2, (kp5.trans kp7).new' hD1⟩
              | true =>
                refine iteF ?_
                exact ⟨⟨wl, kp7 _ _ hDab hw, by rw [et]; exact sw3.trans (List.sublist_append_left _ _)⟩, st7, kp5.trans kp7⟩
            · rintro H5 ⟨⟨wl, hw, sw3⟩, st5, kp5⟩
              rw [List.length_map, List.take_length] at sw3
              rw [List.length_map] at st5
              walk_at "v"
              refine i_tupleL hw (fun e0 he0 => ?_)
              have n0 : NewM [a, b] H4 _ (lotT wl) (.ref e0) := NewM.strs wl kp5 he0
              have kp6 := kp5.new (o := .tup (wl.map V.str)) he0
              have st6 := st5.new (o := .tup (wl.map V.str)) he0
              generalize upd H5 e0 (.tup (wl.map V.str)) = H6 at n0 kp6 st6
              walk_at "v"
              obtain ⟨acc3, hD3⟩ := (j4.kp kp6 st6).lst
              refine i_tyl hD3 ?_
              walk_at "v"
              refine ⟨show 0 ≤ sizeLine by decide, fun e1 he1 => ?_⟩
              have n1 : NewM [a, b] H4 _ (lotT []) (.ref e1) := NewM.strs [] kp6 he1
              have kp7 := kp6.new (o := .tup []) he1
              have st7 := st6.new (o := .tup []) he1
              have n07 := n0.upd (o := .tup []) he1
              obtain ⟨H7, eH⟩ : ∃ H7, H7 = upd H6 e1 (.tup []) := ⟨_, rfl⟩
              rw [show upd H6 e1 (.tup (([] : List Str).map V.str)) = H7 from eH.symm] at n1
              rw [← eH] at kp7 st7 n07 ⊢
              clear eH
              walk_at "v"
              refine ⟨show 0 ≤ sizeLine by decide, fun e2 he2 => ?_⟩
              have n2 : NewM [a, b] H4 _ (lotT []) (.ref e2) := NewM.strs [] kp7 he2
              have kp8 := kp7.new (o := .tup []) he2
              have st8 := st7.new (o := .tup []) he2
              have n08 := n07.upd (o := .tup []) he2
              have n18 := n1.upd (o := .tup []) he2
              obtain ⟨H8, eH⟩ : ∃ H8, H8 = upd H7 e2 (.tup []) := ⟨_, rfl⟩
              rw [show upd H7 e2 (.tup (([] : List Str).map V.str)) = H8 from eH.symm] at n2
              rw [← eH] at kp8 st8 n08 n18 ⊢
              clear eH
              walk_at "v"
              refine ⟨show 3 ≤ sizeLine by decide, fun e4 he4 => ?_⟩
              have nt := NewM.tri (t := ⟨[], wl, []⟩) kp8 he4 n18 n08 n2
              refine j4.alone (R := fun _ H' => D0.nx _ H') (by omega) (.inr (.inr rfl)) ⟨List.nil_sublist _, sw3, List.nil_sublist _⟩ (kp8.new he4) nt (st8.new he4) (by omega) l3 (fun H9 j9 => q _ _ H9 (j9.mono (by omega) (by omega)))⟩)
      (pss_one (ps_ret (pe_lst (pa_cons (pv 1) (pa_cons (pe_call G_law_mixed (hr.mono (by decide)) (by rfl) d_law_mixed.g d_law_mixed.F.kp d_law_mixed.b .nil pass0 (pa_cons (pv 0) (pa_cons (pe_slice (s_list K) (pv 2) po_none (po_some pe_int)) pa_nil))) pa_nil)))))))))), ?_⟩
    walk_at "v"
    refine ⟨show 5 ≤ sizeLine by decide, fun q1 hq1 => ?_⟩
    refine ⟨n, q1, _, rfl, upd_same, st.nm hq1, by decide, by decide, st.new hq1, by omega, fun x i H1 hx st1 kp1 => ?_⟩
    obtain ⟨m, rfl, m1, m3⟩ : ∃ m : Nat, x = .int m ∧ 1 ≤ m ∧ m ≤ 3 := by
      match i, hx with
      | 0, hx => cases hx; exact ⟨1, rfl, by decide, by decide⟩
      | 1, hx => cases hx; exact ⟨2, rfl, by decide, by decide⟩
      | 2, hx => cases hx; exact ⟨2, rfl, by decide, by decide⟩
      | 3, hx => cases hx; exact ⟨3, rfl, by decide, by decide⟩
      | 4, hx => cases hx; exact ⟨3, rfl, by decide, by decide⟩
    have kp01 := ((Keep.refl [a, b] H).new (o := .lst [.int 1, .int 2, .int 2, .int 3, .int 3]) hq1).trans kp1
    walk_at "v"
    refine ⟨n + 1, m, rfl, by omega, st1, by omega, fun pg N H2 so nd nm ly hN0 hN2 st2 kp2 => ?_⟩
    have kp02 := kp01.trans kp2
    have nN := st1.nm hN0
    have nNH := kp01.free hN0
    walk_at "v"
    refine ⟨n + 1 + 9 * m, 3, rfl, by decide, by decide, st2, by omega, fun d1 H3 d10 d11 st3 kp3 => ?_⟩
    obtain ⟨y1, rfl⟩ : ∃ y : Nat, d1 = y := ⟨d1.toNat, by omega⟩
    have kp03 := kp02.trans kp3
    have hN3 := kp3 _ _ nN hN2
    walk_at "v"
    rw [show (1 : Int) + (y1 : Nat) = ((1 + y1 : Nat) : Int) by omega]
    refine w_rg1 (by omega) ?_
    refine lc_by walk_range fun D hD => ⟨fun i H' => ∃ ss : List Sd, ss.length = i ∧ (∀ s ∈ ss, s.Ok pg ∧ s.wh.length ≤ 2) ∧ Acc [a, b] H H' D (ss.map stepD) ∧ StreamAt a b (n + 29 + 40 * i) H' ∧ Keep [a, b] H3 H', ⟨[], rfl, by simp, Acc.start kp03 hD, (st3.new hD).mono (by omega), (Keep.refl _ _).new hD⟩, fun _ _ _ _ => trivial, ?_, ?_⟩
    · rintro i x H4 H5 hi ⟨ss, ls, oks, ac, st4, kp4⟩ ⟨rfl, rfl⟩
      have hi' : i < 1 + y1 := by have := hi; omega
      walk_at "v"
      refine ⟨n + 29 + 40 * i, N, pg, rfl, kp4 _ _ nN hN3, nN, by omega, by omega, st4, by omega, fun s v H6 oks' lw nv st6 kp6 => ?_⟩
      obtain ⟨acc, ea, la, _⟩ := id ac.ex
      obtain ⟨e8, ac8⟩ := ac.step st.trk ea nv kp6
      have hDab := st3.na hD
      refine ⟨acc, e8, by rw [la, List.length_map, ls]; exact small1000 (by omega), ss ++ [s], by simp [ls], fun z hz => ?_, by rw [List.map_append]; exact ac8, (st6.put hDab.1 hDab.2).mono (by omega), (kp4.trans kp6).new' hD⟩
      rcases List.mem_append.mp
            hz with hz | hz
      · exact oks z hz
      · simp at hz; subst hz; exact ⟨oks', lw⟩
    · rintro H4 ⟨ss, ls, oks, ac, st4, kp4⟩
      have ls' : ss.length = 1 + y1 := by omega
      have nND : N ≠ D := ne_of_none hN3 hD
      refine ⟨N, D, pg, ⟨⟨ss, oks, by omega, by omega, ac⟩, kp4 _ _ nN hN3, st4.mono (by omega), st.trk, nN, nND⟩, by omega, by omega, ⟨_, _, _, _, _, _, _, rfl⟩, fun v3 v4 v5 v6 v7 v8 v9 H5 j5 => ?_⟩
      refine ⟨N, D, pg, _, _, v3, v4, v5, v6, v7, v8, v9, rfl, j5, by omega, by decide, by omega, fun H6 j6 => ?_⟩
      refine ⟨N, D, pg, _, _, v3, v4, v5, v6, v7, v8, v9, rfl, j6, by omega, by decide, by omega, fun v7 v3 H7 j7 => ?_⟩
      obtain ⟨ss7, ok7, p7, c7, ac7⟩ := j7.ex
      obtain ⟨acc7, ea7, la7, _⟩ := id ac7.ex
      walk_at "v"
      refine ⟨D, acc7, rfl, SqL.of ea7, fun p1 hp1 => ?_⟩
      rw [show cutV acc7 none (some 8) = acc7.take 8 from cut_to acc7 8]
      have la8 : (acc7.take 8).length ≤ 8 := by rw [List.length_take]; omega
      refine ⟨_, p1, acc7.take 8, rfl, .inl upd_same, by omega, j7.st.new hp1, by omega, fun q2 ys H8 py hq20 hq2 st8 kp8 => ?_⟩
      have kp78 : Keep [a, b] H7 H8 := ((Keep.refl _ _).new hp1).trans kp8
      walk_at "v"
      refine ⟨show 2 ≤ sizeLine by decide, fun r hr => ?_⟩
      obtain ⟨ss', ps, hs'⟩ := perm_ex stepD py (as := ss7.take 8) (by rw [List.length_take, List.length_take, la7, List.length_map])
      have kp08 := ac7.kp.trans kp78
      have sub8 : ∀ s ∈ ss', s ∈ ss7 := fun s hs => List.mem_of_mem_take (ps.subset hs)
      have lss : ss'.length = min 8 ss7.length := by rw [ps.length_eq, List.length_take]
      have nq2 : H q2 = none := (ac7.kp.trans ((Keep.refl [a, b] H7).new (o := .lst (acc7.take 8)) hp1)).free hq20
      refine k ⟨pg, ss'⟩ _ _ ⟨⟨so, nd, nm, by show 1 ≤ pg.length; omega, by show pg.length ≤ 3; omega⟩, fun s hs => (ok7 s (sub8 s hs)).1, by show 1 ≤ ss'.length; omega, by show ss'.length ≤ 8; omega⟩ (fun s hs => (ok7 s (sub8 s hs)).2) (NewM.lst kp08 hr fun S t mm => DtAll.cons ?_ (DtAll.cons ?_ DtAll.nil)) ((st8.new hr).mono (by omega)) (kp08.new hr)
      · show Dt S H8 (.list (pg.map .str)) (.ref N)
        exact dt_list (kp78 _ _ nN j7.hN) (DtAll.strs _) (t.nm nNH)
      · refine dt_list hq2 ?_ (t.nm nq2)
        have d7 : DtAll S H7 (ss7.map stepD) acc7 := by
          obtain ⟨acc', e', _, z⟩ := ac7.ex
          rw [ea7] at e'; cases e'
          exact DtAll.mono (fun x hx => List.mem_cons_of_mem _ hx) _ _ (z S t mm)
        have d8 := DtAll.take 8 d7
        rw [← List.map_take] at d8
        exact hs' S H8 (DtAll.keep (kp78.mono mm) _ _ d8)
end Lr
set_option Elab.async false
set_option linter.all false
set_option maxRecDepth 100000
set_option maxHeartbeats 4000000
namespace Lr
open PySem PySem.Spec PyProof.Rows L2 TL
local macro_rules | `(tactic| walk_at "ne") => `(tactic| (first | assumption | (refine ne_sym ?_; assumption) | (exact ne_of_none (by assumption) (by assumption)) | (exact ne_sym (ne_of_none (by assumption) (by assumption)))))
local macro_rules | `(tactic| walk_at "h") => `(tactic| (first | assumption | exact upd_same | (refine h_new ?_ (by assumption); walk_at "h") | (refine h_ne (by walk_at "ne") ?_; walk_at "h")))
local macro_rules | `(tactic| walk_at "v1") => `(tactic| (with_reducible first
  | refine i_seq ?_ | refine i_asg ?_ | refine i_ret ?_ | refine i_next ?_ | refine i_drop ?_ | refine i_ifS ?_ | refine i_if ?_ | refine i_and ?_ | refine i_or ?_ | refine i_not ?_ | refine i_test ?_ | refine i_tB ?_ | refine i_bl ?_ | refine i_yes ?_
  | refine i_op ?_ | refine i_un ?_ | refine i_chain ?_ | refine i_andV ?_ | refine i_orV ?_ | refine i_notV ?_ | refine i_cb ?_ | refine i_cons ?_ | refine i_nil ?_ | refine i_bm ?_ | refine i_bm0 ?_ | refine i_c ?_ | refine i_name ?_ | refine i_sub ?_
  | refine i_call ?_ | refine i_lst ?_ | refine i_tup ?_ | refine i_par ?_ | refine i_par2 ?_ | refine i_sl ?_ | refine i_np ?_ | refine i_pt ?_ | refine i_int ?_ | refine i_m0 ?_ | refine i_m1 ?_ | refine i_isS ?_
  | refine i_rI0 ?_ | refine i_inSign ?_ | refine i_notInSign ?_ | refine i_int1 ?_ | refine i_tru ?_ | refine i_isN ?_ | refine i_notN ?_ | refine iteT ?_ | refine iteF ?_ | refine i_brk ?_ | refine i_rt ?_ | refine i_nx ?_ | refine i_bk ?_ | refine i_ct ?_ | refine i_for ?_ | refine i_lc ?_ | refine i_dc ?_ | refine i_iL ?_ | refine i_iT ?_ | refine i_iR1 ?_ | refine i_iR2 ?_ | refine i_iS ?_ | refine i_iE ?_ | refine i_iEK ?_ | refine i_iEQ ?_ | refine i_iZS ?_ | refine i_dget ?_ | refine i_fld ?_ | refine i_sfld ?_ | refine i_dput ?_ | refine i_meth ?_ | refine i_rU ?_ | refine i_cont ?_ | refine i_make ?_))
local macro_rules | `(tactic| walk_at "v2") => `(tactic| (first
  | ((with_reducible refine' i_var ?k1 ?_); (case k1 => exact rfl))
  | ((with_reducible refine' i_eq ?k1 ?_); (case k1 => exact rfl))
  | ((with_reducible refine' i_ne ?k1 ?_); (case k1 => exact rfl))
  | ((with_reducible refine' i_ixL ?k1 ?k2 ?_); (case k1 => walk_at "h"); (case k2 => exact rfl))
  | ((with_reducible refine' i_ixT ?k1 ?k2 ?_); (case k1 => walk_at "h"); (case k2 => exact rfl))
  | ((with_reducible refine' i_lenL ?k1 ?_); (case k1 => walk_at "h"))
  | ((with_reducible refine' i_lenT ?k1 ?_); (case k1 => walk_at "h"))
  | (refine i_wipe (show wipe _ _ = wipe _ _ from rfl) ?_)
  | ((with_reducible refine' i_setL ?k1 ?k2 ?_); (case k1 => walk_at "h"); (case k2 => exact rfl))
  | ((with_reducible refine' i_tyl ?k1 ?_); (case k1 => walk_at "h"))))
local macro_rules | `(tactic| walk_at "v") => `(tactic| repeat (first | walk_at "v1" | walk_at "v2"))

variable {P : Program} {w : World} {K :
      PySem.W.Frag} {mg : Str → Option Value} {base : Heap}
abbrev s_law_nmade : Stmt := top 37
abbrev N_law_nmade : List Str := ["stream", "rule", "steps", "step", "lots", "when", "lot", "triple"]
abbrev P_law_nmade : List Str := ["stream", "rule"]
theorem sc_law_nmade : FnScope N_law_nmade P_law_nmade (defScope s_law_nmade) := ⟨rfl, rfl, rfl, by decide +kernel, rfl, by decide +kernel, by decide +kernel⟩
abbrev FdMixed (K : PySem.W.Frag) (mg : Str → Option Value) := Fd K mg "_law_mixed" s_law_mixed P_law_mixed
abbrev FdLoose (K : PySem.W.Frag) (mg : Str → Option Value) := Fd K mg "_law_loose" s_law_loose P_law_loose
/-! a step told in lists -/
def mixT (t : Tri) : PyData := .list [lstS t.c, lstS t.f, lstS t.s]
def mixS (u : Sd) : PyData := .list (.str (hdW u.k) :: ((mids u.k).map lstS ++ [.list (u.wh.map mixT)]))
theorem un_mixT (t : Tri) : un (mixT t) = un (triD t) := by
  rw [un_tri]; simp only [mixT, lstS, un, unAll, unAll_id]
theorem un_mixS (u : Sd) : un (mixS u) = un (stepD u) := by
  rw [un_step, un_when]
  have e1 : (u.wh.map mixT).map un = u.wh.map fun t => un (triD t) := by
    rw [List.map_map]; exact List.map_congr_left fun t _ => un_mixT t
  have e2 : ∀ l : List PyData, unAll l = l.map un := fun l => by
    induction l with
    | nil => rfl
    | cons a l ih => simp only [unAll, ih, List.map_cons]
  have e3 : ∀ l : List Str, un (lstS l) = .list (l.map .str) := fun l => un_lst l
  simp only [mixS, un, e2, List.map_cons, List.map_append, List.map_map, List.map_nil]
  rw [← e1, List.map_map]
  congr 3
  exact List.map_congr_left fun l _ => e3 l
theorem nodAll_sum {α : Type} (f : α → PyData) (n : Nat) : ∀ (l : List α), (∀ x ∈ l, nod (f x) ≤ n) → nodAll (l.map f) ≤ n * l.length
  | [], _ => by simp [nodAll]
  | x :: l, h => by
    have h1 := h x (by simp)
    have h2 := nodAll_sum f n l (fun y hy => h y (by simp [hy]))
    simp only [List.map_cons, nodAll, List.length_cons, Nat.mul_add]
    omega
theorem nod_lstS (l : List Str) : nod (lstS l) = 1 := by
  show nod (.list (l.map .str)) = 1
  simp only [nod, nod_strs]
theorem nod_mixS {u : Sd} (h : u.wh.length ≤ 2) : nod (mixS u) ≤ 13 := by
  have h1 : nodAll (u.wh.map mixT) ≤ 4 * u.wh.length := nodAll_sum mixT 4 _ (fun t _ => by simp [mixT, nod, nodAll, nod_lstS])
  have h2 : nodAll ((mids u.k).map lstS) ≤ 1 * (mids u.k).length := nodAll_sum lstS 1 _ (fun l _ => by rw [nod_lstS]; exact Nat.le_refl 1)
  have h3 := mids_len u.k
  simp only [mixS, nod, nodAll, nodAll_app]
  omega
theorem fit_mixS {u : Sd} (h : u.wh.length ≤ 1000) (h1 : ∀ l ∈ mids u.k, l.length ≤ 1000) (h2 : ∀ t ∈ u.wh, t.c.length ≤ 1000 ∧ t.f.length ≤ 1000 ∧ t.s.length ≤ 1000) : Fit 5 (mixS u) := by
  have h3 := mids_len u.k
  refine ⟨by simp; omega, fun d hd => ?_⟩
  simp only [List.mem_cons, List.mem_append, List.mem_map, List.not_mem_nil, or_false] at hd
  rcases hd with rfl | ⟨l, hl, rfl⟩ | rfl
  · trivial
  · exact fit_strs (k := 2) (h1 l hl)
  · refine ⟨by rw [List.length_map]; exact h, fun d hd => ?_⟩
    obtain ⟨t, ht, rfl⟩ := List.mem_map.mp hd
    obtain ⟨a, b, c⟩ := h2 t ht
    refine ⟨by simp, fun d hd => ?_⟩
    simp only [List.mem_cons, List.not_mem_nil, or_false] at hd
    rcases hd with rfl | rfl | rfl
    · exact fit_strs (k := 0) a
    · exact fit_strs (k := 0) b
    · exact fit_strs (k := 0) c
/-- lots put back into a kind -/
theorem set_mids : ∀ (k : Kd) (ls : List (List Str)), ls.length = (mids k).length → (∀ (i : Nat) l m, ls[i]? = some l → (mids k)[i]? = some m → l.Perm m) → ∃ k', mids k' = ls ∧ hdW k' = hdW k ∧ KdPerm k' k
  | .do_ r w v, ls, hl, h => by
    match ls, hl with
    | [x, y, z], _ => exact ⟨.do_ x y z, rfl, rfl, h 0 x r rfl rfl, h 1 y w rfl rfl, h 2 z v rfl rfl⟩
  | .out l, ls, hl, h => by
    match ls, hl with
    | [x], _ => exact ⟨.out x, rfl, rfl, h 0 x l rfl rfl⟩
  | .alone x, ls, hl, h => by
    match ls, hl with
    | [], _ => exact ⟨.alone x, rfl, rfl, rfl⟩
theorem tris_snoc : ∀ {us ts : List Tri} {u t : Tri}, TrisPerm us ts → TriPerm u t → TrisPerm (us ++ [u]) (ts ++ [t])
  | [], [], _, _, _, h => ⟨h, trivial⟩
  | _ :: _, _ :: _, _, _, h, h' => ⟨h.1, tris_snoc h.2 h'⟩
  | [], _ :: _, _, _, h, _ => h.elim
  | _ :: _, [], _, _, h, _ => h.elim
/-- a lot as it lies in the heap, not in S -/
def TupM (S : List Addr) (H : Hp) (v : V) (l : List Str) : Prop := ∃ a, v = .ref a ∧ a ∉ S ∧ H a = some (.tup (l.map V.str))
theorem lot_tupM {S : List Addr} {H : Hp} {l : List Str} {v : V} (h : Dt S H (lotT l) v) : TupM S H v l := by
  unfold lotT Dt at h
  obtain ⟨a, xs, e, n, h1, h2⟩ := h
  cases e
  obtain rfl := DtAll.of_strs h2
  exact ⟨a, rfl, n, h1⟩
theorem tri_tupM {S : List Addr} {H : Hp} {t : Tri} {v : V} (h : Dt S H (triD t) v) : ∃ p v1 v2 v3, v = .ref p ∧ p ∉ S ∧ H p = some (.tup [v1, v2, v3]) ∧ TupM S H v1 t.c ∧ TupM S H v2 t.f ∧ TupM S H v3 t.s := by
  unfold triD Dt at h
  obtain ⟨p, xs, rfl, n, hp, da⟩ := h
  obtain ⟨x1, y1, rfl, z1, da⟩ := DtAll.cons_iff.mp da
  obtain ⟨x2, y2, rfl, z2, da⟩ := DtAll.cons_iff.mp da
  obtain ⟨x3, y3, rfl, z3, da⟩ := DtAll.cons_iff.mp da
  obtain rfl := DtAll.nil_iff.mp da
  exact ⟨p, _, _, _, rfl, n, hp, lot_tupM z1, lot_tupM z2, lot_tupM z3⟩
theorem step_tupM {S : List Addr} {H : Hp} {s : Sd} {v : V} (h : Dt S H (stepD s) v) : ∃ p xs aw ts, v = .ref p ∧ p ∉ S ∧ H p = some (.tup (V.str (hdW s.k) :: (xs ++ [.ref aw]))) ∧ xs.length = (mids s.k).length ∧ (∀ (i : Nat) (l : List Str), (mids s.k)[i]? = some l → ∃ v : V, xs[i]? = some v ∧ TupM S H v l) ∧
    aw ∉ S ∧ H aw = some (.tup ts) ∧ DtAll S H (s.wh.map triD) ts := by
  rw [stepD_eq] at h
  unfold Dt at h
  obtain ⟨p, xs, rfl, n, hp, da⟩ := h
  obtain ⟨x0, xr, rfl, z0, da⟩ := DtAll.cons_iff.mp da
  obtain ⟨ym, yw, rfl, dm, da⟩ := DtAll.app_inv da
  obtain ⟨vw, yn, rfl, zw, da⟩ := DtAll.cons_iff.mp da
  obtain rfl := DtAll.nil_iff.mp da
  have e0 : x0 = .str (hdW s.k) := by unfold Dt at z0; exact z0
  subst e0
  unfold whenD Dt at zw
  obtain ⟨aw, ts, rfl, nw, hw, dw⟩ := zw
  refine ⟨p, ym, aw, ts, rfl, n, hp, ?_, fun i l hl => ?_, nw, hw, dw⟩
  · have := dm.length; simpa using this
  · have hm : ((mids s.k).map lotT)[i]? = some (lotT l) := by rw [List.getElem?_map, hl]; rfl
    obtain ⟨v, hv, z⟩ := dm.get hm
    exact ⟨v, hv, lot_tupM z⟩
def spNMade (a b C : Addr) : Sp := fun vs H Q _ => ∃ (n : Nat) (R : RG) (v : V), vs = [.ref a, v] ∧ Dt [a, b] H (ruleD R) v ∧ R.Ok ∧ (∀ s ∈ R.steps, s.wh.length ≤ 2) ∧ StreamAt a b n H ∧ n < 2 ^ 36 ∧
  ∀ p H', (∀ S, Trk S H → RuleAt S C H' p R) → StreamAt a b (n + 1000) H' → Keep [a, b] H H' → Q (.ref p) H'
theorem ok_nmade {a b C : Addr} (D : RDefs K mg C) (d : Fd K mg "_law_nmade" s_law_nmade P_law_nmade) (d_law_below : FdB K mg) (d_law_mixed : FdMixed K mg) (d_law_loose : FdLoose K mg) : FnOk P w K mg base CX0 8 d.f d.fd P_law_nmade (spNMade a b C) := by
  obtain ⟨drule_fault, dlines_in, dpages_in, dstep_in, dwords_in, dwhen_in, dlots_in, dparted, dtriple_in, dtriple_words, dlot_among, dnames_of, dis_name, dstep_of, dwhen_of, dinit, mkRule, _, _, cRule, iRule, AL, eBadText, B⟩ := D
  have G_law_mixed : FnOk P w K mg base CX0 2 d_law_mixed.f d_law_mixed.fd P_law_mixed (spMixed a b) := ok_mixed d_law_mixed d_law_below B.toBlt
  have G_law_loose : FnOk P w K mg base CX0 7 d_law_loose.f d_law_loose.fd P_law_loose (spLoose a b 6) := ok_loose d_law_loose d_law_below B.toBlt 6
  have GRule___init__ : FnOk P w K mg base CX0 6 dinit.f dinit.fd PRule___init__ (spRuleInit C) := ok_ruleinit cRule dinit dstep_of dwhen_of dlot_among dnames_of dis_name AL B
  refine d.F.ok sc_law_nmade (fun vs H Q E h => ?_) (fun cdv A outer s H vs Q E hr h => ?_)
  · obtain ⟨n, R, v, rfl, _⟩ := h
    rfl
  · obtain ⟨n, R, v, rfl, hd, ok, lw, st, hn, k⟩ := h
    refine ⟨_, (pss_cons (ps_set (i := 2) sc_law_nmade.nd rfl (by first | exact Or.inl rfl | exact Or.inr rfl) (pe_lst pa_nil))
      (pss_cons (ps_for PassesOwn.never rfl (w_list K (pe_ix (x_list K) (pv 1) pe_int (fun _ _ => rfl))) (pg_name (i := 3) sc_law_nmade.nd rfl (by first | exact Or.inl rfl | exact Or.inr rfl))
      (pss_cons (ps_setLc (i := 4) (own := [("lot", 6)]) (g := gName 6) (tt := tYes) rfl sc_law_nmade.nd rfl rfl (sw_true rfl rfl rfl (by decide +kernel)) (w_tup K (pe_slice (s_tup K) (pv 3) (po_some pe_int) (po_some (pe_un un_neg pe_int)))) (blkOk_by (own := [("lot", 6)]) (N := N_law_nmade) (sc := defScope s_law_nmade) (by decide +kernel)) (fun _ _ _ _ _ => by exact (pg_name (i := 6) sc_law_nmade.nd rfl (by first | exact Or.inl rfl | exact Or.inr rfl))) (fun _ _ _ _ _ => pts_nil) (fun _ _ _ _ _ => by exact (pe_call G_law_mixed (hr.mono (by decide)) (by rfl) d_law_mixed.g d_law_mixed.F.kp d_law_mixed.b .nil pass0 (pa_cons (pv 0) (pa_cons (pv 6) pa_nil)))))
      (pss_cons (ps_setLc (i := 5) (own := [("triple", 7)]) (g := gName 7) (tt := tYes) rfl sc_law_nmade.nd rfl rfl (sw_true rfl rfl rfl (by decide +kernel)) (w_tup K (pe_ix (x_tup K) (pv 3) (pe_un un_neg pe_int) (fun _ _ => rfl))) (blkOk_by (own := [("triple", 7)]) (N := N_law_nmade) (sc := defScope s_law_nmade) (by decide +kernel)) (fun _ _ _ _ _ => by exact (pg_name (i := 7) sc_law_nmade.nd rfl (by first | exact Or.inl rfl | exact Or.inr rfl))) (fun _ _ _ _ _ => pts_nil) (fun _ _ _ _ _ => by exact (pe_lc (own := [("lot", 6)]) (g := gName 6) (tt := tYes) rfl sc_law_nmade.nd (w_tup K (pv 7)) (blkOk_by (own := [("lot", 6)]) (N := N_law_nmade) (by rfl)) (fun _ _ _ _ _ => by exact (pg_name (i := 6) sc_law_nmade.nd rfl (by first | exact Or.inl rfl | exact Or.inr rfl))) (fun _ _ _ _ _ => pts_nil) (fun _ _ _ _ _ => by exact (pe_call G_law_mixed (hr.mono (by decide)) (by rfl) d_law_mixed.g d_law_mixed.F.kp d_law_mixed.b .nil pass0 (pa_cons (pv 0) (pa_cons (pv 6) pa_nil)))))))
      (pss_one (ps_expr (e_bm K PySem.F.plainAttrs_list PySem.F.slot_list_append PySem.F.type_list_append mt_append (pv 2) (pa_cons (pe_op op_cat (pe_op op_cat (pe_lst (pa_cons (pe_ix (x_tup K) (pv 3) pe_int (fun _ _ => rfl)) pa_nil)) (pv 4)) (pe_lst (pa_cons (pv 5) pa_nil))) pa_nil)))))))
      (pss_one (ps_ret (pe_make mkRule GRule___init__ (hr.mono (by decide)) (by rfl) cRule.g dinit.b .nil pass0 (pa_cons (pe_call G_law_loose (hr.mono (by decide)) (by rfl) d_law_loose.g d_law_loose.F.kp d_law_loose.b .nil pass0 (pa_cons (pv 0) (pa_cons (pe_call G_law_mixed (hr.mono (by decide)) (by rfl) d_law_mixed.g d_law_mixed.F.kp d_law_mixed.b .nil pass0 (pa_cons (pv 0) (pa_cons (pe_ix (x_list K) (pv 1) pe_int (fun _ _ => rfl)) pa_nil))) pa_nil))) (pa_cons (pe_call G_law_loose (hr.mono (by decide)) (by rfl) d_law_loose.g d_law_loose.F.kp d_law_loose.b .nil pass0 (pa_cons (pv 0) (pa_cons (pv 2) pa_nil))) pa_nil))))))), ?_⟩
    have hd' := hd
    unfold ruleD Dt at hd'
    obtain ⟨rp, rx, rfl, nrp, hrp, dr⟩ := hd'
    obtain ⟨x1, y1, rfl, z1, dr⟩ := DtAll.cons_iff.mp dr
    obtain ⟨x2, y2, rfl, z2, dr⟩ := DtAll.cons_iff.mp dr
    obtain rfl := DtAll.nil_iff.mp dr
    obtain ⟨N, xN, rfl, nN, hN, dN⟩ := (by unfold Dt at z1; exact z1 : ∃ a' xs, x1 = .ref a' ∧ a' ∉ [a, b] ∧ H a' = some (.lst xs) ∧ DtAll [a, b] H (R.pages.map .str) xs)
    obtain rfl := DtAll.of_strs dN
    obtain ⟨sp, sxs, rfl, nsp, hsp, dsp⟩ := (by unfold stepsD Dt at z2; exact z2 : ∃ a' xs, x2 = .ref a' ∧ a' ∉ [a, b] ∧ H a' = some (.lst xs) ∧ DtAll [a, b] H (R.steps.map stepD) xs)
    have ls : sxs.length = R.steps.length := by have := dsp.length; simpa using this
    have h8 := ok.most
    walk_at "v"
    refine ⟨show 0 ≤ sizeLine by decide, fun D hD => ?_⟩
    have ac0 : Acc [a, b] H (upd H D (.lst [])) D [] := Acc.start (Keep.refl _ _) hD
    have st0 := st.new (o := .lst []) hD
    generalize upd H D (.lst []) = H1 at ac0 st0
    have kp01 := ac0.kp
    walk_at "v"
    refine i_ixL (kp01 _ _ nrp hrp) (atI_nat (j := 1) rfl) ?_
    walk_at "v"
    refine w_lst (kp01 _ _ nsp hsp) ?_
    refine for_by (walk_list (xs := sxs)) ⟨fun i σ H' => (∃ v3 v4 v5 v6 v7, σ = [some (.ref a), some (.ref rp), some (.ref D), v3, v4, v5, v6, v7]) ∧ StreamAt a b (n + 100 * i) H' ∧ ∃ us : List Sd, us.length = i ∧ (∀ (j : Nat) u s, us[j]? = some u → R.steps[j]? = some s → SdPerm u s) ∧ Acc [a, b] H H' D (us.map mixS), ⟨⟨_, _, _, _, _, rfl⟩, st0, [], rfl, by simp, ac0⟩, fun i σ H' _ ⟨_, _, us, _, _, ac⟩ => SqL.of (ac.kp _ _ nsp hsp), ?_, ?_⟩
    · rintro i x σ H2 H3 hi ⟨⟨v3, v4, v5, v6, v7, rfl⟩, st2, us, lu, pu, ac⟩ ⟨rfl, hx⟩
      obtain ⟨ds, hds, dx⟩ := dsp.get' hx
      rw [List.getElem?_map] at hds
      obtain ⟨sd, hsd, rfl⟩ := Option.map_eq_some_iff.mp hds
      have ms := List.mem_of_getElem? hsd
      have dx2 := Dt.keep ac.kp _ _ dx
      have okd := ok.st _ ms
      obtain ⟨p, xs, aw, ts, rfl, np, hp, lxs, hm, naw, haw, dts⟩ := step_tupM dx2
      have lm3 := mids_len sd.k
      have hN3 : i < 8 := by have := (List.getElem?_eq_some_iff.mp hsd).1; omega
      have l3 := ok.pg.most
      walk_at "v"
      refine ⟨p, _, rfl, SqT.of hp, fun z => ?_, fun p1 hp1 => ?_⟩
      · have e0 : HT.sIx (xs.length + 2) 0 (some 1) = min 1 (xs.length + 2) := HT.sIx_nat _ _ 1
        have l : (V.str (hdW sd.k) :: (xs ++ [V.ref aw])).length = xs.length + 2 := by simp
        have := z.1
        rw [l, e0] at this
        omega
      rw [cut_inner]
      have st3 := st2.new (o := .tup xs) hp1
      have kp3 : Keep [a, b] H3 _ := (Keep.refl _ _).new (o := .tup xs) hp1
      have h1' : upd H3 p1 (.tup xs) p1 = some (.tup xs) := upd_same
      have np1 := st2.nm hp1
      generalize upd H3 p1 (.tup xs) = H4 at st3 kp3 h1'
      refine w_tpl h1' ?_
      refine lc_by (walk_tup (xs := xs)) fun D1 hD1 => ⟨fun j H' => ∃ ls : List (List Str), ls.length = j ∧ (∀ (k : Nat) l m, ls[k]? = some l → (mids sd.k)[k]? = some m → l.Perm m) ∧ Acc [a, b] H3 H' D1 (ls.map lstS) ∧ StreamAt a b (n + 100 * i + 3 * j) H' ∧ Keep [a, b] H4 H', ⟨[], rfl, by simp, Acc.start kp3 hD1, (st3.new hD1).mono (by omega), (Keep.refl _ _).new hD1⟩, fun j H' _ ⟨_, _, _, _, _, kp⟩ => SqT.of (kp _ _ np1 h1'), ?_, ?_⟩
      · rintro j y H5 H6 hj ⟨ls, ll, pl, ac1, st5, kp5⟩ ⟨rfl, hy⟩
        have hjl : j < (mids sd.k).length := by rw [← lxs]; exact hj
        obtain ⟨l, hl⟩ : ∃ l, (mids sd.k)[j]? = some l := ⟨_, List.getElem?_eq_getElem hjl⟩
        obtain ⟨v', hv', q, rfl, nq, hq⟩ := hm j l hl
        rw [hy] at hv'; cases hv'
        have sl := okd.k.mid hl
        have ll3 := Nat.le_trans sl.length_le l3
        walk_at "v"
        refine ⟨_, q, l.map V.str, rfl, .inr ((kp3.trans kp5) _ _ nq hq), by rw [List.length_map]; omega, st5, by omega, fun q2 ys H7 py hq20 hq2 st7 kp7 => ?_⟩
        obtain ⟨l', rfl, pl'⟩ := perm_strs py
        rw [List.length_map] at st7
        obtain ⟨acc, ea, la, _⟩ := id ac1.ex
        have nv : NewM [a, b] H6 H7 (lstS l') (.ref q2) := NewM.freshS hq20 hq2
        obtain ⟨e8, ac8⟩ := ac1.step st2.trk ea nv kp7
        have hDab := st3.na hD1
        refine ⟨acc, e8, by rw [la, List.length_map, ll]; exact small1000 (by omega), ls ++ [l'], by simp [ll], fun k2 l2 m2 h1 h2 => ?_, by rw [List.map_append]; exact ac8, (st7.put hDab.1 hDab.2).mono (by omega), (kp5.trans kp7).new' hD1⟩
        rcases Nat.lt_or_ge k2 j with hk | hk
        · exact pl k2 l2 m2 (by rw [List.getElem?_append_left (by omega)] at h1; exact h1) h2
        · have hk' : k2 = j := by
            have := (List.getElem?_eq_some_iff.mp h1).1
            simp [ll] at this; omega
          subst hk'
          rw [List.getElem?_append_right (by omega), ll] at h1
          simp at h1; subst h1
          rw [hl] at h2; cases h2
          exact pl'
      · rintro H5 ⟨lts, ll, pl, ac1, st5, kp5⟩
        rw [lxs] at ll st5
        obtain ⟨k', emid, ehd, pk⟩ := set_mids sd.k lts ll pl
        have kp35 := kp3.trans kp5
        walk_at "v"
        refine i_ixT (kp35 _ _ np hp) (by rw [← List.cons_append]; exact atI_last _ _) ?_
        walk_at "v"
        have haw5 := kp35 _ _ naw haw
        refine w_tpl haw5 ?_
        have lts' : ts.length = sd.wh.length := by have := dts.length; simpa using this
        have lw2 := lw _ ms
        refine lc_by (walk_tup (xs := ts)) fun D2 hD2 => ⟨fun j H' => ∃ ws : List Tri, ws.length = j ∧ TrisPerm ws (sd.wh.take j) ∧ Acc [a, b] H5 H' D2 (ws.map mixT) ∧ StreamAt a b (n + 100 * i + 9 + 9 * j) H' ∧ Keep [a, b] H5 H', ⟨[], rfl, trivial, Acc.start (Keep.refl _ _) hD2, (st5.new hD2).mono (by omega), (Keep.refl _ _).new hD2⟩, fun j H' _ ⟨_, _, _, _, _, kp⟩ => SqT.of (kp _ _ naw haw5), ?_, ?_⟩
        · rintro j y H6 H7 hj ⟨ws, lws, pws, ac2, st6, kp6⟩ ⟨rfl, hy⟩
          obtain ⟨dt, hdt, dty⟩ := dts.get' hy
          rw [List.getElem?_map] at hdt
          obtain ⟨t, ht, rfl⟩ := Option.map_eq_some_iff.mp hdt
          have tok := okd.w t (List.mem_of_getElem? ht)
          have kp37 := kp35.trans kp6
          obtain ⟨tp, v1, v2, v3, rfl, ntp, htp, ⟨a1, rfl, na1, ha1⟩, ⟨a2, rfl, na2, ha2⟩, ⟨a3, rfl, na3, ha3⟩⟩ := tri_tupM (Dt.keep kp37 _ _ dty)
          have c1 := Nat.le_trans tok.c.length_le l3
          have c2 := Nat.le_trans tok.f.length_le l3
          have c3 := Nat.le_trans tok.s.length_le l3
          walk_at "v"
          refine w_tpl htp ?_
          refine lc_by (walk_tup (xs := [V.ref a1, V.ref a2, V.ref a3])) fun D3 hD3 => ⟨fun m H' => ∃ ls : List (List Str), ls.length = m ∧ (∀ (k : Nat) l m, ls[k]? = some l → [t.c, t.f, t.s][k]? = some m → l.Perm m) ∧ Acc [a, b] H7 H' D3 (ls.map lstS) ∧ StreamAt a b (n + 100 * i + 9 + 9 * j + 3 * m) H' ∧ Keep [a, b] H7 H', ⟨[], rfl, by simp, Acc.start (Keep.refl _ _) hD3, (st6.new hD3).mono (by omega), (Keep.refl _ _).new hD3⟩, fun j H' _ ⟨_, _, _, _, _, kp⟩ => SqT.of (kp _ _ ntp htp), ?_, ?_⟩
          · rintro m y H8 H9 hm3 ⟨ls, ll3, pl3, ac3, st8, kp8⟩ ⟨rfl, hy⟩
            obtain ⟨am, l, rfl, hl, nam, ham, lam⟩ : ∃ am l, y = .ref am ∧ [t.c, t.f, t.s][m]? = some l ∧ am ∉ [a, b] ∧ H7 am = some (.tup (l.map V.str)) ∧ l.length ≤ 3 := by
              match m, hm3 with
              | 0, _ => cases hy; exact ⟨a1, t.c, rfl, rfl, na1, ha1, c1⟩
              | 1, _ => cases hy; exact ⟨a2, t.f, rfl, rfl, na2, ha2, c2⟩
              | 2, _ => cases hy; exact ⟨a3, t.s, rfl, rfl, na3, ha3, c3⟩
            have hm3' : m < 3 := hm3
            walk_at "v"
            refine ⟨_, am, l.map V.str, rfl, .inr (kp8 _ _ nam ham), by rw [List.length_map]; omega, st8, by omega, fun q2 ys H10 py hq20 hq2 st10 kp10 => ?_⟩
            obtain ⟨l', rfl, pl'⟩ := perm_strs py
            rw [List.length_map] at st10
            obtain ⟨acc, ea, la, _⟩ := id ac3.ex
            have nv : NewM [a, b] H9 H10 (lstS l') (.ref q2) := NewM.freshS hq20 hq2
            obtain ⟨e8, ac8⟩ := ac3.step st6.trk ea nv kp10
            have hDab := st6.na hD3
            refine ⟨acc, e8, by rw [la, List.length_map, ll3]; exact small1000 (by omega), ls ++ [l'], by simp [ll3], fun k2 l2 m2 h1 h2 => ?_, by rw [List.map_append]; exact ac8, (st10.put hDab.1 hDab.2).mono (by omega), (kp8.trans kp10).new' hD3⟩
            rcases Nat.lt_or_ge k2 m with hk | hk
            · exact pl3 k2 l2 m2 (by rw [List.getElem?_append_left (by omega)] at h1; exact h1) h2
            · have hk' : k2 = m := by
                have := (List.getElem?_eq_some_iff.mp h1).1
                simp [ll3] at this; omega
              subst hk'
              rw [List.getElem?_append_right (by omega), ll3] at h1
              simp at h1; subst h1
              rw [hl] at h2; cases h2
              exact pl'
          · rintro H8 ⟨ls, ll3, pl3, ac3, st8, kp8⟩
            obtain ⟨x1, x2, x3, rfl⟩ : ∃ x1 x2 x3, ls = [x1, x2, x3] := by
              match ls, ll3 with
              | [x, y, z], _ =>
                    exact ⟨x, y, z, rfl⟩
            have hwj := (List.getElem?_eq_some_iff.mp ht).1
            have nv : NewM [a, b] H7 H8 (mixT ⟨x1, x2, x3⟩) (.ref D3) := ac3.done
            obtain ⟨acc, ea, la, _⟩ := id ac2.ex
            obtain ⟨e8, ac8⟩ := ac2.step st5.trk ea nv kp8
            have hDab := st5.na hD2
            refine ⟨acc, e8, by rw [la, List.length_map, lws]; exact small1000 (by omega), ws ++ [⟨x1, x2, x3⟩], by simp [lws], ?_, by rw [List.map_append]; exact ac8, (st8.put hDab.1 hDab.2).mono (by simp; omega), (kp6.trans kp8).new' hD2⟩
            rw [List.take_succ, ht]
            exact tris_snoc pws ⟨pl3 0 _ _ rfl rfl, pl3 1 _ _ rfl rfl, pl3 2 _ _ rfl rfl⟩
        · rintro H6 ⟨ws, lws, pws, ac2, st6, kp6⟩
          rw [lts', List.take_length] at pws
          rw [lts'] at lws st6
          have kp36 := kp35.trans kp6
          obtain ⟨accD, eD, lD, _⟩ := id ac.ex
          have nDab : D ∉ [a, b] := st.nm hD
          have eD6 := kp36 _ _ nDab eD
          walk_at "v"
          refine i_ixT (kp36 _ _ np hp) (atI_nat (j := 0) rfl) ?_
          walk_at "v"
          obtain ⟨acc1, e1, la1, z1⟩ := id ac1.ex
          have nD1 : D1 ∉ [a, b] := st3.nm hD1
          refine ⟨show 1 ≤ sizeLine by decide, fun g1 hg1 => ?_⟩
          have s7 : Same H6 (upd H6 g1 (.lst [.str (hdW sd.k)])) := (Same.refl _).new hg1
          have h7 : upd H6 g1 (.lst [.str (hdW sd.k)]) g1 = some (.lst [.str (hdW sd.k)]) := upd_same
          generalize upd H6 g1 (.lst [.str (hdW sd.k)]) = H7 at s7 h7
          walk_at "v"
          have hD17 := s7 _ _ (kp6 _ _ nD1 e1)
          refine i_catN h7 hD17 (by rw [la1, List.length_map]; show 1 + lts.length ≤ _; omega) (fun g2 H8 n8 s8 h8' => ?_)
          walk_at "v"
          refine i_catG h8' (by simp [la1]; omega) (fun g3 H9 n9 s9 h9 => ?_)
          have s69 := s7.trans (s8.trans s9)
          have kp39 : Keep [a, b] H3 H9 := kp36.trans (Keep.of_same s69)
          have ng3 : H3 g3 = none := (kp36.trans (Keep.of_same (s7.trans s8))).free n9
          have nu : NewM [a, b] H3 H9 (mixS ⟨k', ws⟩) (.ref g3) := fun S t mm => by
            have e2 : DtAll S H5 (lts.map lstS) acc1 := DtAll.mono (fun x hx => List.mem_cons_of_mem _ hx) _ _ (z1 S t mm)
            have e3 : DtAll S H9 (lts.map lstS) acc1 := DtAll.keep ((kp6.trans (Keep.of_same s69)).mono mm) _ _ e2
            have e4 : Dt S H9 (.list (ws.map mixT)) (.ref D2) := Dt.keep ((Keep.of_same (S := [a, b]) s69).mono mm) _ _ (ac2.done S (t.keep kp35) mm)
            unfold mixS
            rw [emid, ehd]
            refine dt_list h9 ?_ (t.nm ng3)
            exact DtAll.cons (show Dt S H9 (.str (hdW sd.k)) (.str (hdW sd.k)) by unfold Dt; rfl) (DtAll.append e3 (DtAll.cons e4 DtAll.nil))
          walk_at "v"
          obtain ⟨e8, ac8⟩ := ac.step st.trk eD nu kp39
          have hDab := st.na hD
          refine i_app e8 (by rw [lD, List.length_map, lu]; exact small1000 (by omega)) ?_
          refine ⟨⟨_, _, _, _, _, rfl⟩, ((st6.same s69).put hDab.1 hDab.2).mono (by omega), us ++ [⟨k', ws⟩], by simp [lu], fun j2 u2 s2 h1 h2 => ?_, by rw [List.map_append]; exact ac8⟩
          rcases Nat.lt_or_ge j2 i with hk | hk
          · exact pu j2 u2 s2 (by rw [List.getElem?_append_left (by omega)] at h1; exact h1) h2
          · have hk' : j2 = i := by
              have := (List.getElem?_eq_some_iff.mp h1).1
              simp [lu] at this; omega
            subst hk'
            rw [List.getElem?_append_right (by omega), lu] at h1
            simp at h1; subst h1
            rw [hsd] at h2; cases h2
            exact ⟨pk, pws⟩
    · rintro σ H2 ⟨⟨v3, v4, v5, v6, v7, rfl⟩, st2, us, lu, pu, ac⟩
      rw [ls] at lu st2
      have kp2 := ac.kp
      walk_at "v"
      refine i_ixL (kp2 _ _ nrp hrp) (atI_nat (j := 0) rfl) ?_
      walk_at "v"
      have p3 := ok.pg.most
      refine ⟨_, N, R.pages.map V.str, rfl, .inl (kp2 _ _ nN hN), by rw [List.length_map]; omega, st2, by omega, fun q1 ys1 H3 p1 fr1 hq1 st3 kp3 => ?_⟩
      obtain ⟨pg, rfl, ppg⟩ := perm_strs p1
      rw [List.length_map] at st3
      have lpg : pg.length = R.pages.length := ppg.length_eq
      walk_at "v"
      refine ⟨_, .list (pg.map .str), .ref q1, rfl, NewM.freshS fr1 hq1 _ st2.trk (fun m h => h), fit_strs (k := 4) (by omega), st3, by simp only [nod, nod_strs]; omega, fun d1 v1 H4 u1 nv1 st4 kp4 => ?_⟩
      have e1 : nod (.list (pg.map .str)) = 1 := by simp only [nod, nod_strs]
      rw [e1] at st4
      rw [un, unAll_id] at u1
      have kp24 := kp3.trans kp4
      walk_at "v"
      have ac3 : Acc [a, b] H H4 D (us.map mixS) := ac.skip st.trk kp24
      have pum : ∀ u ∈ us, ∃ s ∈ R.steps, SdPerm u s := fun u hu => by
        obtain ⟨j, hj, e⟩ := List.getElem_of_mem hu
        have hjr : j < R.steps.length := by omega
        exact ⟨R.steps[j], by simp, pu j u R.steps[j] (by rw [← e]; simp) (by simp [hjr])⟩
      have whu : ∀ u ∈ us, u.wh.length ≤ 2 := fun u hu => by
        obtain ⟨s, hs, ps⟩ := pum u hu
        rw [ps.w.len]; exact lw s hs
      have nodU : nodAll (us.map mixS) ≤ 13 * us.length := nodAll_sum mixS 13 _ (fun u hu => nod_mixS (whu u hu))
      refine ⟨_, .list (us.map mixS), .ref D, rfl, ac3.done _ st.trk (fun m h => h), ⟨by rw [List.length_map]; omega, fun d hd => ?_⟩, st4, by simp only [nod]; omega, fun d2 v2 H5 u2 nv2 st5 kp5 => ?_⟩
      · obtain ⟨u, hu, rfl⟩ := List.mem_map.mp hd
        obtain ⟨s, hs, ps⟩ := pum u hu
        have so := ok.st s hs
        refine fit_mixS (by have := whu u hu; omega) (fun l hl => ?_) (fun t ht => ?_)
        · obtain ⟨j, hj⟩ := List.mem_iff_getElem?.mp hl
          obtain ⟨m, hm, pm⟩ := ps.k.mid hj
          have := Nat.le_trans (so.k.mid hm).length_le p3
          rw [pm.length_eq]; omega
        · obtain ⟨j, hj⟩ := List.mem_iff_getElem?.mp ht
          obtain ⟨t', ht', pt⟩ := ps.w.get hj
          have tok := so.w t' (List.mem_of_getElem? ht')
          have c1 := Nat.le_trans tok.c.length_le p3
          have c2 := Nat.le_trans tok.f.length_le p3
          have c3 := Nat.le_trans tok.s.length_le p3
          rw [pt.c.length_eq, pt.f.length_eq, pt.s.length_eq]
          omega
      have e2 : nod (.list (us.map mixS)) ≤ 105 := by simp only [nod]; omega
      walk_at "v"
      intro p dx hp hdx dne
      have hp' : upd H5 dx (.own p) p = none := by rw [upd_ne dne.symm]; exact hp
      have sm : Same H5 (upd (upd H5 dx (.own p)) p (.ins C dx [])) := ((Same.refl H5).new hdx).new hp'
      have dv1 : Dt [a, b] H5 d1 v1 := (nv1.keep kp5) _ st3.trk (fun m h => h)
      have dv2 : Dt [a, b] H5 d2 v2 := nv2 _ st4.trk (fun m h => h)
      have av : ∀ t ∈ [p], H5 t = none := fun t h => by simp at h; subst h; exact hp
      have dv1' := (Dt.avoid av _ _ dv1).same sm
      have dv2' := (Dt.avoid av _ _ dv2).same sm
      have eU : ∀ l : List Sd, unAll (l.map mixS) = l.map fun u => un (stepD u) := fun l => by
        induction l with
        | nil => rfl
        | cons u l ih => simp only [List.map_cons, unAll, un_mixS, ih]
      have u2' : un d2 = .list (us.map fun u => un (stepD u)) := by rw [u2, un, eU]
      obtain ⟨sr2, kd2⟩ := un_isRow u2'
      refine ⟨[p] ++ [a, b], p, dx, d1, d2, v1, v2, R, pg, rfl, upd_same, by simp, dv1', dv2', ok, u1, ppg, ⟨sr2, ?_, fun i e s h1 h2 => ?_⟩, (fun s hs => by have := lw s hs; omega), fun H6 kp6 ra => ?_⟩
      · rw [← unAll_len (kids d2), kd2, List.length_map, lu]
      · rw [← eU] at kd2
        obtain ⟨e', g, ue⟩ := unAll_get kd2 h1
        rw [List.getElem?_map] at g
        obtain ⟨u, hu, rfl⟩ := Option.map_eq_some_iff.mp g
        rw [un_mixS] at ue
        exact ⟨u, ue, pu i u s hu h2⟩
      · have kp05 : Keep [a, b] H H5 := (kp2.trans kp24).trans kp5
        have pab := st5.na hp
        have kpA : Keep [a, b] H H6 := by
          have k56 : Keep [p] H5 H6 := (Keep.of_same sm).trans kp6
          exact kp05.trans ⟨fun z o nz e => k56 z o (by simp; intro e'; subst e'; rw [hp] at e; cases e) e, k56.tr⟩
        refine ⟨rfl, k p H6 (fun S t => ra S ((t.keep kp05).same sm) ((t.keep kp05).nm hp)) (((st5.same sm).kp kp6 (by simp; exact pab.1.symm) (by simp; exact pab.2.symm)).mono (by omega)) kpA⟩
end Lr
set_option Elab.async false
set_option linter.all false
set_option maxRecDepth 100000
set_option maxHeartbeats 4000000
namespace Lr
open PySem PySem.Spec PyProof.Rows L2 TL
local macro_rules | `(tactic| walk_at "ne") => `(tactic| (first | assumption | (refine ne_sym ?_; assumption) | (exact ne_of_none (by assumption) (by assumption)) | (exact ne_sym (ne_of_none (by assumption) (by assumption)))))
local macro_rules | `(tactic| walk_at "h") => `(tactic| (first | assumption | exact upd_same | (refine h_new ?_ (by assumption); walk_at "h") | (refine h_ne (by walk_at "ne") ?_; walk_at "h")))
local macro_rules | `(tactic| walk_at "v1") => `(tactic| (with_reducible first
  | refine i_seq ?_ | refine i_asg ?_ | refine i_ret ?_ | refine i_next ?_ | refine i_drop ?_ | refine i_ifS ?_ | refine i_if ?_ | refine i_and ?_ | refine i_or ?_ | refine i_not ?_ | refine i_test ?_ | refine i_tB ?_ | refine i_bl ?_ | refine i_yes ?_
  | refine i_op ?_ | refine i_un ?_ | refine i_chain ?_ | refine i_andV ?_ | refine i_orV ?_ | refine i_notV ?_ | refine i_cb ?_ | refine i_cons ?_ | refine i_nil ?_ | refine i_bm ?_ | refine i_bm0 ?_ | refine i_c ?_ | refine i_name ?_ | refine i_sub ?_
  | refine i_call ?_ | refine i_lst ?_ | refine i_tup ?_ | refine i_par ?_ | refine i_par2 ?_ | refine i_sl ?_ | refine i_np ?_ | refine i_pt ?_ | refine i_int ?_ | refine i_m0 ?_ | refine i_m1 ?_ | refine i_isS ?_
  | refine i_rI0 ?_ | refine i_inSign ?_ | refine i_notInSign ?_ | refine i_int1 ?_ | refine i_tru ?_ | refine i_isN ?_ | refine i_notN ?_ | refine iteT ?_ | refine iteF ?_ | refine i_brk ?_ | refine i_rt ?_ | refine i_nx ?_ | refine i_bk ?_ | refine i_ct ?_ | refine i_for ?_ | refine i_lc ?_ | refine i_dc ?_ | refine i_iL ?_ | refine i_iT ?_ | refine i_iR1 ?_ | refine i_iR2 ?_ | refine i_iS ?_ | refine i_iE ?_ | refine i_iEK ?_ | refine i_iEQ ?_ | refine i_iZS ?_ | refine i_dget ?_ | refine i_fld ?_ | refine i_sfld ?_ | refine i_dput ?_ | refine i_meth ?_ | refine i_rU ?_ | refine i_cont ?_ | refine i_make ?_))
local macro_rules | `(tactic| walk_at "v2") => `(tactic| (first
  | ((with_reducible refine' i_var ?k1 ?_); (case k1 => exact rfl))
  | ((with_reducible refine' i_eq ?k1 ?_); (case k1 => exact rfl))
  | ((with_reducible refine' i_ne ?k1 ?_); (case k1 => exact rfl))
  | ((with_reducible refine' i_ixL ?k1 ?k2 ?_); (case k1 => walk_at "h"); (case k2 => exact rfl))
  | ((with_reducible refine' i_ixT ?k1 ?k2 ?_); (case k1 => walk_at "h"); (case k2 => exact rfl))
  | ((with_reducible refine' i_lenL ?k1 ?_); (case k1 => walk_at "h"))
  | ((with_reducible refine' i_lenT ?k1 ?_); (case k1 => walk_at "h"))
  | (refine i_wipe (show wipe _ _ = wipe _ _ from rfl) ?_)
  | ((with_reducible refine' i_setL ?k1 ?k2 ?_); (case k1 => walk_at "h"); (case k2 => exact rfl))
  | ((with_reducible refine' i_tyl ?k1 ?_); (case k1 => walk_at "h"))))
local macro_rules | `(tactic| walk_at "v") => `(tactic| repeat (first | walk_at "v1" | walk_at "v2"))

variable {P : Program} {w : World} {K :
      PySem.W.Frag} {mg : Str → Option Value} {base : Heap}
abbrev s_law_nwords : Stmt := top 48
abbrev N_law_nwords : List Str := ["when", "found", "at", "triple", "words", "sign", "lot", "page"]
abbrev P_law_nwords : List Str := ["when"]
theorem sc_law_nwords : FnScope N_law_nwords P_law_nwords (defScope s_law_nwords) := ⟨rfl, rfl, rfl, by decide +kernel, rfl, by decide +kernel, by decide +kernel⟩
abbrev s_law_nsaid : Stmt := top 49
abbrev N_law_nsaid : List Str := ["step", "words"]
abbrev P_law_nsaid : List Str := ["step"]
theorem sc_law_nsaid : FnScope N_law_nsaid P_law_nsaid (defScope s_law_nsaid) := ⟨rfl, rfl, rfl, by decide +kernel, rfl, by decide +kernel, by decide +kernel⟩
def spNWords : Sp := fun vs H Q _ => ∃ (S : List Addr) (ts : List Tri) (v : V) (pg : List Str), vs = [v] ∧ Dt S H (whenD ts) v ∧ PgOk pg ∧ (∀ t ∈ ts, t.Ok pg) ∧ ts.length ≤ 100 ∧
  ∀ q H', H q = none → H' q = some (.lst ((whenW ts).map V.str)) → Same H H' → Q (.ref q) H'
theorem ok_nwords (d : Fd K mg "_law_nwords" s_law_nwords P_law_nwords) (B : Blt2 K mg) : FnOk P w K mg base CX0 1 d.f d.fd P_law_nwords spNWords := by
  refine d.F.ok sc_law_nwords (fun vs H Q E h => ?_) (fun cdv A outer s H vs Q E hr h => ?_)
  · obtain ⟨S, ts, v, pg, rfl, _⟩ := h
    rfl
  · obtain ⟨S, ts, v, pg, rfl, hd, po, okt, lt, k⟩ := h
    refine ⟨_, (pss_cons (ps_set (i := 1) sc_law_nwords.nd rfl (by first | exact Or.inl rfl | exact Or.inr rfl) (pe_lst pa_nil))
      (pss_cons (ps_for PassesOwn.never rfl (w_enumQ K (by rfl) B.enumerate (pa_cons (pv 0) pa_nil)) (g_tup K (n := 2) rfl (pgs_cons (pg_name (i := 2) sc_law_nwords.nd rfl (by first | exact Or.inl rfl | exact Or.inr rfl)) (pgs_cons (pg_name (i := 3) sc_law_nwords.nd rfl (by first | exact Or.inl rfl | exact Or.inr rfl)) pgs_nil)))
      (pss_cons (ps_set (i := 4) sc_law_nwords.nd rfl (by first | exact Or.inl rfl | exact Or.inr rfl) (pe_lst pa_nil))
      (pss_cons (ps_for PassesOwn.never rfl (w_zipS K (by rfl) B.zip (pa_cons pe_str (pa_cons (pv 3) pa_nil))) (g_tup K (n := 2) rfl (pgs_cons (pg_name (i := 5) sc_law_nwords.nd rfl (by first | exact Or.inl rfl | exact Or.inr rfl)) (pgs_cons (pg_name (i := 6) sc_law_nwords.nd rfl (by first | exact Or.inl rfl | exact Or.inr rfl)) pgs_nil)))
      (pss_one (ps_set (i := 4) sc_law_nwords.nd rfl (by first | exact Or.inl rfl | exact Or.inr rfl) (pe_op op_cat (pv 4) (pe_lc (own := [("page", 7)]) (g := gName 7) (tt := tYes) rfl sc_law_nwords.nd (w_tup K (pv 6)) (blkOk_by (own := [("page", 7)]) (N := N_law_nwords) (sc := defScope s_law_nwords) (by decide +kernel)) (fun _ _ _ _ _ => by exact (pg_name (i := 7) sc_law_nwords.nd rfl (by first | exact Or.inl rfl | exact Or.inr rfl))) (fun _ _ _ _ _ => pts_nil) (fun _ _ _ _ _ => by exact (pe_op o_addS (pv 5) (pv 7))))))))
      (pss_one (ps_set (i := 1) sc_law_nwords.nd rfl (by first | exact Or.inl rfl | exact Or.inr rfl) (pe_op op_cat (pe_op op_cat (pv 1) (pe_ifExp (pt_cmpR op_gt (pv 2) pe_int (nomark _)) (pe_lst (pa_cons pe_str pa_nil)) (pe_lst pa_nil))) (pe_ifExp (pt_cmpR (o_neP K hr.units) (pv 4) (pe_lst pa_nil) (nomark _)) (pv 4) (pe_lst (pa_cons pe_str pa_nil)))))))))
      (pss_one (ps_ret (pv 1))))), ?_⟩
    unfold whenD Dt at hd
    obtain ⟨aw, xs, rfl, naw, haw, dts⟩ := hd
    have lxs : xs.length = ts.length := by have := dts.length; simpa using this
    walk_at "v"
    refine ⟨show 0 ≤ sizeLine by decide, fun f0 hf0 => ?_⟩
    have s0 : Same H (upd H f0 (.lst [])) := (Same.refl H).new hf0
    have h0 : upd H f0 (.lst []) f0 = some (.lst ((whenW (ts.take 0)).map V.str)) := by rw [upd_same]; rfl
    generalize upd H f0 (.lst []) = H1 at s0 h0
    walk_at "v"
    refine ⟨aw, xs, _, rfl, .inr rfl, s0 _ _ haw, fun J wk => ?_⟩
    refine for_by wk ⟨fun i σ H' => (∃ f v2 v3 v4 v5 v6 v7, σ = [some (.ref aw), some (.ref f), v2, v3, v4, v5, v6, v7] ∧ H f = none ∧ H' f = some (.lst ((whenW (ts.take i)).map V.str))) ∧ Same H H', ⟨⟨f0, _, _, _, _, _, _, rfl, hf0, h0⟩, s0⟩, fun i σ H' _ ⟨_, z⟩ => z _ _ haw, ?_, ?_⟩
    · rintro i x σ H3 H4 hi ⟨⟨f, v2, v3, v4, v5, v6, v7, rfl, hf, hf3⟩, s3⟩ ⟨T, y0, y, rfl, hT, rfl, e0, hy⟩
      obtain rfl : y0 = .int ((0 : Int) + (i : Nat)) := (Option.some.inj e0).symm
      obtain ⟨td, gt, zt⟩ := dts.get' hy
      rw [List.getElem?_map] at gt
      obtain ⟨t, gti, rfl⟩ := Option.map_eq_some_iff.mp gt
      have tok := okt t (List.mem_of_getElem? gti)
      have l1 := sub_len po tok.c
      have l2 := sub_len po tok.f
      have l3 := sub_len po tok.s
      refine g_two upd_same ?_
      have s4 : Same H (upd H3 T (.tup [.int ((0 : Int) + (i : Nat)), y])) := s3.new hT
      have hf4 := h_new (o := .tup [.int ((0 : Int) + (i : Nat)), y]) hf3 hT
      generalize upd H3 T (.tup [.int ((0 : Int) + (i : Nat)), y]) = H4 at s4 hf4
      obtain ⟨tp, v1', v2', v3', rfl, _, htp, ⟨a1, rfl, _, ha1⟩, ⟨a2, rfl, _, ha2⟩, ⟨a3, rfl, _, ha3⟩⟩ := tri_tupM (zt.same s4)
      walk_at "v"
      refine ⟨show 0 ≤ sizeLine by decide, fun w0 hw0 => ?_⟩
      have s45 : Same H4 (upd H4 w0 (.lst [])) := (Same.refl _).new hw0
      have hw05 : upd H4 w0 (.lst []) w0 = some (.lst ((triPre t 0).map V.str)) := by rw [upd_same]; rfl
      generalize upd H4 w0 (.lst []) = H5 at s45 hw05
      walk_at "v"
      refine ⟨_, tp, [.ref a1, .ref a2, .ref a3], _, rfl, .inr rfl, s45 _ _ htp, fun J wj => ?_⟩
      have sgl : ("=+!" : Str).cps = #[cEQ, cPL, cEX] := by decide +kernel
      have en : min ("=+!" : Str).cps.size [V.ref a1, V.ref a2, V.ref a3].length = 3 := by rw [sgl]; rfl
      rw [en, sgl] at wj
      refine for_by wj ⟨fun j σ H' => (∃ wq v5 v6 v7, σ = [some (.ref aw), some (.ref f), some (.int ((0 : Int) + (i : Nat))), some (.ref tp), some (.ref wq), v5, v6, v7] ∧ H' wq = some (.lst ((triPre t j).map V.str))) ∧ Same H4 H', ⟨⟨w0, _, _, _, rfl, hw05⟩, s45⟩, fun i σ H' _ ⟨_, s1⟩ => s1 _ _ htp, ?_, ?_⟩
      · rintro j x σ H6 H7 hj ⟨⟨wq, v5, v6, v7, rfl, hwq⟩, s6⟩ ⟨T, u1, u2, rfl, hT, rfl, hu1, hu2⟩
        obtain ⟨c, ai, li, rfl, rfl, hai, ei, lni, lpr⟩ : ∃ (c : Nat) (ai : Addr) (li : List Str), u1 = .str (ch c) ∧ u2 = .ref ai ∧ H4 ai = some (.tup (li.map V.str)) ∧ triPre t (j + 1) = triPre t j ++ withS c li ∧ li.Sublist pg ∧ (triPre t j).length ≤ 6 := by
          match j, hj with
          | 0, _ => cases hu1; cases hu2; exact ⟨_, _, t.c, rfl, rfl, ha1, rfl, tok.c, by simp [triPre]⟩
          | 1, _ => cases hu1; cases hu2; exact ⟨_, _, t.f, rfl, rfl, ha2, rfl, tok.f, by simp [triPre, withS]; omega⟩
          | 2, _ => cases hu1; cases hu2; exact ⟨_, _, t.s, rfl, rfl, ha3, by simp [triPre, triL], tok.s, by simp [triPre, withS]; omega⟩
        have lli := sub_len po lni
        refine g_two upd_same ?_
        have s7 := s6.new (o := .tup [.str (ch c), .ref ai]) hT
        have hwq7 := h_new (o := .tup [.str (ch c), .ref ai]) hwq hT
        generalize upd H6 T (.tup [.str (ch c), .ref ai]) = H7 at s7 hwq7
        walk_at "v"
        have hai7 := s7 _ _ hai
        refine w_tpl hai7 ?_
        refine lc_by (walk_tup (xs := li.map V.str)) fun D hD => ⟨fun m H' => H' D = some (.lst ((withS c (li.take m)).map V.str)) ∧ Same H7 H', ⟨by simpa [withS] using upd_same, (Same.refl _).new hD⟩, fun j H' _ ⟨_, s⟩ => SqT.of (s _ _ hai7), ?_, ?_⟩
        · rintro m y H8 H9 hm ⟨hD4, s8⟩ ⟨rfl, hy⟩
          rw [List.getElem?_map] at hy
          obtain ⟨y, hyj, rfl⟩ := Option.map_eq_some_iff.mp hy
          have ly := nameB_le (sub_name po lni y (List.mem_of_getElem? hyj))
          walk_at "v"
          refine i_adds (small_sz (show (ch c).length + y.length ≤ _ by have : (ch c).length = 1 := rfl; omega)) ?_
          refine ⟨_, hD4, by simp only [List.length_map, withS, List.length_take]; exact small1000 (by omega), ?_, s8.put hD⟩
          rw [List.take_succ, hyj]
          simpa [withS] using upd_same
        · rintro H8 ⟨hD4, s8⟩
          rw [List.length_map, List.take_length] at hD4
          walk_at "v"
          refine i_catN (s8 _ _ hwq7) hD4 (by simp only [List.length_map, withS]; omega) (fun q9 H9 n9 s9 h9 => ?_)
          refine ⟨⟨q9, _, _, _, rfl, ?_⟩, s7.trans (s8.trans s9)⟩
          rw [h9, ei, List.map_append]
      · rintro σ H6 ⟨⟨wq, v5, v6, v7, rfl, hwq⟩, s6⟩
        have e3 : triPre t 3 = triL t := rfl
        rw [e3] at hwq
        have s06 := s4.trans s6
        have lf := (whenW_len po (ts := ts.take i) (fun t ht => okt t (List.mem_of_mem_take ht))).1
        have lti : (ts.take i).length ≤ 100 := by rw [List.length_take]; omega
        obtain ⟨ltw, _⟩ := triW_len po tok
        walk_at "v"
        refine i_iteCat (s6 _ _ hf4) (by rw [List.length_map]; omega) (fun q7 H7 n7 s7 h7 => ?_)
        have s07 := s06.trans s7
        walk_at "v"
        refine ⟨show 0 ≤ sizeLine by decide, fun e1 he1 => ?_⟩
        have s8 : Same H7 (upd H7 e1 (.lst [])) := (Same.refl _).new he1
        have he8 : upd H7 e1 (.lst []) e1 = some (.lst (([] : List Str).map V.str)) := upd_same
        generalize upd H7 e1 (.lst []) = H8 at s8 he8
        have hwq8 := s8 _ _ (s7 _ _ hwq)
        refine i_neP (dt_strs hwq8) (dt_strs he8) (.inl (by show PyData.depth (.list ((triL t).map .str)) ≤ 60; simp [PyData.depth, depth_strs])) ?_
        rw [show PyData.eqv (.list ((triL t).map .str)) (.list (([] : List Str).map .str)) = decide (triL t = []) from eqv_strs _ _]
        have fin : ∀ q H9, H q = none → Same H8 H9 → H9 q = some (.lst (((whenW (ts.take i)).map V.str ++ (if decide ((0 : Int) < 0 + (i : Nat)) = true then [V.str sSL] else [])) ++ (triW t).map V.str)) → (∃ f u2 u3 u4 u5 u6 u7, [some (.ref aw), some (.ref q), some (.int ((0 : Int) + (i : Nat))), some (.ref tp), some (.ref wq), v5, v6, v7] = [some (V.ref aw), some (V.ref f), u2, u3, u4, u5, u6, u7] ∧ H f = none ∧ H9 f = some (.lst ((whenW (ts.take (i + 1))).map V.str))) ∧ Same H H9 := fun q H9 nq s9 h9 => by
          refine ⟨⟨q, _, _, _, _, _, _, rfl, nq, ?_⟩, s07.trans (s8.trans s9)⟩
          rw [h9, whenW_take gti]
          have e1 : (decide ((0 : Int) < 0 + (i : Nat)) = true) = (0 < i) := by simp
          simp only [e1, List.map_append, List.append_assoc]
          by_cases h0 : 0 < i
          · simp [h0]
          · simp [h0]
        have lc : ((whenW (ts.take i)).map V.str ++ (if decide ((0 : Int) < 0 + (i : Nat)) = true then [V.str sSL] else [])).length ≤ 2000 := by
          rw [List.length_append, List.length_map]
          split <;> simp only [List.length_cons, List.length_nil] <;> omega
        have h78 := s8 _ _ h7
        refine ⟨_, rfl, ?_⟩
        refine ifn (fun ne => ?_) (fun em => ?_)
        · walk_at "v"
          have et : triW t = triL t := by unfold triW; rw [if_neg ne]
          rw [et] at ltw fin
          refine i_catN h78 hwq8 (by rw [List.length_append, List.length_map, List.length_map]; split <;> simp only [List.length_cons, List.length_nil] <;> omega) (fun q9 H9 n9 s9 h9 => ?_)
          exact fin q9 H9 (same_none (s07.trans s8) n9) s9 h9
        · walk_at "v"
          have et : triW t = [sMI] := by unfold triW; rw [if_pos em]
          rw [et] at fin
          refine i_catG h78 (by rw [List.length_append, List.length_map]; split <;> simp only [List.length_cons, List.length_nil] <;> omega) (fun q9 H9 n9 s9 h9 => ?_)
          exact fin q9 H9 (same_none (s07.trans s8) n9) s9 h9
    · rintro σ H3 ⟨⟨f, v2, v3, v4, v5, v6, v7, rfl, hf, hf3⟩, s3⟩
      rw [lxs, List.take_length] at hf3
      walk_at "v"
      exact k f _ hf hf3 s3
def spNSaid : Sp := fun vs H Q _ => ∃ (S : List Addr) (s : Sd) (p : Addr) (pg : List Str), vs = [.ref p] ∧ Dt S H (stepD s) (.ref p) ∧ PgOk pg ∧ s.Ok pg ∧ s.wh.length ≤ 100 ∧
  ∀ H', Same H H' → Q (.str (lineW (stepW s))) H'
/-- the words once the `if` over 'do' is past -/
def kdW1 : Kd → List Str
  | .out _ => ["out"]
  | k => kdW k
theorem ok_nsaid (d : Fd K mg "_law_nsaid" s_law_nsaid P_law_nsaid) (d_law_nwords : Fd K mg "_law_nwords" s_law_nwords P_law_nwords) (B : Blt2 K mg) : FnOk P w K mg base CX0 2 d.f d.fd P_law_nsaid spNSaid := by
  have G_law_nwords : FnOk P w K mg base CX0 1 d_law_nwords.f d_law_nwords.fd P_law_nwords spNWords := ok_nwords d_law_nwords B
  refine d.F.ok sc_law_nsaid (fun vs H Q E h => ?_) (fun cdv A outer s H vs Q E hr h => ?_)
  · obtain ⟨S, s, p, pg, rfl, _⟩ := h
    rfl
  · obtain ⟨S, sd, p, pg, rfl, hd, po, ok, lw, k⟩ := h
    obtain ⟨p', e', ⟨xs, aw, ts, hp, lxs, hm, haw, dts⟩⟩ := step_tup hd
    cases e'
    have ati : ∀ {n : Nat} {x : V}, xs[n]? = some x → atI (V.str (hdW sd.k) :: (xs ++ [.ref aw])) ((n + 1 : Nat) : Int) = some x := fun {n x} e => atI_nat (j := n + 1) (by
      rw [List.getElem?_cons_succ, List.getElem?_append_left (List.getElem?_eq_some_iff.mp e).1]; exact e)
    refine ⟨_, (pss_cons (ps_set (i := 1) sc_law_nsaid.nd rfl (by first | exact Or.inl rfl | exact Or.inr rfl) (pe_lst (pa_cons (pe_ix (x_tup K) (pv 0) pe_int (fun _ _ => rfl)) pa_nil)))
      (pss_cons (PS.by_ (t' := fun D σ H1 => ∃ wp, σ = [some (.ref p), some (.ref wp)] ∧ Same H H1 ∧ H1 wp = some (.lst [.str (hdW sd.k)]) ∧ ∀ wq H', Same H H' → H' wq = some (.lst ((kdW1 sd.k).map V.str)) → D.nx [some (.ref p), some (.ref wq)] H') ⟨_, (ps_if (pt_cmpR op_eq (pe_ix (x_tup K) (pv 0) pe_int (fun _ _ => rfl)) pe_str (nomark _)) (pss_one (ps_set (i := 1) sc_law_nsaid.nd rfl (by first | exact Or.inl rfl | exact Or.inr rfl) (pe_op op_cat (pe_op op_cat (pe_op op_cat (pe_op op_cat (pe_op op_cat (pv 1) (pe_callTy (c_list K) (by rfl) B.list (by decide +kernel) (pa_cons (pe_ix (x_tup K) (pv 0) pe_int (fun _ _ => rfl)) pa_nil))) (pe_lst (pa_cons pe_str pa_nil))) (pe_callTy (c_list K) (by rfl) B.list (by decide +kernel) (pa_cons (pe_ix (x_tup K) (pv 0) pe_int (fun _ _ => rfl)) pa_nil))) (pe_lst (pa_cons pe_str pa_nil))) (pe_callTy (c_list K) (by rfl) B.list (by decide +kernel) (pa_cons (pe_ix (x_tup K) (pv 0) pe_int (fun _ _ => rfl)) pa_nil))))) pss_nil), by
          rintro D σ H1 ⟨wp, rfl, s0, hw1, q⟩
          walk_at "v"
          refine i_ixT (s0 _ _ hp) (atI_nat (j := 0) rfl) ?_
          walk_at "v"
          cases ek : sd.k with
          | do_ r w v =>
            obtain ⟨v1, e1, a1, rfl, ha1⟩ := hm 0 r (by rw [ek]; rfl)
            obtain ⟨v2, e2, a2, rfl, ha2⟩ := hm 1 w (by rw [ek]; rfl)
            obtain ⟨v3, e3, a3, rfl, ha3⟩ := hm 2 v (by rw [ek]; rfl)
            have l1 := sub_len po (by have := ok.k; rw [ek] at this; exact this.1 : r.Sublist pg)
            have l2 := sub_len po (by have := ok.k; rw [ek] at this; exact this.2.1 : w.Sublist pg)
            have l3 := sub_len po (by have := ok.k; rw [ek] at this; exact this.2.2.2.trans this.2.1 : v.Sublist pg)
            rw [ek] at hw1
            refine iteT ?_
            walk_at "v"
            refine i_ixT (s0 _ _ hp) (ati e1) ?_
            walk_at "v"
            refine i_catL (s0 _ _ ha1) hw1 (by simp; omega) (fun q2 H2 n2 s2 h2 => ?_)
            have s02 := s0.trans s2
            walk_at "v"
            refine i_catG h2 (by simp; omega) (fun q3 H3 n3 s3 h3 => ?_)
            have s03 := s02.trans s3
            walk_at "v"
            refine i_ixT (s03 _ _ hp) (ati e2) ?_
            walk_at "v"
            refine i_catL (s03 _ _ ha2) h3 (by simp; omega) (fun q4 H4 n4 s4 h4 => ?_)
            have s04 := s03.trans s4
            walk_at "v"
            refine i_catG h4 (by simp; omega) (fun q5 H5 n5 s5 h5 => ?_)
            have s05 := s04.trans s5
            walk_at "v"
            refine i_ixT (s05 _ _ hp) (ati e3) ?_
            walk_at "v"
            refine i_catL (s05 _ _ ha3) h5 (by simp; omega) (fun q6 H6 n6 s6 h6 => ?_)
            refine q q6 H6 (s05.trans s6) ?_
            rw [h6, ek]
            simp [kdW1, kdW, hdW]
          | out l =>
            refine ifd (fun h => absurd (V.str.inj h) (show ("out" : Str) ≠ "do" by decide)) (fun _ => ?_)
            refine q wp H1 s0 ?_
            rw [hw1, ek]
            rfl
          | alone x =>
            have nx : x ≠ ("do" : Str) := by
              have := ok.k; rw [ek] at this
              rcases this with rfl | rfl | rfl <;> decide
            refine ifd (fun h => absurd (V.str.inj h) nx) (fun _ => ?_)
            refine q wp H1 s0 ?_
            rw [hw1, ek]
            rfl⟩)
      (pss_cons (PS.by_ (t' := fun D σ H1 => ∃ wp, σ = [some (.ref p), some (.ref wp)] ∧ Same H H1 ∧ H1 wp = some (.lst ((kdW1 sd.k).map V.str)) ∧ ∀ wq H', Same H H' → H' wq = some (.lst ((kdW sd.k).map V.str)) → D.nx [some (.ref p), some (.ref wq)] H') ⟨_, (ps_if (pt_cmpR op_eq (pe_ix (x_tup K) (pv 0) pe_int (fun _ _ => rfl)) pe_str (nomark _)) (pss_one (ps_set (i := 1) sc_law_nsaid.nd rfl (by first | exact Or.inl rfl | exact Or.inr rfl) (pe_op op_cat (pv 1) (pe_callTy (c_list K) (by rfl) B.list (by decide +kernel) (pa_cons (pe_ix (x_tup K) (pv 0) pe_int (fun _ _ => rfl)) pa_nil))))) pss_nil), by
          rintro D σ H1 ⟨wp, rfl, s0, hw1, q⟩
          walk_at "v"
          refine i_ixT (s0 _ _ hp) (atI_nat (j := 0) rfl) ?_
          walk_at "v"
          cases ek : sd.k with
          | do_ r w v =>
            refine ifd (fun h => absurd (V.str.inj h) (show ("do" : Str) ≠ "out" by decide)) (fun _ => ?_)
            refine q wp H1 s0 ?_
            rw [hw1, ek]
            rfl
          | out l =>
            obtain ⟨v1, e1, a1, rfl, ha1⟩ := hm 0 l (by rw [ek]; rfl)
            have l1 := sub_len po (by have := ok.k; rw [ek] at this; exact this.1 : l.Sublist pg)
            rw [ek] at hw1
            refine iteT ?_
            walk_at "v"
            refine i_ixT (s0 _ _ hp) (ati e1) ?_
            walk_at "v"
            refine i_catL (s0 _ _ ha1) hw1 (by simp [kdW1]; omega) (fun q2 H2 n2 s2 h2 => ?_)
            refine q q2 H2 (s0.trans s2) ?_
            rw [h2, ek]
            simp [kdW1, kdW]
          | alone x =>
            have nx : x ≠ ("out" : Str) := by
              have := ok.k; rw [ek] at this
              rcases this with rfl | rfl | rfl <;> decide
            refine ifd (fun h => absurd (V.str.inj h) nx) (fun _ => ?_)
            refine q wp H1 s0 ?_
            rw [hw1, ek]
            rfl⟩)
      (pss_one (ps_ret (pe_m1 PySem.F.slot_str_join PySem.F.type_str_join (m_join K) pe_str (pe_op op_cat (pe_op op_cat (pv 1) (pe_lst (pa_cons pe_str pa_nil))) (pe_call G_law_nwords (hr.mono (by decide)) (by rfl) d_law_nwords.g d_law_nwords.F.kp d_law_nwords.b .nil pass0 (pa_cons (pe_ix (x_tup K) (pv 0) (pe_un un_neg pe_int) (fun _ _ => rfl)) pa_nil))))))))), ?_⟩
    walk_at "v"
    refine i_ixT hp (atI_nat (j := 0) rfl) ?_
    walk_at "v"
    refine ⟨show 1 ≤ sizeLine by decide, fun wp hwp => ?_⟩
    refine ⟨wp, rfl, (Same.refl H).new hwp, upd_same, fun wq H1 s1 hq1 => ⟨wq, rfl, s1, hq1, fun wq H2 s2 hq2 => ?_⟩⟩
    obtain ⟨lk, xk⟩ := kdW_len po ok.k
    walk_at "v"
    refine i_catG hq2 (by rw [List.length_map]; show _ + 1 ≤ _; omega) (fun q3 H3 n3 s3 h3 => ?_)
    have s03 := s2.trans s3
    walk_at "v"
    refine i_ixT (s03 _ _ hp) (by rw [← List.cons_append]; exact atI_last _ _) ?_
    walk_at "v"
    have dw : Dt [] H3 (whenD sd.wh) (.ref aw) := by
      unfold whenD Dt
      exact ⟨aw, ts, rfl, by simp, s03 _ _ haw, DtAll.mono (by simp) _ _ (DtAll.keep (Keep.of_same (S := S) s03) _ _ dts)⟩
    refine ⟨[], sd.wh, .ref aw, pg, rfl, dw, po, ok.w, lw, fun q4 H4 n4 h4 s4 => ?_⟩
    obtain ⟨lww, _⟩ := whenW_len po ok.w
    refine i_catN (s4 _ _ h3) h4 (by simp; omega) (fun q5 H5 n5 s5 h5 => ?_)
    have h5' : H5 q5 = some (.lst ((stepW sd).map V.str)) := by rw [h5]; simp [stepW]
    obtain ⟨lsw, xsw⟩ := stepW_len po ok
    have hj := sum_le xsw
    have l1 : SPC.length = 1 := by decide
    walk_at "v"
    refine i_join h5' (by show _ + _ * SPC.length ≤ _; rw [l1]; omega) ?_
    exact k _ (s03.trans (s4.trans s5))
end Lr
set_option Elab.async false
set_option linter.all false
set_option maxRecDepth 100000
set_option maxHeartbeats 4000000
namespace Lr
open PySem PySem.Spec PyProof.Rows L2 TL
local macro_rules | `(tactic| walk_at "ne") => `(tactic| (first | assumption | (refine ne_sym ?_; assumption) | (exact ne_of_none (by assumption) (by assumption)) | (exact ne_sym (ne_of_none (by assumption) (by assumption)))))
local macro_rules | `(tactic| walk_at "h") => `(tactic| (first | assumption | exact upd_same | (refine h_new ?_ (by assumption); walk_at "h") | (refine h_ne (by walk_at "ne") ?_; walk_at "h")))
local macro_rules | `(tactic| walk_at "v1") => `(tactic| (with_reducible first
  | refine i_seq ?_ | refine i_asg ?_ | refine i_ret ?_ | refine i_next ?_ | refine i_drop ?_ | refine i_ifS ?_ | refine i_if ?_ | refine i_and ?_ | refine i_or ?_ | refine i_not ?_ | refine i_test ?_ | refine i_tB ?_ | refine i_bl ?_ | refine i_yes ?_
  | refine i_op ?_ | refine i_un ?_ | refine i_chain ?_ | refine i_andV ?_ | refine i_orV ?_ | refine i_notV ?_ | refine i_cb ?_ | refine i_cons ?_ | refine i_nil ?_ | refine i_bm ?_ | refine i_bm0 ?_ | refine i_c ?_ | refine i_name ?_ | refine i_sub ?_
  | refine i_call ?_ | refine i_lst ?_ | refine i_tup ?_ | refine i_par ?_ | refine i_par2 ?_ | refine i_sl ?_ | refine i_np ?_ | refine i_pt ?_ | refine i_int ?_ | refine i_m0 ?_ | refine i_m1 ?_ | refine i_isS ?_
  | refine i_rI0 ?_ | refine i_inSign ?_ | refine i_notInSign ?_ | refine i_int1 ?_ | refine i_tru ?_ | refine i_isN ?_ | refine i_notN ?_ | refine iteT ?_ | refine iteF ?_ | refine i_brk ?_ | refine i_rt ?_ | refine i_nx ?_ | refine i_bk ?_ | refine i_ct ?_ | refine i_for ?_ | refine i_lc ?_ | refine i_dc ?_ | refine i_iL ?_ | refine i_iT ?_ | refine i_iR1 ?_ | refine i_iR2 ?_ | refine i_iS ?_ | refine i_iE ?_ | refine i_iEK ?_ | refine i_iEQ ?_ | refine i_iZS ?_ | refine i_dget ?_ | refine i_fld ?_ | refine i_sfld ?_ | refine i_dput ?_ | refine i_meth ?_ | refine i_rU ?_ | refine i_cont ?_ | refine i_make ?_))
local macro_rules | `(tactic| walk_at "v2") => `(tactic| (first
  | ((with_reducible refine' i_var ?k1 ?_); (case k1 => exact rfl))
  | ((with_reducible refine' i_eq ?k1 ?_); (case k1 => exact rfl))
  | ((with_reducible refine' i_ne ?k1 ?_); (case k1 => exact rfl))
  | ((with_reducible refine' i_ixL ?k1 ?k2 ?_); (case k1 => walk_at "h"); (case k2 => exact rfl))
  | ((with_reducible refine' i_ixT ?k1 ?k2 ?_); (case k1 => walk_at "h"); (case k2 => exact rfl))
  | ((with_reducible refine' i_lenL ?k1 ?_); (case k1 => walk_at "h"))
  | ((with_reducible refine' i_lenT ?k1 ?_); (case k1 => walk_at "h"))
  | (refine i_wipe (show wipe _ _ = wipe _ _ from rfl) ?_)
  | ((with_reducible refine' i_setL ?k1 ?k2 ?_); (case k1 => walk_at "h"); (case k2 => exact rfl))
  | ((with_reducible refine' i_tyl ?k1 ?_); (case k1 => walk_at "h"))))
local macro_rules | `(tactic| walk_at "v") => `(tactic| repeat (first | walk_at "v1" | walk_at "v2"))

variable {P : Program} {w : World} {K :
      PySem.W.Frag} {mg : Str → Option Value} {base : Heap}
abbrev s_law_nascending : Stmt := top 50
abbrev N_law_nascending : List Str := ["words", "pages", "word", "x", "y"]
abbrev P_law_nascending : List Str := ["words", "pages"]
theorem sc_law_nascending : FnScope N_law_nascending P_law_nascending (defScope s_law_nascending) := ⟨rfl, rfl, rfl, by decide +kernel, rfl, by decide +kernel, by decide +kernel⟩
abbrev s_law_nname_fits : Stmt := top 56
abbrev N_law_nname_fits : List Str := ["word", "signs", "sign"]
abbrev P_law_nname_fits : List Str := ["word"]
theorem sc_law_nname_fits : FnScope N_law_nname_fits P_law_nname_fits (defScope s_law_nname_fits) := ⟨rfl, rfl, rfl, by decide +kernel, rfl, by decide +kernel, by decide +kernel⟩
def ltS (x y : Str) : Bool := decide (x.cps.toList < y.cps.toList)
def ascB (ws pg : List Str) : Bool := ws.all (fun x => decide (x ∈ pg)) && (ws.zip (ws.drop 1)).all (fun p => ltS p.1 p.2)
def spAsc : Sp := fun vs H Q _ => ∃ (p q : Addr) (ws pg : List Str), vs = [.ref p, .ref q] ∧ H p = some (.lst (ws.map V.str)) ∧ H q = some (.lst (pg.map V.str)) ∧ ws.length ≤ 1000 ∧
  ∀ H', Same H H' → Q (.bl (ascB ws pg)) H'
theorem ok_asc (d : Fd K mg "_law_nascending" s_law_nascending P_law_nascending) (B : Blt2 K mg) : FnOk P w K mg base CX0 1 d.f d.fd P_law_nascending spAsc := by
  refine d.F.ok sc_law_nascending (fun vs H Q E h => ?_) (fun cdv A outer s H vs Q E hr h => ?_)
  · obtain ⟨p, q, ws, pg, rfl, _⟩ := h
    rfl
  · obtain ⟨p, q, ws, pg, rfl, hp, hq, lw, k⟩ := h
    refine ⟨_, (pss_one (ps_ret (pe_and (pe_callB (c_all K rfl) (by rfl) B.all (by decide +kernel) (pa_cons (pe_lc (own := [("word", 2)]) (g := gName 2) (tt := tYes) rfl sc_law_nascending.nd (w_list K (pv 0)) (blkOk_by (own := [("word", 2)]) (N := N_law_nascending) (sc := defScope s_law_nascending) (by decide +kernel)) (fun _ _ _ _ _ => by exact (pg_name (i := 2) sc_law_nascending.nd rfl (by first | exact Or.inl rfl | exact Or.inr rfl))) (fun _ _ _ _ _ => pts_nil) (fun _ _ _ _ _ => by exact (pe_cmpR (o_in K) (pv 2) (pv 1) (by rfl)))) pa_nil)) (pe_one (pe_callB (c_all K rfl) (by rfl) B.all (by decide +kernel) (pa_cons (pe_lc (own := [("x", 3), ("y", 4)]) (g := _) (tt := tYes) rfl sc_law_nascending.nd (w_zip K (by rfl) B.zip (pa_cons (pv 0) (pa_cons (pe_slice (s_list K) (pv 0) (po_some pe_int) po_none) pa_nil))) (blkOk_by (own := [("x", 3), ("y", 4)]) (N := N_law_nascending) (sc := defScope s_law_nascending) (by decide +kernel)) (fun _ _ _ _ _ => by exact (g_tup K (n := 2) rfl (pgs_cons (pg_name (i := 3) sc_law_nascending.nd rfl (by first | exact Or.inl rfl | exact Or.inr rfl)) (pgs_cons (pg_name (i := 4) sc_law_nascending.nd rfl (by first | exact Or.inl rfl | exact Or.inr rfl)) pgs_nil)))) (fun _ _ _ _ _ => pts_nil) (fun _ _ _ _ _ => by exact (pe_cmpR o_ltS (pv 3) (pv 4) (nomark _)))) pa_nil)))))), ?_⟩
    walk_at "v"
    refine w_lst hp ?_
    refine lc_by (walk_list (xs := ws.map V.str)) fun D hD => ⟨fun i H' => H' D = some (.lst (((ws.take i).map fun x => decide (x ∈ pg)).map V.bl)) ∧ Same H H', ⟨upd_same, (Same.refl _).new hD⟩, fun i H' _ ⟨_, s⟩ => SqL.of (s _ _ hp), ?_, ?_⟩
    · rintro i x H2 H3 hi ⟨hD2, s2⟩ ⟨rfl, hx⟩
      rw [List.getElem?_map] at hx
      obtain ⟨x, hxi, rfl⟩ := Option.map_eq_some_iff.mp hx
      walk_at "v"
      refine ⟨q, pg.map V.str, rfl, .inl (SqL.of (s2 _ _ hq)), rfl, flat_strs _, ?_⟩
      rw [inV_strs]
      refine ⟨_, hD2, by simp only [List.length_map, List.length_take]; exact small1000 (by omega), ?_, s2.put hD⟩
      rw [List.take_succ, hxi]
      simpa using upd_same
    · rintro H2 ⟨hD2, s2⟩
      rw [List.length_map, List.take_length] at hD2
      walk_at "v"
      refine ⟨D, _, rfl, SqL.of hD2, ?_⟩
      have e1 : (ws.map fun x => decide (x ∈ pg)).all id = ws.all fun x => decide (x ∈ pg) := by rw [List.all_map]; rfl
      rw [e1]
      refine ⟨_, rfl, ?_⟩
      cases ha : ws.all (fun x => decide (x ∈ pg)) with
      | false =>
        refine iteF ?_
        have : ascB ws pg = false := by unfold ascB; rw [ha]; rfl
        rw [this] at k
        exact k _ s2
      | true =>
        refine iteT ?_
        have ea : ascB ws pg = (ws.zip (ws.drop 1)).all fun p => ltS p.1 p.2 := by unfold ascB; rw [ha]; rfl
        rw [ea] at k
        walk_at "v"
        refine ⟨.ref p, rfl, ?_⟩
        walk_at "v"
        refine ⟨p, _, rfl, SqL.of (s2 _ _ hp), fun p1 hp1 => ?_⟩
        rw [show (some (1 : Int)) = some ((1 : Nat) : Int) from rfl, cut_from, ← List.map_drop]
        have h1 : upd H2 p1 (.lst ((ws.drop 1).map V.str)) p1 = some (.lst ((ws.drop 1).map V.str)) := upd_same
        have s3 : Same H (upd H2 p1 (.lst ((ws.drop 1).map V.str))) := s2.new hp1
        generalize upd H2 p1 (.lst ((ws.drop 1).map V.str)) = H3 at h1 s3
        walk_at "v"
        refine ⟨p, p1, ws.map V.str, (ws.drop 1).map V.str, rfl, .inl ⟨SqL.of (s3 _ _ hp), SqL.of h1, ?_⟩⟩
        have lz : (ws.zip (ws.drop 1)).length = min (ws.map V.str).length ((ws.drop 1).map V.str).length := by simp
        refine lc_by (walk_zip lz) fun D2 hD2 => ⟨fun i H' => H' D2 = some (.lst ((((ws.zip (ws.drop 1)).take i).map fun p => ltS p.1 p.2).map V.bl)) ∧ Same H3 H', ⟨upd_same, (Same.refl _).new hD2⟩, fun i H' _ ⟨_, s⟩ => ⟨SqL.of (s _ _ (s3 _ _ hp)), SqL.of (s _ _ h1)⟩, ?_, ?_⟩
        · rintro i x H4 H5 hi ⟨hD4, s4⟩ ⟨Z, y0, y, rfl, hZ, rfl, ex, ey⟩
          replace ex : (ws.map V.str)[i]? = some y0 := ex
          replace ey : ((ws.drop 1).map V.str)[i]? = some y := ey
          rw [List.getElem?_map] at ex ey
          obtain ⟨u, hu, rfl⟩ := Option.map_eq_some_iff.mp ex
          obtain ⟨v, hv, rfl⟩ := Option.map_eq_some_iff.mp ey
          have hz : (ws.zip (ws.drop 1))[i]? = some (u, v) := List.getElem?_zip_eq_some.mpr ⟨hu, hv⟩
          refine g_two upd_same ?_
          walk_at "v"
          refine ⟨_, _, rfl, rfl, ?_⟩
          refine ⟨_, h_new hD4 hZ, by simp only [List.length_map, List.length_take, List.length_zip]; exact small1000 (by omega), ?_, (s4.new hZ).put hD2⟩
          rw [List.take_succ, hz]
          simp only [Option.toList_some, List.map_append]
          exact upd_same
        · rintro H4 ⟨hD4, s4⟩
          rw [List.take_length] at hD4
          walk_at "v"
          refine ⟨D2, _, rfl, SqL.of hD4, ?_⟩
          have e2 : ((ws.zip (ws.drop 1)).map fun p => ltS p.1 p.2).all id = (ws.zip (ws.drop 1)).all fun p => ltS p.1 p.2 := by rw [List.all_map]; rfl
          rw [e2]
          exact k _ (s3.trans s4)
abbrev LF : Str := "abcdefghijklmnopqrstuvwxyz0123456789"
theorem lf_eq : LF.cps.toList = LET.cps.toList ++ FIG.cps.toList := by decide +kernel
theorem lf_mem (c : Nat) : decide (c ∈ LF.cps.toList) = (letB c || figB c) := by
  rw [lf_eq]
  unfold letB figB
  by_cases h1 : c ∈ LET.cps.toList <;> by_cases h2 : c ∈ FIG.cps.toList <;> simp [h1, h2]
def oddS (l : List Nat) : List Str := (l.filter fun c => !(letB c || figB c)).map ch
theorem let_fig {c : Nat} (h : letB c = true) : figB c = false := by
  unfold letB at h
  rw [letL, decide_eq_true_eq] at h
  have fl : FIG.cps.toList = [48, 49, 50, 51, 52, 53, 54, 55, 56, 57] := by decide +kernel
  unfold figB
  rw [fl, decide_eq_false_iff_not]
  simp only [List.mem_cons, List.not_mem_nil, or_false] at h ⊢
  omega
theorem oddS_nil {l : List Nat} : oddS l = [] ↔ l.all (fun c => letB c || figB c) = true := by
  unfold oddS
  rw [List.map_eq_nil_iff, List.filter_eq_nil_iff, List.all_eq_true]
  refine ⟨fun h x hx => ?_, fun h x hx => ?_⟩
  · have := h x hx
    cases e : (letB x || figB x) with
    | true => rfl
    | false => rw [e] at this; exact absurd rfl this
  · rw [h x hx]; decide
theorem nameB_of {z : Str} (h1 : 0 < z.length) (h2 : z.length < 9) (h3 : oddS z.cps.toList = []) {c : Nat} (h4 : z.cps.toList[0]? = some c) : nameB z = !figB c := by
  have ha := oddS_nil.mp h3
  have hl : (letB c || figB c) = true := List.all_eq_true.mp ha c (List.mem_of_getElem? h4)
  unfold nameB
  rw [ha, decide_eq_true (show 1 ≤ z.length by omega), decide_eq_true (show z.length ≤ 8 by omega)]
  cases e : z.cps.toList with
  | nil => rw [e] at h4; cases h4
  | cons d r =>
    rw [e] at h4
    cases h4
    show (true && letB c) = !figB c
    cases e1 : letB c with
    | true => rw [let_fig e1]; rfl
    | false => rw [e1] at hl; simp at hl; rw [hl]; rfl
theorem nameB_no {z : Str} (h : ¬ (0 < z.length ∧ z.length < 9 ∧ oddS z.cps.toList = [])) : nameB z = false := by
  cases e : nameB z with
  | false => rfl
  | true =>
    refine absurd ?_ h
    simp only [nameB, Bool.and_eq_true, decide_eq_true_eq] at e
    exact ⟨by omega, by omega, oddS_nil.mpr e.1.2⟩
def spNameFits : Sp := fun vs H Q _ => ∃ (z : Str), vs = [.str z] ∧ z.length ≤ 10000 ∧ ∀ H', Same H H' → Q (.bl (nameB z)) H'
theorem ok_namefits (d : Fd K mg "_law_nname_fits" s_law_nname_fits P_law_nname_fits) (B : Blt2 K mg) : FnOk P w K mg base CX0 1 d.f d.fd P_law_nname_fits spNameFits := by
  refine d.F.ok sc_law_nname_fits (fun vs H Q E h => ?_) (fun cdv A outer s H vs Q E hr h => ?_)
  · obtain ⟨z, rfl, _⟩ := h
    rfl
  · obtain ⟨z, rfl, hz, k⟩ := h
    refine ⟨_, (pss_cons (ps_setLc (i := 1) (own := [("sign", 2)]) (g := gName 2) rfl sc_law_nname_fits.nd rfl rfl (sw_true rfl rfl rfl (by decide +kernel)) (pi_str (pv 0)) (blkOk_by (own := [("sign", 2)]) (N := N_law_nname_fits) (sc := defScope s_law_nname_fits) (by decide +kernel)) (fun _ _ _ _ _ => by exact (pg_name (i := 2) sc_law_nname_fits.nd rfl (by first | exact Or.inl rfl | exact Or.inr rfl))) (fun _ _ _ _ _ => by exact (pts_one (pt_cmpR o_notInSign (pv 2) pe_str (by rfl)))) (fun _ _ _ _ _ => by exact (pv 2)))
      (pss_one (ps_ret (pe_and (pe_chain op_lt op_lt pe_int (pe_callB c_lenS (by rfl) B.len (by decide +kernel) (pa_cons (pv 0) pa_nil)) pe_int) (pe_and (pe_cmpR (o_eqP K hr.units) (pv 1) (pe_lst pa_nil) (nomark _)) (pe_one (pe_cmpR o_notInSign (pe_ix ix_str (pv 0) pe_int (fun _ _ => rfl)) pe_str (by rfl)))))))), ?_⟩
    walk_at "v"
    refine ⟨z, rfl, ?_⟩
    refine lc_by walk_str fun D hD => ⟨fun i H' => H' D = some (.lst ((oddS (z.cps.toList.take i)).map V.str)) ∧ Same H H', ⟨upd_same, (Same.refl _).new hD⟩, fun _ _ _ _ => trivial, ?_, ?_⟩
    · rintro i x H2 H3 hi ⟨hD2, s2⟩ ⟨rfl, c, hc, rfl⟩
      have hc' : z.cps.toList[i]? = some c := by simpa using hc
      have et : z.cps.toList.take (i + 1) = z.cps.toList.take i ++ [c] := by rw [List.take_succ, hc']; rfl
      have lo : (oddS (z.cps.toList.take i)).length ≤ 10000 := by
        unfold oddS
        rw [List.length_map]
        refine Nat.le_trans (List.length_filter_le _ _) ?_
        rw [List.length_take]
        have : z.cps.toList.length = z.length := rfl
        omega
      walk_at "v"
      have el := lf_mem c
      refine ifn (fun h => ?_) (fun h => ?_)
      · rw [decide_eq_false h] at el
        walk_at "v"
        refine ⟨_, hD2, by rw [List.length_map]; exact small_lt (by omega), ?_, s2.put hD⟩
        rw [et]
        unfold oddS
        rw [List.filter_append, List.map_append, List.map_append]
        simp only [List.filter_cons, ← el, List.filter_nil, Bool.not_false, if_true]
        exact upd_same
      · rw [decide_eq_true h] at el
        refine ⟨?_, s2⟩
        rw [et]
        unfold oddS at hD2 ⊢
        rw [List.filter_append]
        simp only [List.filter_cons, ← el, List.filter_nil, Bool.not_true, Bool.false_eq_true, if_false, List.append_nil]
        exact hD2
    · rintro H2 ⟨hD2, s2⟩
      rw [show z.cps.toList.take z.cps.size = z.cps.toList from List.take_of_length_le (by simp)] at hD2
      walk_at "v"
      refine i_lenS (small_sz (by omega)) ?_
      walk_at "v"
      refine ifd (fun c1 => ?_) (fun c1 => ?_)
      · walk_at "v"
        refine ifd (fun c2 => ?_) (fun c2 => ?_)
        · walk_at "v"
          refine ⟨show 0 ≤ sizeLine by decide, fun e1 he1 => ?_⟩
          have s3 : Same H2 (upd H2 e1 (.lst [])) := (Same.refl _).new he1
          have he3 : upd H2 e1 (.lst []) e1 = some (.lst (([] : List Str).map V.str)) := upd_same
          generalize upd H2 e1 (.lst []) = H3 at s3 he3
          refine i_eqP (dt_strs (s3 _ _ hD2)) (dt_strs he3) (.inr (by decide)) ?_
          rw [show PyData.eqv (.list ((oddS z.cps.toList).map .str)) (.list (([] : List Str).map .str)) = decide (oddS z.cps.toList = []) from eqv_strs _ _]
          refine ⟨_, rfl, ?_⟩
          refine ifd (fun c3 => ?_) (fun c3 => ?_)
          · walk_at "v"
            obtain ⟨c, hc⟩ : ∃ c, z.cps.toList[0]? = some c := by
              have : 0 < z.cps.toList.length := by show 0 < z.length; omega
              exact ⟨_, List.getElem?_eq_getElem this⟩
            refine i_ixS (small_sz (by omega)) (atI_nat (j := 0) hc) ?_
            walk_at "v"
            have := nameB_of (by omega) (by omega) c3 hc
            rw [this] at k
            exact k _ (s2.trans s3)
          · have := nameB_no (z := z) (fun h => c3 h.2.2)
            rw [this] at k
            exact k _ (s2.trans s3)
        · have := nameB_no (z := z) (fun h => c2 (by omega))
          rw [this] at k
          exact k _ s2
      · have := nameB_no (z := z) (fun h => c1 (by omega))
        rw [this] at k
        refine ⟨_, rfl, ?_⟩
        exact k _ s2
end Lr
set_option Elab.async false
set_option linter.all false
set_option maxRecDepth 100000
set_option maxHeartbeats 4000000
namespace Lr
open PySem PySem.Spec PyProof.Rows L2 TL
local macro_rules | `(tactic| walk_at "ne") => `(tactic| (first | assumption | (refine ne_sym ?_; assumption) | (exact ne_of_none (by assumption) (by assumption)) | (exact ne_sym (ne_of_none (by assumption) (by assumption)))))
local macro_rules | `(tactic| walk_at "h") => `(tactic| (first | assumption | exact upd_same | (refine h_new ?_ (by assumption); walk_at "h") | (refine h_ne (by walk_at "ne") ?_; walk_at "h")))
local macro_rules | `(tactic| walk_at "v1") => `(tactic| (with_reducible first
  | refine i_seq ?_ | refine i_asg ?_ | refine i_ret ?_ | refine i_next ?_ | refine i_drop ?_ | refine i_ifS ?_ | refine i_if ?_ | refine i_and ?_ | refine i_or ?_ | refine i_not ?_ | refine i_test ?_ | refine i_tB ?_ | refine i_bl ?_ | refine i_yes ?_
  | refine i_op ?_ | refine i_un ?_ | refine i_chain ?_ | refine i_andV ?_ | refine i_orV ?_ | refine i_notV ?_ | refine i_cb ?_ | refine i_cons ?_ | refine i_nil ?_ | refine i_bm ?_ | refine i_bm0 ?_ | refine i_c ?_ | refine i_name ?_ | refine i_sub ?_
  | refine i_call ?_ | refine i_lst ?_ | refine i_tup ?_ | refine i_par ?_ | refine i_par2 ?_ | refine i_sl ?_ | refine i_np ?_ | refine i_pt ?_ | refine i_int ?_ | refine i_m0 ?_ | refine i_m1 ?_ | refine i_isS ?_
  | refine i_rI0 ?_ | refine i_inSign ?_ | refine i_notInSign ?_ | refine i_int1 ?_ | refine i_tru ?_ | refine i_isN ?_ | refine i_notN ?_ | refine iteT ?_ | refine iteF ?_ | refine i_brk ?_ | refine i_rt ?_ | refine i_nx ?_ | refine i_bk ?_ | refine i_ct ?_ | refine i_for ?_ | refine i_lc ?_ | refine i_dc ?_ | refine i_iL ?_ | refine i_iT ?_ | refine i_iR1 ?_ | refine i_iR2 ?_ | refine i_iS ?_ | refine i_iE ?_ | refine i_iEK ?_ | refine i_iEQ ?_ | refine i_iZS ?_ | refine i_dget ?_ | refine i_fld ?_ | refine i_sfld ?_ | refine i_dput ?_ | refine i_meth ?_ | refine i_rU ?_ | refine i_cont ?_ | refine i_make ?_))
local macro_rules | `(tactic| walk_at "v2") => `(tactic| (first
  | ((with_reducible refine' i_var ?k1 ?_); (case k1 => exact rfl))
  | ((with_reducible refine' i_eq ?k1 ?_); (case k1 => exact rfl))
  | ((with_reducible refine' i_ne ?k1 ?_); (case k1 => exact rfl))
  | ((with_reducible refine' i_ixL ?k1 ?k2 ?_); (case k1 => walk_at "h"); (case k2 => exact rfl))
  | ((with_reducible refine' i_ixT ?k1 ?k2 ?_); (case k1 => walk_at "h"); (case k2 => exact rfl))
  | ((with_reducible refine' i_lenL ?k1 ?_); (case k1 => walk_at "h"))
  | ((with_reducible refine' i_lenT ?k1 ?_); (case k1 => walk_at "h"))
  | (refine i_wipe (show wipe _ _ = wipe _ _ from rfl) ?_)
  | ((with_reducible refine' i_setL ?k1 ?k2 ?_); (case k1 => walk_at "h"); (case k2 => exact rfl))
  | ((with_reducible refine' i_tyl ?k1 ?_); (case k1 => walk_at "h"))))
local macro_rules | `(tactic| walk_at "v") => `(tactic| repeat (first | walk_at "v1" | walk_at "v2"))

variable {P : Program} {w : World} {K :
      PySem.W.Frag} {mg : Str → Option Value} {base : Heap}
abbrev s_law_nwhen_fits : Stmt := top 52
abbrev N_law_nwhen_fits : List Str := ["words", "pages", "part", "lots", "sign", "word", "page", "lot"]
abbrev P_law_nwhen_fits : List Str := ["words", "pages"]
theorem sc_law_nwhen_fits : FnScope N_law_nwhen_fits P_law_nwhen_fits (defScope s_law_nwhen_fits) := ⟨rfl, rfl, rfl, by decide +kernel, rfl, by decide +kernel, by decide +kernel⟩
/-! ascending lots are sublists -/
theorem lt_trans' {x y z : Str} (h1 : ltS x y = true) (h2 : ltS y z = true) : ltS x z = true := by
  unfold ltS at *
  rw [decide_eq_true_eq] at *
  exact List.lt_trans h1 h2
theorem ltS_cps (x y : Str) : ltS x y = ltCps x.cps.toList y.cps.toList := PyProof.Rows.lt_meets x y
theorem ltS_le {x y : Str} (h : ltS x y = true) : leS x y := by
  unfold leS
  rw [← ltS_cps]
  unfold ltS at h ⊢
  rw [decide_eq_true_eq] at h
  rw [decide_eq_false_iff_not]
  exact List.lt_asymm h
theorem ltS_ne {x y : Str} (h : ltS x y = true) : x ≠ y := fun e => by
  subst e
  unfold ltS at h
  rw [decide_eq_true_eq] at h
  exact List.lt_irrefl _ h
theorem le_ltS {x y : Str} (h : leS x y) (n : x ≠ y) : ltS x y = true := by
  rw [ltS_cps]
  cases e : ltCps x.cps.toList y.cps.toList with
  | true => rfl
  | false => exact absurd (ext_cps (Lr.ltCps_eq e h)) n
theorem adj_pw : ∀ {l : List Str}, (l.zip (l.drop 1)).all (fun p => ltS p.1 p.2) = true ↔ l.Pairwise (fun x y => ltS x y = true)
  | [] => by simp
  | [x] => by simp
  | x :: y :: r => by
    have ih := adj_pw (l := y :: r)
    simp only [List.drop_succ_cons, List.drop_zero, List.zip_cons_cons, List.all_cons, Bool.and_eq_true] at ih ⊢
    rw [ih, List.pairwise_cons (a := x)]
    refine ⟨fun ⟨h1, h2⟩ => ⟨fun z hz => ?_, h2⟩, fun ⟨h1, h2⟩ => ⟨h1 y (by simp), h2⟩⟩
    rcases List.mem_cons.mp
          hz with rfl | hz
    · exact h1
    · exact lt_trans' h1 ((List.pairwise_cons.mp h2).1 z hz)
theorem ascB_iff {pg l : List Str} (hp : NmOk pg) : ascB l pg = true ↔ l.Sublist pg := by
  unfold ascB
  rw [Bool.and_eq_true, adj_pw, List.all_eq_true]
  refine ⟨fun ⟨h1, h2⟩ => ?_, fun h => ⟨fun x hx => decide_eq_true (h.subset hx), ?_⟩⟩
  · exact sub_sorted hp.pw hp.nd (h2.imp fun h => ltS_le h) (h2.imp fun h => ltS_ne h) (fun x hx => of_decide_eq_true (h1 x hx))
  · have h1 := hp.pw.sublist h
    have h2 := hp.nd.sublist h
    exact (h1.and h2).imp fun h => le_ltS h.1 h.2
abbrev FdNSplit (K : PySem.W.Frag) (mg : Str → Option Value) := Fd K mg "_law_nsplit" s_law_nsplit P_law_nsplit
abbrev FdAsc (K : PySem.W.Frag) (mg : Str → Option Value) := Fd K mg "_law_nascending" s_law_nascending P_law_nascending
theorem cut_hd1 (z : Str) (c : Nat) : (cutS z none (some 1) = ch c) ↔ hd0 z = some c := by
  have e0 : tl (cutS z none (some 1)) = z.cps.toList.take 1 := by
    show (((z.cps.toList.drop (HT.sIx z.length 0 none)).take (HT.sIx z.length z.length (some 1) - HT.sIx z.length 0 none)).toArray).toList = _
    have e1 : HT.sIx z.length z.length (some 1) = min 1 z.length := HT.sIx_nat _ _ 1
    have e2 : HT.sIx z.length 0 none = 0 := rfl
    have ez : z.length = z.cps.toList.length := by rw [Array.length_toList]; rfl
    rw [e1, e2, ez, List.toList_toArray, List.drop_zero]
    cases z.cps.toList with
    | nil => rfl
    | cons c r => simp
  have e3 : tl (ch c) = [c] := rfl
  unfold hd0
  constructor
  · intro h
    have := congrArg tl h
    rw [e0, e3] at this
    cases e : z.cps.toList with
    | nil => rw [e] at this; cases this
    | cons d r => rw [e] at this; simp at this; rw [this]; rfl
  · intro h
    refine ext_tl ?_
    rw [e0, e3]
    cases e : z.cps.toList with
    | nil => rw [e] at h; cases h
    | cons d r => rw [e] at h; simp at h; rw [h]; rfl
theorem triP_iff {pg p : List Str} (po : PgOk pg) (h : p ≠ [sMI]) : triP pg p ≠ none ↔ (p ≠ [] ∧ (ascB (lotsOf cEQ p) pg = true ∧ ascB (lotsOf cPL p) pg = true ∧ ascB (lotsOf cEX p) pg = true) ∧ p = triL (triOf p)) := by
  unfold triP
  rw [if_neg h, ascB_iff po.nm, ascB_iff po.nm, ascB_iff po.nm]
  by_cases c : p ≠ [] ∧ p = triL (triOf p) ∧ (triOf p).Ok pg
  · rw [if_pos c]
    exact ⟨fun _ => ⟨c.1, ⟨c.2.2.c, c.2.2.f, c.2.2.s⟩, c.2.1⟩, fun _ => by simp⟩
  · rw [if_neg c]
    exact ⟨fun h => absurd rfl h, fun ⟨h1, ⟨a, b, d⟩, h3⟩ => absurd ⟨h1, h3, ⟨a, b, d⟩⟩ c⟩
theorem tl1_len (y : Str) : (tl1 y).length ≤ y.length := by rw [← cut_tl1]; exact cutS_length y _ _
theorem lots_short {c n : Nat} {ws : List Str} (h : ∀ x ∈ ws, x.length ≤ n) : ∀ x ∈ lotsOf c ws, x.length ≤ n := fun x hx => by
  unfold lotsOf at hx
  obtain ⟨y, hy, rfl⟩
        := List.mem_map.mp hx
  have h1 := h y (List.mem_filter.mp hy |>.1)
  have h2 := tl1_len y
  omega
def spWhenFits : Sp := fun vs H Q _ => ∃ (W N : Addr) (ws pg : List Str), vs = [.ref W, .ref N] ∧ H W = some (.lst (ws.map V.str)) ∧ ws.length ≤ 64 ∧ (∀ x ∈ ws, x.length ≤ 10000) ∧ H N = some (.lst (pg.map V.str)) ∧ PgOk pg ∧
  (whenP pg ws = none → ∀ H', Same H H' → Q (.bl false) H') ∧ (whenP pg ws ≠ none → ∀ H', Same H H' → Q (.bl true) H')
theorem ok_whenfits (d : Fd K mg "_law_nwhen_fits" s_law_nwhen_fits P_law_nwhen_fits) (d_law_nsplit : FdNSplit K mg) (d_law_nascending : FdAsc K mg) (B : Blt2 K mg) : FnOk P w K mg base CX0 2 d.f d.fd P_law_nwhen_fits spWhenFits := by
  have G_law_nsplit : FnOk P w K mg base CX0 1 d_law_nsplit.f d_law_nsplit.fd P_law_nsplit spParted := ok_nsplit d_law_nsplit B.toBlt
  have G_law_nascending : FnOk P w K mg base CX0 1 d_law_nascending.f d_law_nascending.fd P_law_nascending spAsc := ok_asc d_law_nascending B
  refine d.F.ok sc_law_nwhen_fits (fun vs H Q E h => ?_) (fun cdv A outer s H vs Q E hr h => ?_)
  · obtain ⟨W, N, ws, pg, rfl, _⟩ := h
    rfl
  · obtain ⟨W, N, ws, pg, rfl, hW, few, short, hN, po, k0, k1⟩ := h
    refine ⟨_, (pss_cons (ps_for PassesOwn.never rfl (w_list K (pe_ifExp (pt_cmpR (o_neP K hr.units) (pv 0) (pe_lst pa_nil) (nomark _)) (pe_call G_law_nsplit (hr.mono (by decide)) (by rfl) d_law_nsplit.g d_law_nsplit.F.kp d_law_nsplit.b .nil pass0 (pa_cons (pv 0) (pa_cons pe_str pa_nil))) (pe_lst pa_nil))) (pg_name (i := 2) sc_law_nwhen_fits.nd rfl (by first | exact Or.inl rfl | exact Or.inr rfl))
      (pss_cons (ps_if (pt_cmpR (o_eqP K hr.units) (pv 2) (pe_lst (pa_cons pe_str pa_nil)) (nomark _)) (pss_one ps_continue) pss_nil)
      (pss_cons (ps_setLc (i := 3) (own := [("sign", 4)]) (g := gName 4) (tt := tYes) rfl sc_law_nwhen_fits.nd rfl rfl (sw_true rfl rfl rfl (by decide +kernel)) (pi_str pe_str) (blkOk_by (own := [("sign", 4)]) (N := N_law_nwhen_fits) (sc := defScope s_law_nwhen_fits) (by decide +kernel)) (fun _ _ _ _ _ => by exact (pg_name (i := 4) sc_law_nwhen_fits.nd rfl (by first | exact Or.inl rfl | exact Or.inr rfl))) (fun _ _ _ _ _ => pts_nil) (fun _ _ _ _ _ => by exact (pe_lc (own := [("word", 5)]) (g := gName 5) rfl sc_law_nwhen_fits.nd (w_list K (pv 2)) (blkOk_by (own := [("word", 5)]) (N := N_law_nwhen_fits) (by rfl)) (fun _ _ _ _ _ => by exact (pg_name (i := 5) sc_law_nwhen_fits.nd rfl (by first | exact Or.inl rfl | exact Or.inr rfl))) (fun _ _ _ _ _ => by exact (pts_one (pt_cmpR op_eq (pe_slice sl_str (pv 5) po_none (po_some pe_int)) (pv 4) (nomark _)))) (fun _ _ _ _ _ => by exact (pe_slice sl_str (pv 5) (po_some pe_int) po_none)))))
      (pss_cons (ps_if (PW.pt (pw_or (pt_cmpR (o_eqP K hr.units) (pv 2) (pe_lst pa_nil) (nomark _)) (pw_or1 (pt_not (pt_val (pe_callB (c_all K rfl) (by rfl) B.all (by decide +kernel) (pa_cons (pe_lc (own := [("lot", 7)]) (g := gName 7) (tt := tYes) rfl sc_law_nwhen_fits.nd (w_list K (pv 3)) (blkOk_by (own := [("lot", 7)]) (N := N_law_nwhen_fits) (sc := defScope s_law_nwhen_fits) (by decide +kernel)) (fun _ _ _ _ _ => by exact (pg_name (i := 7) sc_law_nwhen_fits.nd rfl (by first | exact Or.inl rfl | exact Or.inr rfl))) (fun _ _ _ _ _ => pts_nil) (fun _ _ _ _ _ => by exact (pe_call G_law_nascending (hr.mono (by decide)) (by rfl) d_law_nascending.g d_law_nascending.F.kp d_law_nascending.b .nil pass0 (pa_cons (pv 7) (pa_cons (pv 1) pa_nil))))) pa_nil))))))) (pss_one (ps_ret pe_bl)) pss_nil)
      (pss_one (ps_if (pt_cmpR (o_neP K hr.units) (pv 2) (pe_op op_cat (pe_op op_cat (pe_lc (own := [("page", 6)]) (g := gName 6) (tt := tYes) rfl sc_law_nwhen_fits.nd (w_list K (pe_ix (x_list K) (pv 3) pe_int (fun _ _ => rfl))) (blkOk_by (own := [("page", 6)]) (N := N_law_nwhen_fits) (sc := defScope s_law_nwhen_fits) (by decide +kernel)) (fun _ _ _ _ _ => by exact (pg_name (i := 6) sc_law_nwhen_fits.nd rfl (by first | exact Or.inl rfl | exact Or.inr rfl))) (fun _ _ _ _ _ => pts_nil) (fun _ _ _ _ _ => by exact (pe_op o_addS pe_str (pv 6)))) (pe_lc (own := [("page", 6)]) (g := gName 6) (tt := tYes) rfl sc_law_nwhen_fits.nd (w_list K (pe_ix (x_list K) (pv 3) pe_int (fun _ _ => rfl))) (blkOk_by (own := [("page", 6)]) (N := N_law_nwhen_fits) (sc := defScope s_law_nwhen_fits) (by decide +kernel)) (fun _ _ _ _ _ => by exact (pg_name (i := 6) sc_law_nwhen_fits.nd rfl (by first | exact Or.inl rfl | exact Or.inr rfl))) (fun _ _ _ _ _ => pts_nil) (fun _ _ _ _ _ => by exact (pe_op o_addS pe_str (pv 6))))) (pe_lc (own := [("page", 6)]) (g := gName 6) (tt := tYes) rfl sc_law_nwhen_fits.nd (w_list K (pe_ix (x_list K) (pv 3) pe_int (fun _ _ => rfl))) (blkOk_by (own := [("page", 6)]) (N := N_law_nwhen_fits) (sc := defScope s_law_nwhen_fits) (by decide +kernel)) (fun _ _ _ _ _ => by exact (pg_name (i := 6) sc_law_nwhen_fits.nd rfl (by first | exact Or.inl rfl | exact Or.inr rfl))) (fun _ _ _ _ _ => pts_nil) (fun _ _ _ _ _ => by exact (pe_op o_addS pe_str (pv 6))))) (nomark _)) (pss_one (ps_ret pe_bl)) pss_nil))))))
      (pss_one (ps_ret
            pe_bl))), ?_⟩
    walk_at "v"
    refine ⟨show 0 ≤ sizeLine by decide, fun e0 he0 => ?_⟩
    have s0 : Same H (upd H e0 (.lst [])) := (Same.refl H).new he0
    have hee : upd H e0 (.lst []) e0 = some (.lst (([] : List Str).map V.str)) := upd_same
    generalize upd H e0 (.lst []) = H1 at s0 hee
    refine i_neP (dt_strs (s0 _ _ hW)) (dt_strs hee) (.inl (by show PyData.depth (.list (ws.map .str)) ≤ 60; simp [PyData.depth, depth_strs])) ?_
    rw [show PyData.eqv (.list (ws.map .str)) (.list (([] : List Str).map .str)) = decide (ws = []) from eqv_strs _ _]
    refine ⟨_, rfl, ?_⟩
    refine ifn (fun ne => ?_) (fun em => ?_)
    · walk_at "v"
      refine ⟨W, ws, sSL, rfl, s0 _ _ hW, by omega, fun q H2 nq s2 => ?_⟩
      have s02 := s0.trans s2
      obtain ⟨xp, hq, dq, _⟩ := list_at (nq [] trk_nil)
      have lxp : xp.length = (partW sSL ws).length := by rw [dq.length]; simp
      refine w_lst hq ?_
      have ew : whenP pg ws = triPs pg (partW sSL ws) := by unfold whenP; rw [if_neg ne]
      refine for_by (walk_list (xs := xp)) ⟨fun i σ H' => (∃ v2 v3 v4 v5 v6 v7 : Option V, σ = [some (.ref W), some (.ref N), v2, v3, v4, v5, v6, v7]) ∧ Same H2 H' ∧ ∀ p ∈ (partW sSL ws).take i, triP pg p ≠ none, ⟨⟨_, _, _, _, _, _, rfl⟩, Same.refl _, by simp⟩, fun i σ H' _ ⟨_, s, _⟩ => SqL.of (s _ _ hq), ?_, ?_⟩
      · rintro i x σ H3 H4 hi ⟨⟨v2, v3, v4, v5, v6, v7, rfl⟩, s3, okp⟩ ⟨rfl, hx⟩
        obtain ⟨dp, gp, zp⟩ := dq.get' hx
        rw [List.getElem?_map] at gp
        obtain ⟨p, hp, rfl⟩ := Option.map_eq_some_iff.mp gp
        have mp := List.mem_of_getElem? hp
        have et : (partW sSL ws).take (i + 1) = (partW sSL ws).take i ++ [p] := by rw [List.take_succ, hp]; rfl
        have s23 := s02.trans s3
        have lp : p.length ≤ 64 := Nat.le_trans (partW_all sSL ws p mp) few
        have shp : ∀ x ∈ p, x.length ≤ 10000 := fun x hx => short x (partW_mem sSL ws p mp x hx)
        obtain ⟨pa, rfl, hpa, _⟩ := lst_at (zp.same s3)
        have no : triP pg p = none → whenP pg ws = none := fun h => by rw [ew]; exact triPs_no mp h
        have yes : triP pg p ≠ none → ∀ q ∈ (partW sSL ws).take (i + 1), triP pg q ≠ none := fun h q hq => by
          rw [et] at hq
          rcases List.mem_append.mp
                hq with hq | hq
          · exact okp q hq
          · simp at hq; subst hq; exact h
        walk_at "v"
        refine ⟨show 1 ≤ sizeLine by decide, fun g1 hg1 => ?_⟩
        have s5 : Same H4 (upd H4 g1 (.lst [.str sMI])) := (Same.refl _).new hg1
        have h5 : upd H4 g1 (.lst [.str sMI]) g1 = some (.lst (([sMI] : List Str).map V.str)) := upd_same
        generalize upd H4 g1 (.lst [.str sMI]) = H5 at s5 h5
        refine i_eqP (dt_strs (s5 _ _ hpa)) (dt_strs h5) (.inl (by show PyData.depth (.list (p.map .str)) ≤ 60; simp [PyData.depth, depth_strs])) ?_
        rw [show PyData.eqv (.list (p.map .str)) (.list (([sMI] : List Str).map .str)) = decide (p = [sMI]) from eqv_strs _ _]
        have s35 := s3.trans s5
        refine ⟨_, rfl, ?_⟩
        refine ifd (fun e => ?_) (fun e => ?_)
        · refine ⟨⟨_, _, _, _, _, _, rfl⟩, s35, yes ?_⟩
          unfold triP; rw [if_pos e]; simp
        walk_at "v"
        have hpa5 := s5 _ _ hpa
        have sgl : ("=+!" : Str).cps = #[cEQ, cPL, cEX] := by decide +kernel
        refine w_str ?_
        refine lc_by (walk_str (z := ("=+!" : Str))) fun D hD => ⟨fun i H' => Acc [] H5 H' D (([cEQ, cPL, cEX].take i).map fun c => lstS (lotsOf c p)), Acc.start (Keep.refl _ _) hD, fun _ _ _ _ => trivial, ?_, ?_⟩
        · rintro m x H6 H7 hm ac ⟨rfl, c, hc, rfl⟩
          rw [sgl] at hc
          have hc' : [cEQ, cPL, cEX][m]? = some c := by simpa using hc
          have sm2 := ac.kp.same
          have hpa7 := sm2 _ _ hpa5
          walk_at "v"
          refine w_lst hpa7 ?_
          refine lc_by (walk_list (xs := p.map V.str)) fun D2 hD2 => ⟨fun j H' => H' D2 = some (.lst ((lotsOf c (p.take j)).map V.str)) ∧ Same H7 H', ⟨upd_same, (Same.refl _).new hD2⟩, fun j H' _ ⟨_, s⟩ => SqL.of (s _ _ hpa7), ?_, ?_⟩
          · rintro j y H8 H9 hj ⟨hd4, s4⟩ ⟨rfl, hy⟩
            rw [List.getElem?_map] at hy
            obtain ⟨y, hyj, rfl⟩ := Option.map_eq_some_iff.mp hy
            have my := List.mem_of_getElem? hyj
            have ly : y.length ≤ sizeLine := Nat.le_trans (shp y my) (by decide)
            have ep : p.take (j + 1) = p.take j ++ [y] := by rw [List.take_succ, hyj]; rfl
            walk_at "v"
            refine ⟨y, rfl, ly, ?_⟩
            walk_at "v"
            have eb : decide (V.str (cutS y none (some 1)) = V.str ⟨#[c]⟩) = decide (hd0 y = some c) := by
              rw [dec_strE]
              exact decide_eq_decide.mpr (cut_hd1 y c)
            rw [eb]
            refine ifd (fun h => ?_) (fun h => ?_)
            · walk_at "v"
              refine ⟨y, rfl, ly, ?_⟩
              refine ⟨_, hd4, by rw [List.length_map]; exact small1000 (Nat.le_trans (lots_len _ _) (by rw [List.length_take]; omega)), ?_, s4.put hD2⟩
              rw [cut_tl1, ep, lots_app, List.map_append]
              have : lotsOf c [y] = [tl1 y] := by simp [lotsOf, h]
              rw [this]
              exact upd_same
            · refine ⟨?_, s4⟩
              rw [ep, lots_app]
              have : lotsOf c [y] = [] := by simp [lotsOf, h]
              rw [this, List.append_nil]
              exact hd4
          · rintro H8 ⟨hd4, s4⟩
            rw [List.length_map, List.take_length] at hd4
            obtain ⟨acc, ea, la, _⟩ := id ac.ex
            have nv : New H7 H8 (lstS (lotsOf c p)) (.ref D2) := fun S tS => dt_list hd4 (DtAll.strs _) (tS.nm hD2)
            obtain ⟨e5, ac5⟩ := ac.step trk_nil ea nv.toM (Keep.of_same s4)
            refine ⟨acc, e5, ?_, ?_⟩
            · rw [la, List.length_map, List.length_take]; exact small1000 (by simp; omega)
            · show Acc [] H5 _ D (([cEQ, cPL, cEX].take (m + 1)).map fun c => lstS (lotsOf c p))
              rw [List.take_succ, hc', List.map_append]; exact ac5
        rintro H6 ac
        rw [show ("=+!" : Str).cps.size = 3 by rw [sgl]; rfl] at ac
        have s56 := ac.kp.same
        obtain ⟨acc, ea, la, dacc⟩ := ac.ex
        have dl : DtAll [] H6 [lstS (lotsOf cEQ p), lstS (lotsOf cPL p), lstS (lotsOf cEX p)] acc := DtAll.mono (by simp) _ _ (dacc [] trk_nil (by simp))
        obtain ⟨x1, y1, rfl, z1, dl⟩ := DtAll.cons_iff.mp dl
        obtain ⟨x2, y2, rfl, z2, dl⟩ := DtAll.cons_iff.mp dl
        obtain ⟨x3, y3, rfl, z3, dl⟩ := DtAll.cons_iff.mp dl
        obtain rfl := DtAll.nil_iff.mp dl
        obtain ⟨a1, rfl, ha1, _⟩ := lst_at z1
        obtain ⟨a2, rfl, ha2, _⟩ := lst_at z2
        obtain ⟨a3, rfl, ha3, _⟩ := lst_at z3
        have iff := triP_iff po e
        have s36 := s35.trans s56
        have lsz : ∀ c, (lotsOf c p).length ≤ 64 := fun c => Nat.le_trans (lots_len c p) lp
        walk_at "v"
        refine ⟨show 0 ≤ sizeLine by decide, fun g2 hg2 => ?_⟩
        have s7 : Same H6 (upd H6 g2 (.lst [])) := (Same.refl _).new hg2
        have h7 : upd H6 g2 (.lst []) g2 = some (.lst (([] : List Str).map V.str)) := upd_same
        generalize upd H6 g2 (.lst []) = H7 at s7 h7
        refine i_eqP (dt_strs (s7 _ _ (s56 _ _ hpa5))) (dt_strs h7) (.inr (by decide)) ?_
        rw [show PyData.eqv (.list (p.map .str)) (.list (([] : List Str).map .str)) = decide (p = []) from eqv_strs _ _]
        have s37 := s36.trans s7
        refine ⟨_, rfl, ?_⟩
        refine ifd (fun c1 => ?_) (fun c1 => ?_)
        · refine iteT ?_
          walk_at "v"
          refine k0 (no ?_) _ (s02.trans s37)
          cases h : triP pg p with
          | none => rfl
          | some t => exact absurd c1 (iff.mp (by rw [h]; simp)).1
        walk_at "v"
        have ea7 := s7 _ _ ea
        refine w_lst ea7 ?_
        refine lc_by (walk_list (xs := [V.ref a1, V.ref a2, V.ref a3])) fun D3 hD3 => ⟨fun i H' => H' D3 = some (.lst ((([cEQ, cPL, cEX].take i).map fun c => ascB (lotsOf c p) pg).map V.bl)) ∧ Same H7 H', ⟨upd_same, (Same.refl _).new hD3⟩, fun i H' _ ⟨_, s⟩ => SqL.of (s _ _ ea7), ?_, ?_⟩
        · rintro m y H8 H9 hm ⟨hd4, s4⟩ ⟨rfl, hy⟩
          obtain ⟨am, c, rfl, hc, ham⟩ : ∃ am c, y = .ref am ∧ [cEQ, cPL, cEX][m]? = some c ∧ H6 am = some (.lst ((lotsOf c p).map V.str)) := by
            match m, hm with
            | 0, _ => cases hy; exact ⟨a1, cEQ, rfl, rfl, ha1⟩
            | 1, _ => cases hy; exact ⟨a2, cPL, rfl, rfl, ha2⟩
            | 2, _ => cases hy; exact ⟨a3, cEX, rfl, rfl, ha3⟩
          have hm3 : m < 3 := hm
          walk_at "v"
          refine ⟨am, N, _, pg, rfl, s4 _ _ (s7 _ _ ham), (s23.trans (s5.trans (s56.trans (s7.trans s4)))) _ _ hN, by have := lsz c; omega, fun H10 s10 => ?_⟩
          refine ⟨_, s10 _ _ hd4, by simp only [List.length_map, List.length_take]; exact small1000 (by omega), ?_, (s4.trans s10).put hD3⟩
          rw [List.take_succ, hc]
          simp only [Option.toList_some, List.map_append]
          exact upd_same
        rintro H8 ⟨hd8, s8⟩
        have s38 := s37.trans s8
        walk_at "v"
        refine ⟨D3, _, rfl, SqL.of hd8, ?_⟩
        have e3 : (([cEQ, cPL, cEX].take 3).map fun c => ascB (lotsOf c p) pg).all id = (ascB (lotsOf cEQ p) pg && (ascB (lotsOf cPL p) pg && ascB (lotsOf cEX p) pg)) := by simp
        rw [show [V.ref a1, V.ref a2, V.ref a3].length = 3 from rfl, e3]
        refine ⟨_, rfl, ?_⟩
        cases ha : (ascB (lotsOf cEQ p) pg && (ascB (lotsOf cPL p) pg && ascB (lotsOf cEX p) pg)) with
        | false =>
          refine iteT ?_
          walk_at "v"
          refine k0 (no ?_) _ (s02.trans s38)
          cases h : triP pg p with
          | none => rfl
          | some t =>
            obtain ⟨_, ⟨b1, b2, b3⟩, _⟩ := iff.mp (by rw [h]; simp)
            rw [b1, b2, b3] at ha; cases ha
        | true =>
          refine iteF ?_
          rw [Bool.and_eq_true, Bool.and_eq_true] at ha
          have ea8 := s8 _ _ ea7
          walk_at "v"
          have hl1 : H8 a1 = some (.lst ((lotsOf cEQ p).map V.str)) := s8 _ _ (s7 _ _ ha1)
          refine w_lst hl1 ?_
          refine lc_by (walk_list (xs := (lotsOf cEQ p).map V.str)) fun E1 hE1 => ⟨fun i H' => H' E1 = some (.lst ((withS cEQ ((lotsOf cEQ p).take i)).map V.str)) ∧ Same H8 H', ⟨upd_same, (Same.refl _).new hE1⟩, fun i H' _ ⟨_, s⟩ => SqL.of (s _ _ hl1), ?_, ?_⟩
          · rintro m y Ha Hb hm ⟨hd4, s4⟩ ⟨rfl, hy⟩
            rw [List.getElem?_map] at hy
            obtain ⟨y, hyj, rfl⟩ := Option.map_eq_some_iff.mp hy
            have ly := lots_short (c := cEQ) shp y (List.mem_of_getElem? hyj)
            walk_at "v"
            refine i_adds (small_sz (show (ch cEQ).length + y.length ≤ _ by have : (ch cEQ).length = 1 := rfl; omega)) ?_
            refine ⟨_, hd4, by simp only [List.length_map, withS, List.length_take]; exact small1000 (by have := lsz cEQ; omega), ?_, s4.put hE1⟩
            rw [show ("=" : Str) = ch cEQ by decide +kernel, List.take_succ, hyj]
            simpa [withS] using upd_same
          rintro F1 ⟨hE1', sE1⟩
          rw [List.length_map, List.take_length] at hE1'
          walk_at "v"
          refine i_ixL (sE1 _ _ ea8) (atI_nat (j := 1) rfl) ?_
          walk_at "v"
          have hl2 : F1 a2 = some (.lst ((lotsOf cPL p).map V.str)) := sE1 _ _ (s8 _ _ (s7 _ _ ha2))
          refine w_lst hl2 ?_
          refine lc_by (walk_list (xs := (lotsOf cPL p).map V.str)) fun E2 hE2 => ⟨fun i H' => H' E2 = some (.lst ((withS cPL ((lotsOf cPL p).take i)).map V.str)) ∧ Same F1 H', ⟨upd_same, (Same.refl _).new hE2⟩, fun i H' _ ⟨_, s⟩ => SqL.of (s _ _ hl2), ?_, ?_⟩
          · rintro m y Ha Hb hm ⟨hd4, s4⟩ ⟨rfl, hy⟩
            rw [List.getElem?_map] at hy
            obtain ⟨y, hyj, rfl⟩ := Option.map_eq_some_iff.mp hy
            have ly := lots_short (c := cPL) shp y (List.mem_of_getElem? hyj)
            walk_at "v"
            refine i_adds (small_sz (show (ch cPL).length + y.length ≤ _ by have : (ch cPL).length = 1 := rfl; omega)) ?_
            refine ⟨_, hd4, by simp only [List.length_map, withS, List.length_take]; exact small1000 (by have := lsz cPL; omega), ?_, s4.put hE2⟩
            rw [show ("+" : Str) = ch cPL by decide +kernel, List.take_succ, hyj]
            simpa [withS] using upd_same
          rintro F2 ⟨hE2', sE2⟩
          rw [List.length_map, List.take_length] at hE2'
          have wl : ∀ c, (withS c (lotsOf c p)).length ≤ 64 := fun c => by simp only [withS, List.length_map]; exact lsz c
          refine i_catN (sE2 _ _ hE1') hE2' (by rw [List.length_map, List.length_map]; have := wl cEQ; have := wl cPL; omega) (fun q9 H9 n9 s9 h9 => ?_)
          walk_at "v"
          refine i_ixL (s9 _ _ (sE2 _ _ (sE1 _ _ ea8))) (atI_nat (j := 2) rfl) ?_
          walk_at "v"
          have hl3 : H9 a3 = some (.lst ((lotsOf cEX p).map V.str)) := s9 _ _ (sE2 _ _ (sE1 _ _ (s8 _ _ (s7 _ _ ha3))))
          refine w_lst hl3 ?_
          refine lc_by (walk_list (xs := (lotsOf cEX p).map V.str)) fun E3 hE3 => ⟨fun i H' => H' E3 = some (.lst ((withS cEX ((lotsOf cEX p).take i)).map V.str)) ∧ Same H9 H', ⟨upd_same, (Same.refl _).new hE3⟩, fun i H' _ ⟨_, s⟩ => SqL.of (s _ _ hl3), ?_, ?_⟩
          · rintro m y Ha Hb hm ⟨hd4, s4⟩ ⟨rfl, hy⟩
            rw [List.getElem?_map] at hy
            obtain ⟨y, hyj, rfl⟩ := Option.map_eq_some_iff.mp hy
            have ly := lots_short (c := cEX) shp y (List.mem_of_getElem? hyj)
            walk_at "v"
            refine i_adds (small_sz (show (ch cEX).length + y.length ≤ _ by have : (ch cEX).length = 1 := rfl; omega)) ?_
            refine ⟨_, hd4, by simp only [List.length_map, withS, List.length_take]; exact small1000 (by have := lsz cEX; omega), ?_, s4.put hE3⟩
            rw [show ("!" : Str) = ch cEX by decide +kernel, List.take_succ, hyj]
            simpa [withS] using upd_same
          rintro F3 ⟨hE3', sE3⟩
          rw [List.length_map, List.take_length] at hE3'
          refine i_catN (sE3 _ _ h9) hE3' (by rw [List.length_append, List.length_map, List.length_map, List.length_map]; have := wl cEQ; have := wl cPL; have := wl cEX; omega) (fun q10 H10 n10 s10 h10 => ?_)
          have s810 : Same H8 H10 := sE1.trans (sE2.trans (s9.trans (sE3.trans s10)))
          have h10' : H10 q10 = some (.lst ((triL (triOf p)).map V.str)) := by
            rw [h10, ← List.map_append, ← List.map_append, List.append_assoc]; rfl
          refine i_neP (dt_strs (s810 _ _ (s8 _ _ (s7 _ _ (s56 _ _ hpa5))))) (dt_strs h10') (.inl (by show PyData.depth (.list (p.map .str)) ≤ 60; simp [PyData.depth, depth_strs])) ?_
          rw [show PyData.eqv (.list (p.map .str)) (.list ((triL (triOf p)).map .str)) = decide (p = triL (triOf p)) from eqv_strs _ _]
          have s310 := s38.trans s810
          refine ⟨_, rfl, ?_⟩
          refine ifn (fun c3 => ?_) (fun c3 => ?_)
          · walk_at "v"
            refine k0 (no ?_) _ (s02.trans s310)
            cases h : triP pg p with
            | none => rfl
            | some t => exact absurd (iff.mp (by rw [h]; simp)).2.2 c3
          · exact ⟨⟨_, _, _, _, _, _, rfl⟩, s310, yes (iff.mpr ⟨c1, ⟨ha.1, ha.2.1, ha.2.2⟩, c3⟩)⟩
      · rintro σ H3 ⟨⟨v2, v3, v4, v5, v6, v7, rfl⟩, s3, okp⟩
        rw [lxp, List.take_length] at okp
        walk_at "v"
        refine k1 ?_ _ (s02.trans s3)
        rw [ew]
        intro h
        obtain ⟨p, hp, e⟩ := triPs_none h
        exact okp p hp e
    · walk_at "v"
      refine ⟨show 0 ≤ sizeLine by decide, fun e1 he1 => ?_⟩
      have s1 : Same H (upd H1 e1 (.lst [])) := s0.new he1
      have h1 : upd H1 e1 (.lst []) e1 = some (.lst []) := upd_same
      generalize upd H1 e1 (.lst []) = H2 at s1 h1
      refine w_lst h1 ?_
      refine for_by (walk_list (xs := [])) ⟨fun i σ H' => σ = L2.start N_law_nwhen_fits [V.ref W, V.ref N] ∧ H' = H2, ⟨rfl, rfl⟩, fun i σ H' _ ⟨_, e⟩ => by rw [e]; exact SqL.of h1, fun i x σ H3 H4 hi => by simp at hi, ?_⟩
      rintro σ H3 ⟨rfl, rfl⟩
      walk_at "v"
      exact k1 (by unfold whenP; rw [if_pos em]; simp) _ s1
end Lr
set_option Elab.async false
set_option linter.all false
set_option maxRecDepth 100000
set_option maxHeartbeats 4000000
namespace Lr
open PySem PySem.Spec PyProof.Rows L2 TL
local macro_rules | `(tactic| walk_at "ne") => `(tactic| (first | assumption | (refine ne_sym ?_; assumption) | (exact ne_of_none (by assumption) (by assumption)) | (exact ne_sym (ne_of_none (by assumption) (by assumption)))))
local macro_rules | `(tactic| walk_at "h") => `(tactic| (first | assumption | exact upd_same | (refine h_new ?_ (by assumption); walk_at "h") | (refine h_ne (by walk_at "ne") ?_; walk_at "h")))
local macro_rules | `(tactic| walk_at "v1") => `(tactic| (with_reducible first
  | refine i_seq ?_ | refine i_asg ?_ | refine i_ret ?_ | refine i_next ?_ | refine i_drop ?_ | refine i_ifS ?_ | refine i_if ?_ | refine i_and ?_ | refine i_or ?_ | refine i_not ?_ | refine i_test ?_ | refine i_tB ?_ | refine i_bl ?_ | refine i_yes ?_
  | refine i_op ?_ | refine i_un ?_ | refine i_chain ?_ | refine i_andV ?_ | refine i_orV ?_ | refine i_notV ?_ | refine i_cb ?_ | refine i_cons ?_ | refine i_nil ?_ | refine i_bm ?_ | refine i_bm0 ?_ | refine i_c ?_ | refine i_name ?_ | refine i_sub ?_
  | refine i_call ?_ | refine i_lst ?_ | refine i_tup ?_ | refine i_par ?_ | refine i_par2 ?_ | refine i_sl ?_ | refine i_np ?_ | refine i_pt ?_ | refine i_int ?_ | refine i_m0 ?_ | refine i_m1 ?_ | refine i_isS ?_
  | refine i_rI0 ?_ | refine i_inSign ?_ | refine i_notInSign ?_ | refine i_int1 ?_ | refine i_tru ?_ | refine i_isN ?_ | refine i_notN ?_ | refine iteT ?_ | refine iteF ?_ | refine i_brk ?_ | refine i_rt ?_ | refine i_nx ?_ | refine i_bk ?_ | refine i_ct ?_ | refine i_for ?_ | refine i_lc ?_ | refine i_dc ?_ | refine i_iL ?_ | refine i_iT ?_ | refine i_iR1 ?_ | refine i_iR2 ?_ | refine i_iS ?_ | refine i_iE ?_ | refine i_iEK ?_ | refine i_iEQ ?_ | refine i_iZS ?_ | refine i_dget ?_ | refine i_fld ?_ | refine i_sfld ?_ | refine i_dput ?_ | refine i_meth ?_ | refine i_rU ?_ | refine i_cont ?_ | refine i_make ?_))
local macro_rules | `(tactic| walk_at "v2") => `(tactic| (first
  | ((with_reducible refine' i_var ?k1 ?_); (case k1 => exact rfl))
  | ((with_reducible refine' i_eq ?k1 ?_); (case k1 => exact rfl))
  | ((with_reducible refine' i_ne ?k1 ?_); (case k1 => exact rfl))
  | ((with_reducible refine' i_ixL ?k1 ?k2 ?_); (case k1 => walk_at "h"); (case k2 => exact rfl))
  | ((with_reducible refine' i_ixT ?k1 ?k2 ?_); (case k1 => walk_at "h"); (case k2 => exact rfl))
  | ((with_reducible refine' i_lenL ?k1 ?_); (case k1 => walk_at "h"))
  | ((with_reducible refine' i_lenT ?k1 ?_); (case k1 => walk_at "h"))
  | (refine i_wipe (show wipe _ _ = wipe _ _ from rfl) ?_)
  | ((with_reducible refine' i_setL ?k1 ?k2 ?_); (case k1 => walk_at "h"); (case k2 => exact rfl))
  | ((with_reducible refine' i_tyl ?k1 ?_); (case k1 => walk_at "h"))))
local macro_rules | `(tactic| walk_at "v") => `(tactic| repeat (first | walk_at "v1" | walk_at "v2"))

variable {P : Program} {w : World} {K :
      PySem.W.Frag} {mg : Str → Option Value} {base : Heap}
abbrev s_law_nstep_fits : Stmt := top 53
abbrev N_law_nstep_fits : List Str := ["line", "pages", "words", "at", "head", "tail", "parts", "more"]
abbrev P_law_nstep_fits : List Str := ["line", "pages"]
theorem sc_law_nstep_fits : FnScope N_law_nstep_fits P_law_nstep_fits (defScope s_law_nstep_fits) := ⟨rfl, rfl, rfl, by decide +kernel, rfl, by decide +kernel, by decide +kernel⟩
abbrev FdWhenFits (K : PySem.W.Frag) (mg : Str → Option Value) := Fd K mg "_law_nwhen_fits" s_law_nwhen_fits P_law_nwhen_fits
theorem kdP_do1 {pg rest : List Str} (h : (partW sGT rest).length ≠ 2) : kdP pg (("do" : Str) :: rest) = none := by
  rw [kdP_cons, if_pos rfl]
  split
  · rename_i e; rw [e] at h; simp at h
  · rfl
theorem kdP_do2 {pg rest r m : List Str} (e : partW sGT rest = [r, m]) (h : (partW sCO m).length ≠ 2) : kdP pg (("do" : Str) :: rest) = none := by
  rw [kdP_cons, if_pos rfl, e]
  simp only
  split
  · rename_i e2; rw [e2] at h; simp at h
  · rfl
theorem kdP_do3 {pg rest r m w v : List Str} (e : partW sGT rest = [r, m]) (e2 : partW sCO m = [w, v]) (h : ¬ (Kd.do_ r w v).Ok pg) : kdP pg (("do" : Str) :: rest) = none := by
  rw [kdP_cons, if_pos rfl, e]
  simp only
  rw [e2]
  simp only
  rw [if_neg h]
theorem kdP_do4 {pg rest r m w v : List Str} (e : partW sGT rest = [r, m]) (e2 : partW sCO m = [w, v]) (h : (Kd.do_ r w v).Ok pg) : kdP pg (("do" : Str) :: rest) ≠ none := by
  rw [kdP_cons, if_pos rfl, e]
  simp only
  rw [e2]
  simp only
  rw [if_pos h]
  simp
theorem one_eqv (x : Str) (l : List Str) : PyData.eqv (.list (([x] : List Str).map .str)) (.list (l.map .str)) = decide (l = [x]) := by
  rw [eqv_strs]
  exact decide_eq_decide.mpr ⟨fun h => h.symm, fun h => h.symm⟩
def aloneA (l : List Str) : Bool := [PyData.list (([("force" : Str)] : List Str).map .str), .list (([("mark" : Str)] : List Str).map .str), .list (([("cut" : Str)] : List Str).map .str)].any fun y => PyData.eqv y (.list (l.map .str))
theorem aloneA_iff (w0 : Str) (rest pg : List Str) : aloneA (w0 :: rest) = true ↔ rest = [] ∧ (Kd.alone w0).Ok pg := by
  unfold aloneA
  simp only [List.any_cons, List.any_nil, one_eqv, Bool.or_false, Bool.or_eq_true, decide_eq_true_eq, List.cons.injEq]
  constructor
  · rintro (⟨h, r⟩ | ⟨h, r⟩ | ⟨h, r⟩)
    · exact ⟨r, .inl h⟩
    · exact ⟨r, .inr (.inl h)⟩
    · exact ⟨r, .inr (.inr h)⟩
  · rintro ⟨r, h | h | h⟩
    · exact .inl ⟨h, r⟩
    · exact .inr (.inl ⟨h, r⟩)
    · exact .inr (.inr ⟨h, r⟩)
theorem depth_strl (l : List Str) : (PyData.list (l.map .str)).depth ≤ 60 := Nat.le_trans (depth_lst_le (n := 0) (fun x hx => by obtain ⟨y, _, rfl⟩ := List.mem_map.mp hx; exact Nat.zero_le _)) (by decide)
def spStepFits : Sp := fun vs H Q _ => ∃ (z : Str) (N : Addr) (pg : List Str), vs = [.str z, .ref N] ∧ z.length ≤ 10000 ∧ (words z).length ≤ 64 ∧ H N = some (.lst (pg.map V.str)) ∧ PgOk pg ∧
  (stepP pg (words z) = none → ∀ H', Same H H' → Q (.bl false) H') ∧ (stepP pg (words z) ≠ none → ∀ H', Same H H' → Q (.bl true) H')
theorem ok_stepfits (d : Fd K mg "_law_nstep_fits" s_law_nstep_fits P_law_nstep_fits) (d_law_nwhen_fits : FdWhenFits K mg) (d_law_nsplit : FdNSplit K mg) (d_law_nascending : FdAsc K mg) (B : Blt2 K mg) : FnOk P w K mg base CX0 3 d.f d.fd P_law_nstep_fits spStepFits := by
  have G_law_nsplit : FnOk P w K mg base CX0 1 d_law_nsplit.f d_law_nsplit.fd P_law_nsplit spParted := ok_nsplit d_law_nsplit B.toBlt
  have G_law_nascending : FnOk P w K mg base CX0 1 d_law_nascending.f d_law_nascending.fd P_law_nascending spAsc := ok_asc d_law_nascending B
  have G_law_nwhen_fits : FnOk P w K mg base CX0 2 d_law_nwhen_fits.f d_law_nwhen_fits.fd P_law_nwhen_fits spWhenFits := ok_whenfits d_law_nwhen_fits d_law_nsplit d_law_nascending B
  refine d.F.ok sc_law_nstep_fits (fun vs H Q E h => ?_) (fun cdv A outer s H vs Q E hr h => ?_)
  · obtain ⟨z, N, pg, rfl, _⟩ := h
    rfl
  · obtain ⟨z, N, pg, rfl, lz, lw, hN, po, k0, k1⟩ := h
    refine ⟨_, (pss_cons (ps_set (i := 2) sc_law_nstep_fits.nd rfl (by first | exact Or.inl rfl | exact Or.inr rfl) (pe_m1 PySem.F.slot_str_split PySem.F.type_str_split m_split (pv 0) pe_str))
      (pss_cons (ps_if (pt_cmpR (o_notIn K) pe_str (pv 2) (by rfl)) (pss_one (ps_ret pe_bl)) pss_nil)
      (pss_cons (ps_set (i := 3) sc_law_nstep_fits.nd rfl (by first | exact Or.inl rfl | exact Or.inr rfl) (e_bm K PySem.F.plainAttrs_list PySem.F.slot_list_index PySem.F.type_list_index mt_index (pv 2) (pa_cons pe_str pa_nil)))
      (pss_cons (ps_par (i := 4) (j := 5) (by rfl) sc_law_nstep_fits.nd rfl rfl (by decide) rfl rfl (pa_cons (pe_slice (s_list K) (pv 2) po_none (po_some (pv 3))) (pa_cons (pe_slice (s_list K) (pv 2) (po_some (pe_op op_add (pv 3) pe_int)) po_none) pa_nil)) (by rfl))
      (pss_cons (ps_if (PW.pt (pw_or (pt_cmpR (o_eqP K hr.units) (pv 4) (pe_lst pa_nil) (nomark _)) (pw_or1 (pt_not (pt_val (pe_call G_law_nwhen_fits (hr.mono (by decide)) (by rfl) d_law_nwhen_fits.g d_law_nwhen_fits.F.kp d_law_nwhen_fits.b .nil pass0 (pa_cons (pv 5) (pa_cons (pv 1) pa_nil)))))))) (pss_one (ps_ret pe_bl)) pss_nil)
      (pss_cons (ps_if (pt_cmpR op_eq (pe_ix (x_list K) (pv 4) pe_int (fun _ _ => rfl)) pe_str (nomark _)) (pss_cons (ps_set (i := 6) sc_law_nstep_fits.nd rfl (by first | exact Or.inl rfl | exact Or.inr rfl) (pe_call G_law_nsplit (hr.mono (by decide)) (by rfl) d_law_nsplit.g d_law_nsplit.F.kp d_law_nsplit.b .nil pass0 (pa_cons (pe_slice (s_list K) (pv 4) (po_some pe_int) po_none) (pa_cons pe_str pa_nil))))
      (pss_cons (ps_set (i := 7) sc_law_nstep_fits.nd rfl (by first | exact Or.inl rfl | exact Or.inr rfl) (pe_call G_law_nsplit (hr.mono (by decide)) (by rfl) d_law_nsplit.g d_law_nsplit.F.kp d_law_nsplit.b .nil pass0 (pa_cons (pe_ix (x_list K) (pv 6) (pe_un un_neg pe_int) (fun _ _ => rfl)) (pa_cons pe_str pa_nil))))
      (pss_cons (ps_if (PW.pt (pw_or (pt_cmpR op_ne (pe_callB (c_len K) (by rfl) B.len (by decide +kernel) (pa_cons (pv 6) pa_nil)) pe_int (nomark _)) (pw_or (pt_cmpR op_ne (pe_callB (c_len K) (by rfl) B.len (by decide +kernel) (pa_cons (pv 7) pa_nil)) pe_int (nomark _)) (pw_or (pt_cmpR (o_eqP K hr.units) (pe_ix (x_list K) (pv 7) pe_int (fun _ _ => rfl)) (pe_lst pa_nil) (nomark _)) (pw_or1 (pt_cmpR (o_in K) pe_str (pe_ix (x_list K) (pv 6) pe_int (fun _ _ => rfl)) (by rfl))))))) (pss_one (ps_ret pe_bl)) pss_nil)
      (pss_one (ps_ret (pe_and (pe_call G_law_nascending (hr.mono (by decide)) (by rfl) d_law_nascending.g d_law_nascending.F.kp d_law_nascending.b .nil pass0 (pa_cons (pe_ix (x_list K) (pv 6) pe_int (fun _ _ => rfl)) (pa_cons (pv 1) pa_nil))) (pe_and (pe_call G_law_nascending (hr.mono (by decide)) (by rfl) d_law_nascending.g d_law_nascending.F.kp d_law_nascending.b .nil pass0 (pa_cons (pe_ix (x_list K) (pv 7) pe_int (fun _ _ => rfl)) (pa_cons (pv 1) pa_nil))) (pe_one (pe_call G_law_nascending (hr.mono (by decide)) (by rfl) d_law_nascending.g d_law_nascending.F.kp d_law_nascending.b .nil pass0 (pa_cons (pe_ix (x_list K) (pv 7) pe_int (fun _ _ => rfl)) (pa_cons (pe_ix (x_list K) (pv 7) pe_int (fun _ _ => rfl)) pa_nil))))))))))) pss_nil)
      (pss_cons (ps_if (pt_cmpR op_eq (pe_ix (x_list K) (pv 4) pe_int (fun _ _ => rfl)) pe_str (nomark _)) (pss_one (ps_ret (pe_and (pe_cmpR op_gt (pe_callB (c_len K) (by rfl) B.len (by decide +kernel) (pa_cons (pv 4) pa_nil)) pe_int (nomark _)) (pe_one (pe_call G_law_nascending (hr.mono (by decide)) (by rfl) d_law_nascending.g d_law_nascending.F.kp d_law_nascending.b .nil pass0 (pa_cons (pe_slice (s_list K) (pv 4) (po_some pe_int) po_none) (pa_cons (pv 1) pa_nil))))))) pss_nil)
      (pss_one (ps_ret (pe_cmpR (o_inP K hr.units) (pv 4) (pe_tup (pa_cons (pe_lst (pa_cons pe_str pa_nil)) (pa_cons (pe_lst (pa_cons pe_str pa_nil)) (pa_cons (pe_lst (pa_cons pe_str pa_nil)) pa_nil)))) (by rfl))))))))))), ?_⟩
    walk_at "v"
    refine i_split (by decide +kernel) (Nat.le_trans (Nat.add_le_add_right lz 2) (by decide)) (fun W hW => ?_)
    have s1 : Same H (upd H W (.lst ((words z).map V.str))) := (Same.refl H).new hW
    have hW1 : upd H W (.lst ((words z).map V.str)) W = some (.lst ((words z).map V.str)) := upd_same
    rw [show Txt.split z (Str.ofString " ") = words z from rfl]
    generalize upd H W (.lst ((words z).map V.str)) = H1 at s1 hW1
    obtain ⟨ws, ews⟩ : ∃ ws, ws = words z := ⟨_, rfl⟩
    rw [← ews] at lw hW1 k0 k1
    have wsh : ∀ x ∈ ws, x.length ≤ 10000 := fun x hx => Nat.le_trans (len_sum_split tl_spc (by decide) x (by rw [ews] at hx; exact hx)) lz
    walk_at "v"
    refine ⟨W, ws.map V.str, rfl, .inl (SqL.of hW1), rfl, flat_strs _, ?_⟩
    rw [if_pos rfl, inV_strs]
    refine ⟨_, rfl, ?_⟩
    refine ifn (fun nq => ?_) (fun hq => ?_)
    · walk_at "v"
      exact k0 (by unfold stepP; rw [if_neg nq]) _ s1
    obtain ⟨j, ej, hj, fj, eh, et, lj⟩ := head_at hq
    have k0' : (match kdP pg (ws.take j), whenP pg (ws.drop (j + 1)) with | some k, some w => some (⟨k, w⟩ : Sd) | _, _ => none) = none → ∀ H', Same H H' → Q (.bl false) H' := fun e => k0 (by unfold stepP; rw [if_pos hq, eh, et]; exact e)
    have k1' : kdP pg (ws.take j) ≠ none → whenP pg (ws.drop (j + 1)) ≠ none → ∀ H', Same H H' → Q (.bl true) H' := fun e1 e2 => k1 (by
      unfold stepP; rw [if_pos hq, eh, et]
      cases h1 : kdP pg (ws.take j) with
      | none => exact absurd h1 e1
      | some k =>
        cases h2 : whenP pg (ws.drop (j + 1)) with
        | none => exact absurd h2 e2
        | some w => simp)
    clear k0 k1
    walk_at "v"
    refine ⟨W, ws.map V.str, .str sQ, j, .str sQ, rfl, rfl, SqL.of hW1, rfl, flat_strs _, by rw [List.getElem?_map, hj]; rfl, by decide, fun m z' hm hz' => ?_, ?_⟩
    · rw [List.getElem?_map] at hz'
      obtain ⟨y, hy, rfl⟩ := Option.map_eq_some_iff.mp hz'
      have := fj m y hm hy
      simp [eqV, this]
    walk_at "v"
    refine ⟨W, _, rfl, SqL.of hW1, fun p1 hp1 => ?_⟩
    rw [cut_to, ← List.map_take]
    have h2 : upd H1 p1 (.lst ((ws.take j).map V.str)) p1 = some (.lst ((ws.take j).map V.str)) := upd_same
    have s12 : Same H1 (upd H1 p1 (.lst ((ws.take j).map V.str))) := (Same.refl _).new hp1
    generalize upd H1 p1 (.lst ((ws.take j).map V.str)) = H2 at h2 s12
    walk_at "v"
    refine ⟨W, _, rfl, SqL.of (s12 _ _ hW1), fun p2 hp2 => ?_⟩
    have c1 : ((j : Int) + 1) = ((j + 1 : Nat) : Int) := by omega
    rw [c1, cut_from, ← List.map_drop]
    have h3 : upd H2 p2 (.lst ((ws.drop (j + 1)).map V.str)) p2 = some (.lst ((ws.drop (j + 1)).map V.str)) := upd_same
    have s23 : Same H2 (upd H2 p2 (.lst ((ws.drop (j + 1)).map V.str))) := (Same.refl _).new hp2
    generalize upd H2 p2 (.lst ((ws.drop (j + 1)).map V.str)) = H3 at h3 s23
    have h23 := s23 _ _ h2
    have s03 := (s1.trans s12).trans s23
    walk_at "v"
    refine ⟨show 0 ≤ sizeLine by decide, fun g1 hg1 => ?_⟩
    have s4 : Same H3 (upd H3 g1 (.lst [])) := (Same.refl _).new hg1
    have h4 : upd H3 g1 (.lst []) g1 = some (.lst (([] : List Str).map V.str)) := upd_same
    generalize upd H3 g1 (.lst []) = H4 at s4 h4
    have s04 := s03.trans s4
    refine i_eqP (dt_strs (s4 _ _ h23)) (dt_strs h4) (.inr (by decide)) ?_
    rw [show PyData.eqv (.list ((ws.take j).map .str)) (.list (([] : List Str).map .str)) = decide (ws.take j = []) from eqv_strs _ _]
    refine ⟨_, rfl, ?_⟩
    refine ifd (fun c1 => ?_) (fun c1 => ?_)
    · refine iteT ?_
      walk_at "v"
      exact k0' (by rw [c1]; rfl) _ s04
    walk_at "v"
    refine ⟨p2, N, ws.drop (j + 1), pg, rfl, s4 _ _ h3, by rw [List.length_drop]; omega, fun x hx => wsh x (List.mem_of_mem_drop hx), s04 _ _ hN, po, fun en H5 s5 => ?_, fun en H5 s5 => ?_⟩
    · walk_at "v"
      refine iteT ?_
      walk_at "v"
      refine k0' ?_ _ (s04.trans s5)
      rw [en]
      cases kdP pg (ws.take j) <;> rfl
    walk_at "v"
    refine iteF ?_
    have s05 := s04.trans s5
    have h5 : H5 p1 = some (.lst ((ws.take j).map V.str)) := s5 _ _ (s4 _ _ h23)
    have kN : kdP pg (ws.take j) = none → ∀ H', Same H H' → Q (.bl false) H' := fun e => k0' (by rw [e])
    have kY : kdP pg (ws.take j) ≠ none → ∀ H', Same H H' → Q (.bl true) H' := fun e => k1' e en
    have wth : ∀ x ∈ ws.take j, x.length ≤ 10000 := fun x hx => wsh x (List.mem_of_mem_take hx)
    have lth : (ws.take j).length ≤ 64 := by rw [List.length_take]; omega
    obtain ⟨w0, rest, ehd⟩ : ∃ w0 rest, ws.take j = w0 :: rest := by
      cases e : ws.take j with
      | nil => exact absurd e c1
      | cons x r =>
            exact ⟨x, r, rfl⟩
    rw [ehd] at h5 kN kY wth lth
    clear k0' k1' c1
    simp only [List.length_cons] at lth
    walk_at "v"
    refine i_ixL h5 (atI_nat (j := 0) rfl) ?_
    walk_at "v"
    rw [dec_strE]
    have sub : ∀ {H'}, Same H5 H' → H' N = some (.lst (pg.map V.str)) := fun s => s _ _ (s05 _ _ hN)
    refine ifd (fun ed => ?_) (fun ed => ?_)
    · subst ed
      walk_at "v"
      refine ⟨p1, _, rfl, SqL.of h5, fun p3 hp3 => ?_⟩
      rw [List.map_cons, cut_drop1']
      have s6 : Same H5 (upd H5 p3 (.lst (rest.map V.str))) := (Same.refl _).new hp3
      have h6 : upd H5 p3 (.lst (rest.map V.str)) p3 = some (.lst (rest.map V.str)) := upd_same
      generalize upd H5 p3 (.lst (rest.map V.str)) = H6 at s6 h6
      walk_at "v"
      refine ⟨p3, rest, sGT, rfl, h6, by omega, fun q1 H7 nq1 s7 => ?_⟩
      obtain ⟨xp, hq1, dq1, _⟩ := list_at (nq1 [] trk_nil)
      obtain ⟨ini, m, eps⟩ : ∃ ini m, partW sGT rest = ini ++ [m] := ⟨_, _, (List.dropLast_concat_getLast (partW_ne sGT rest)).symm⟩
      have dq := dq1
      rw [eps, List.map_append] at dq
      obtain ⟨xi, xl, rfl, di, dl⟩ := DtAll.app_inv dq
      obtain ⟨vm, yn, rfl, zm, dl⟩ := DtAll.cons_iff.mp dl
      obtain rfl := DtAll.nil_iff.mp dl
      obtain ⟨ma, rfl, hma, _⟩ := lst_at zm
      have lxi : xi.length = ini.length := by simpa using di.length
      have mm : m ∈ partW sGT rest := by rw [eps]; simp
      have lm := partW_all sGT rest m mm
      walk_at "v"
      refine i_ixL hq1 (atI_last _ _) ?_
      walk_at "v"
      refine ⟨ma, m, sCO, rfl, hma, by omega, fun q2 H8 nq2 s8 => ?_⟩
      obtain ⟨xm, hq2, dq2, _⟩ := list_at (nq2 [] trk_nil)
      have lxm : xm.length = (partW sCO m).length := by simpa using dq2.length
      have s58 := s6.trans (s7.trans s8)
      have s08 := s05.trans s58
      walk_at "v"
      refine i_lenL (s8 _ _ hq1) ?_
      walk_at "v"
      have e1 : ((xi ++ [V.ref ma]).length : Int) = ((partW sGT rest).length : Int) := by rw [eps]; simp [lxi]
      refine ifn (fun c2 => ?_) (fun c2 => ?_)
      · refine iteT ?_
        walk_at "v"
        exact kN (kdP_do1 (fun h => c2 (by rw [e1, h]; rfl))) _ s08
      walk_at "v"
      have l2 : (partW sGT rest).length = 2 := by rw [e1] at c2; injection c2 with c2; omega
      obtain ⟨r, rfl⟩ : ∃ r, ini = [r] := by
        rw [eps] at l2; simp at l2
        match ini, l2 with
        | [r], _ => exact ⟨r, rfl⟩
      have eps2 : partW sGT rest = [r, m] := eps
      obtain ⟨vr, yn, rfl, zr, dn⟩ := DtAll.cons_iff.mp di
      obtain rfl := DtAll.nil_iff.mp dn
      obtain ⟨ra, rfl, hra, _⟩ := lst_at zr
      refine ifn (fun c3 => ?_) (fun c3 => ?_)
      · refine iteT ?_
        walk_at "v"
        exact kN (kdP_do2 eps2 (fun h => c3 (by rw [lxm, h]; rfl))) _ s08
      have l3 : (partW sCO m).length = 2 := by rw [lxm] at c3; injection c3 with c3; omega
      obtain ⟨wl, vl, eml⟩ : ∃ wl vl, partW sCO m = [wl, vl] := by
        match h : partW sCO m, l3 with
        | [a, b], _ => exact ⟨a, b, rfl⟩
      rw [eml] at dq2
      obtain ⟨vw, yn, rfl, zw, dq2⟩ := DtAll.cons_iff.mp dq2
      obtain ⟨vv, yn, rfl, zv, dq2⟩ := DtAll.cons_iff.mp dq2
      obtain rfl := DtAll.nil_iff.mp dq2
      obtain ⟨wa, rfl, hwa, _⟩ := lst_at zw
      obtain ⟨va, rfl, hva, _⟩ := lst_at zv
      have lw' := partW_all sCO m wl (by rw [eml]; simp)
      have lv' := partW_all sCO m vl (by rw [eml]; simp)
      have lr' := partW_all sGT rest r (by rw [eps2]; simp)
      walk_at "v"
      refine ⟨show 0 ≤ sizeLine by decide, fun g2 hg2 => ?_⟩
      have s9 : Same H8 (upd H8 g2 (.lst [])) := (Same.refl _).new hg2
      have h9 : upd H8 g2 (.lst []) g2 = some (.lst (([] : List Str).map V.str)) := upd_same
      generalize upd H8 g2 (.lst []) = H9 at s9 h9
      have s09 := s08.trans s9
      refine i_eqP (dt_strs (s9 _ _ hwa)) (dt_strs h9) (.inr (by decide)) ?_
      rw [show PyData.eqv (.list (wl.map .str)) (.list (([] : List Str).map .str)) = decide (wl = []) from eqv_strs _ _]
      refine ⟨_, rfl, ?_⟩
      refine ifd (fun c4 => ?_) (fun c4 => ?_)
      · refine iteT ?_
        walk_at "v"
        exact kN (kdP_do3 eps2 eml (fun h => h.2.2.1 c4)) _ s09
      have hq19 := s9 _ _ (s8 _ _ hq1)
      have hq29 := s9 _ _ hq2
      have hra9 := s9 _ _ (s8 _ _ hra)
      have hwa9 := s9 _ _ hwa
      have hva9 := s9 _ _ hva
      have hN9 := s09 _ _ hN
      have anm : ∀ {l : List Str}, l.Sublist pg → sCO ∉ l := fun s => names_no (sub_name po s) hd_sCO (by decide +kernel)
      walk_at "v"
      refine ⟨ra, r.map V.str, rfl, .inl (SqL.of hra9), rfl, flat_strs _, ?_⟩
      rw [inV_strs]
      refine ⟨_, rfl, ?_⟩
      refine ifd (fun c5 => ?_) (fun c5 => ?_)
      · walk_at "v"
        exact kN (kdP_do3 eps2 eml (fun h => anm h.1 c5)) _ s09
      walk_at "v"
      refine ⟨ra, N, r, pg, rfl, hra9, hN9, by omega, fun H10 s10 => ?_⟩
      have s010 := s09.trans s10
      refine ⟨_, rfl, ?_⟩
      cases b1 : ascB r pg with
      | false =>
        refine iteF ?_
        exact kN (kdP_do3 eps2 eml (fun h => by have := (ascB_iff po.nm).mpr h.1; rw [b1] at this; cases this)) _ s010
      | true =>
      refine iteT ?_
      have r1 := (ascB_iff po.nm).mp b1
      have hq210 := s10 _ _ hq29
      have hwa10 := s10 _ _ hwa9
      have hva10 := s10 _ _ hva9
      have hN10 := s10 _ _ hN9
      walk_at "v"
      refine ⟨wa, N, wl, pg, rfl, hwa10, hN10, by omega, fun H11 s11 => ?_⟩
      have s011 := s010.trans s11
      refine ⟨_, rfl, ?_⟩
      cases b2 : ascB wl pg with
      | false =>
        refine iteF ?_
        exact kN (kdP_do3 eps2 eml (fun h => by have := (ascB_iff po.nm).mpr h.2.1; rw [b2] at this; cases this)) _ s011
      | true =>
      refine iteT ?_
      have r2 := (ascB_iff po.nm).mp b2
      have hq211 := s11 _ _ hq210
      have hwa11 := s11 _ _ hwa10
      have hva11 := s11 _ _ hva10
      walk_at "v"
      refine ⟨va, wa, vl, wl, rfl, hva11, hwa11, by omega, fun H12 s12' => ?_⟩
      have s012 := s011.trans s12'
      have i3 := ascB_iff (l := vl) (po.nm.sub r2)
      cases b3 : ascB vl wl with
      | false => exact kN (kdP_do3 eps2 eml (fun h => by have := i3.mpr h.2.2.2; rw [b3] at this; cases this)) _ s012
      | true => exact kY (kdP_do4 eps2 eml ⟨r1, r2, c4, i3.mp b3⟩) _ s012
    · walk_at "v"
      refine i_ixL h5 (atI_nat (j := 0) rfl) ?_
      walk_at "v"
      rw [dec_strE]
      refine ifd (fun eo => ?_) (fun eo => ?_)
      · subst eo
        walk_at "v"
        refine ifd (fun c2 => ?_) (fun c2 => ?_)
        · walk_at "v"
          refine ⟨p1, _, rfl, SqL.of h5, fun p3 hp3 => ?_⟩
          rw [List.map_cons, cut_drop1']
          have s6 : Same H5 (upd H5 p3 (.lst (rest.map V.str))) := (Same.refl _).new hp3
          have h6 : upd H5 p3 (.lst (rest.map V.str)) p3 = some (.lst (rest.map V.str)) := upd_same
          generalize upd H5 p3 (.lst (rest.map V.str)) = H6 at s6 h6
          walk_at "v"
          refine ⟨p3, N, rest, pg, rfl, h6, (s05.trans s6) _ _ hN, by omega, fun H7 s7 => ?_⟩
          have s07 := s05.trans (s6.trans s7)
          have i1 := ascB_iff (l := rest) po.nm
          cases b1 : ascB rest pg with
          | false => exact kN (kdP_outN (fun h => by have := i1.mpr h.1; rw [b1] at this; cases this)) _ s07
          | true =>
            refine kY ?_ _ s07
            rw [kdP_out ⟨i1.mp b1, fun e => by rw [e] at c2; simp at c2⟩]
            simp
        · exact kN (kdP_outN (fun h => c2 (by
            have : rest.length ≠ 0 := fun e => h.2 (List.length_eq_zero_iff.mp e)
            simp only [List.length_map, List.length_cons]; omega))) _ s05
      · walk_at "v"
        refine ⟨show 1 ≤ sizeLine by decide, fun f1 hf1 => ?_⟩
        have t1 : Same H5 (upd H5 f1 (.lst [.str ("force" : Str)])) := (Same.refl _).new hf1
        have u1 : upd H5 f1 (.lst [.str ("force" : Str)]) f1 = some (.lst (([("force" : Str)]).map V.str)) := upd_same
        generalize upd H5 f1 (.lst [.str ("force" : Str)]) = H6 at t1 u1
        walk_at "v"
        refine ⟨show 1 ≤ sizeLine by decide, fun f2 hf2 => ?_⟩
        have t2 : Same H6 (upd H6 f2 (.lst [.str ("mark" : Str)])) := (Same.refl _).new hf2
        have u2 : upd H6 f2 (.lst [.str ("mark" : Str)]) f2 = some (.lst (([("mark" : Str)]).map V.str)) := upd_same
        generalize upd H6 f2 (.lst [.str ("mark" : Str)]) = H7 at t2 u2
        walk_at "v"
        refine ⟨show 1 ≤ sizeLine by decide, fun f3 hf3 => ?_⟩
        have t3 : Same H7 (upd H7 f3 (.lst [.str ("cut" : Str)])) := (Same.refl _).new hf3
        have u3 : upd H7 f3 (.lst [.str ("cut" : Str)]) f3 = some (.lst (([("cut" : Str)]).map V.str)) := upd_same
        generalize upd H7 f3 (.lst [.str ("cut" : Str)]) = H8 at t3 u3
        walk_at "v"
        refine ⟨show 3 ≤ sizeLine by decide, fun f4 hf4 => ?_⟩
        have t4 : Same H8 (upd H8 f4 (.tup [.ref f1, .ref f2, .ref f3])) := (Same.refl _).new hf4
        have u4 : upd H8 f4 (.tup [.ref f1, .ref f2, .ref f3]) f4 = some (.tup [.ref f1, .ref f2, .ref f3]) := upd_same
        generalize upd H8 f4 (.tup [.ref f1, .ref f2, .ref f3]) = H9 at t4 u4
        have t59 := t1.trans (t2.trans (t3.trans t4))
        have dd : Dt [] H9 (.list ((w0 :: rest).map .str)) (.ref p1) := dt_strs (t59 _ _ h5)
        have dc : Dt [] H9 (.tuple [.list (([("force" : Str)]).map .str), .list (([("mark" : Str)]).map .str), .list (([("cut" : Str)]).map .str)]) (.ref f4) :=
          dt_tup u4 (DtAll.cons (dt_strs (t4 _ _ (t3 _ _ (t2 _ _ u1)))) (DtAll.cons (dt_strs (t4 _ _ (t3 _ _ u2))) (DtAll.cons (dt_strs (t4 _ _ u3)) DtAll.nil))) (by simp)
        refine ⟨_, _, Dt.dp _ _ dd, .inr (Dt.dp _ _ dc), by decide, Dt.plain _ _ dd, depth_strl _, ?_⟩
        have s09 := s05.trans t59
        have ai := aloneA_iff w0 rest pg
        show Q (.bl (aloneA (w0 :: rest))) H9
        cases h : aloneA (w0 :: rest) with
        | true => exact kY (by rw [kdP_alone ed eo (ai.mp h)]; simp) _ s09
        | false => exact kN (kdP_aloneN ed eo (fun c => by rw [ai.mpr c] at h; cases h)) _ s09
end Lr
set_option Elab.async false
set_option linter.all false
set_option maxRecDepth 100000
set_option maxHeartbeats 4000000
namespace Lr
open PySem PySem.Spec PyProof.Rows L2 TL
local macro_rules | `(tactic| walk_at "ne") => `(tactic| (first | assumption | (refine ne_sym ?_; assumption) | (exact ne_of_none (by assumption) (by assumption)) | (exact ne_sym (ne_of_none (by assumption) (by assumption)))))
local macro_rules | `(tactic| walk_at "h") => `(tactic| (first | assumption | exact upd_same | (refine h_new ?_ (by assumption); walk_at "h") | (refine h_ne (by walk_at "ne") ?_; walk_at "h")))
local macro_rules | `(tactic| walk_at "v1") => `(tactic| (with_reducible first
  | refine i_seq ?_ | refine i_asg ?_ | refine i_ret ?_ | refine i_next ?_ | refine i_drop ?_ | refine i_ifS ?_ | refine i_if ?_ | refine i_and ?_ | refine i_or ?_ | refine i_not ?_ | refine i_test ?_ | refine i_tB ?_ | refine i_bl ?_ | refine i_yes ?_
  | refine i_op ?_ | refine i_un ?_ | refine i_chain ?_ | refine i_andV ?_ | refine i_orV ?_ | refine i_notV ?_ | refine i_cb ?_ | refine i_cons ?_ | refine i_nil ?_ | refine i_bm ?_ | refine i_bm0 ?_ | refine i_c ?_ | refine i_name ?_ | refine i_sub ?_
  | refine i_call ?_ | refine i_lst ?_ | refine i_tup ?_ | refine i_par ?_ | refine i_par2 ?_ | refine i_sl ?_ | refine i_np ?_ | refine i_pt ?_ | refine i_int ?_ | refine i_m0 ?_ | refine i_m1 ?_ | refine i_isS ?_
  | refine i_rI0 ?_ | refine i_inSign ?_ | refine i_notInSign ?_ | refine i_int1 ?_ | refine i_tru ?_ | refine i_isN ?_ | refine i_notN ?_ | refine iteT ?_ | refine iteF ?_ | refine i_brk ?_ | refine i_rt ?_ | refine i_nx ?_ | refine i_bk ?_ | refine i_ct ?_ | refine i_for ?_ | refine i_lc ?_ | refine i_dc ?_ | refine i_iL ?_ | refine i_iT ?_ | refine i_iR1 ?_ | refine i_iR2 ?_ | refine i_iS ?_ | refine i_iE ?_ | refine i_iEK ?_ | refine i_iEQ ?_ | refine i_iZS ?_ | refine i_dget ?_ | refine i_fld ?_ | refine i_sfld ?_ | refine i_dput ?_ | refine i_meth ?_ | refine i_rU ?_ | refine i_cont ?_ | refine i_make ?_))
local macro_rules | `(tactic| walk_at "v2") => `(tactic| (first
  | ((with_reducible refine' i_var ?k1 ?_); (case k1 => exact rfl))
  | ((with_reducible refine' i_eq ?k1 ?_); (case k1 => exact rfl))
  | ((with_reducible refine' i_ne ?k1 ?_); (case k1 => exact rfl))
  | ((with_reducible refine' i_ixL ?k1 ?k2 ?_); (case k1 => walk_at "h"); (case k2 => exact rfl))
  | ((with_reducible refine' i_ixT ?k1 ?k2 ?_); (case k1 => walk_at "h"); (case k2 => exact rfl))
  | ((with_reducible refine' i_lenL ?k1 ?_); (case k1 => walk_at "h"))
  | ((with_reducible refine' i_lenT ?k1 ?_); (case k1 => walk_at "h"))
  | (refine i_wipe (show wipe _ _ = wipe _ _ from rfl) ?_)
  | ((with_reducible refine' i_setL ?k1 ?k2 ?_); (case k1 => walk_at "h"); (case k2 => exact rfl))
  | ((with_reducible refine' i_tyl ?k1 ?_); (case k1 => walk_at "h"))))
local macro_rules | `(tactic| walk_at "v") => `(tactic| repeat (first | walk_at "v1" | walk_at "v2"))

variable {P : Program} {w : World} {K :
      PySem.W.Frag} {mg : Str → Option Value} {base : Heap}
abbrev s_law_nstep_in : Stmt := top 54
abbrev N_law_nstep_in : List Str := ["line", "pages", "words", "at", "head", "triples", "part", "parts", "more", "sign", "word"]
abbrev P_law_nstep_in : List Str := ["line", "pages"]
theorem sc_law_nstep_in : FnScope N_law_nstep_in P_law_nstep_in (defScope s_law_nstep_in) := ⟨rfl, rfl, rfl, by decide +kernel, rfl, by decide +kernel, by decide +kernel⟩
theorem triOf_triW (t : Tri) : triOf (triW t) = t := by
  by_cases e : triL t = []
  · have : triW t = [sMI] := by unfold triW; rw [if_pos e]
    rw [this, tri_empty e]
    unfold triOf lotsOf
    simp [hd_sMI]; decide
  · have : triW t = triL t := by unfold triW; rw [if_neg e]
    rw [this, triOf_triL]
theorem part_when {ts : List Tri} (h : ts ≠ []) : partW sSL (whenW ts) = ts.map triW ∧ whenW ts ≠ [] := by
  cases ts with
  | nil => exact absurd rfl h
  | cons t ts =>
    refine ⟨?_, ?_⟩
    · rw [whenW_join, part_join]
      · simp
      · intro p hp
        obtain ⟨u, _, rfl⟩ := List.mem_map.mp hp
        exact triW_no hd_sSL (by decide) (by decide) (by decide) (by decide)
    · show triW t ++ _ ≠ []
      have := triW_ne t
      simp [this]
theorem part_do {pg r w v : List Str} (hp : PgOk pg) (h : (Kd.do_ r w v).Ok pg) : partW sGT (r ++ (sGT :: (w ++ (sCO :: v)))) = [r, w ++ (sCO :: v)] ∧ partW sCO (w ++ (sCO :: v)) = [w, v] := by
  obtain ⟨h1, h2, h3, h4⟩ := h
  have nr := names_no (sub_name hp h1) hd_sGT (by decide)
  have nw := names_no (sub_name hp h2) hd_sGT (by decide)
  have nv := names_no (sub_name hp (h4.trans h2)) hd_sGT (by decide)
  have nw2 := names_no (sub_name hp h2) hd_sCO (by decide)
  have nv2 := names_no (sub_name hp (h4.trans h2)) hd_sCO (by decide)
  refine ⟨?_, ?_⟩
  · rw [part_app _ _ _ nr, part_one]
    simp only [List.mem_append, List.mem_cons, not_or]
    exact ⟨nw, by decide, nv⟩
  · rw [part_app _ _ _ nw2, part_one _ _ nv2]
def spNStepIn : Sp := fun vs H Q _ => ∃ (z : Str) (v : V) (pg : List Str) (s : Sd), vs = [.str z, v] ∧ z.length ≤ 10000 ∧ words z = stepW s ∧ (words z).length ≤ 64 ∧ PgOk pg ∧ s.Ok pg ∧
  ∀ q H', New H H' (stepD s) (.ref q) → Same H H' → Q (.ref q) H'
theorem ok_nstepin (d : Fd K mg "_law_nstep_in" s_law_nstep_in P_law_nstep_in) (d_law_nsplit : FdNSplit K mg) (B : Blt2 K mg) : FnOk P w K mg base CX0 2 d.f d.fd P_law_nstep_in spNStepIn := by
  have G_law_nsplit : FnOk P w K mg base CX0 1 d_law_nsplit.f d_law_nsplit.fd P_law_nsplit spParted := ok_nsplit d_law_nsplit B.toBlt
  refine d.F.ok sc_law_nstep_in (fun vs H Q E h => ?_) (fun cdv A outer s H vs Q E hr h => ?_)
  · obtain ⟨z, v, pg, s, rfl, _⟩ := h
    rfl
  · obtain ⟨z, v, pg, sd, rfl, lz, ew, lw, po, ok, k⟩ := h
    rw [ew] at lw
    have nq := kdW_q po ok.k
    obtain ⟨eh0, et0⟩ := head_app (b := whenW sd.wh) nq
    obtain ⟨j, ej, hj, fj, eh, et, lj⟩ := head_at (ws := stepW sd) (by simp [stepW])
    have eh1 : (stepW sd).take j = kdW sd.k := by rw [← eh]; exact eh0
    have et1 : (stepW sd).drop (j + 1) = whenW sd.wh := by rw [← et]; exact et0
    have lwh : (whenW sd.wh).length ≤ 1000 := by
      have := lw
      simp only [stepW, List.length_append, List.length_cons] at this
      omega
    refine ⟨_, (pss_cons (ps_set (i := 2) sc_law_nstep_in.nd rfl (by first | exact Or.inl rfl | exact Or.inr rfl) (pe_m1 PySem.F.slot_str_split PySem.F.type_str_split m_split (pv 0) pe_str))
      (pss_cons (ps_set (i := 3) sc_law_nstep_in.nd rfl (by first | exact Or.inl rfl | exact Or.inr rfl) (e_bm K PySem.F.plainAttrs_list PySem.F.slot_list_index PySem.F.type_list_index mt_index (pv 2) (pa_cons pe_str pa_nil)))
      (pss_cons (ps_par (i := 4) (j := 5) (by rfl) sc_law_nstep_in.nd rfl rfl (by decide) rfl rfl (pa_cons (pe_slice (s_list K) (pv 2) po_none (po_some (pv 3))) (pa_cons (pe_lst pa_nil) pa_nil)) (by rfl))
      (pss_cons (PS.by_ (t' := fun D0 σ H3 => ∃ W p1 f H2 v6 v9 v10, σ = [some (.str z), some v, some (.ref W), some (.int (j : Nat)), some (.ref p1), some (.ref f), v6, none, none, v9, v10] ∧ H3 W = some (.lst ((stepW sd).map V.str)) ∧ H2 W = some (.lst ((stepW sd).map V.str)) ∧ Acc [] H2 H3 f [] ∧ ∀ v6 v9 v10 H', Acc [] H2 H' f (sd.wh.map triD) → D0.nx [some (.str z), some v, some (.ref W), some (.int (j : Nat)), some (.ref p1), some (.ref f), v6, none, none, v9, v10] H') ⟨_, (ps_for PassesOwn.never rfl (w_list K (pe_ifExp (pt_cmpR (o_neP K hr.units) (pe_slice (s_list K) (pv 2) (po_some (pe_op op_add (pv 3) pe_int)) po_none) (pe_lst pa_nil) (nomark _)) (pe_call G_law_nsplit (hr.mono (by decide)) (by rfl) d_law_nsplit.g d_law_nsplit.F.kp d_law_nsplit.b .nil pass0 (pa_cons (pe_slice (s_list K) (pv 2) (po_some (pe_op op_add (pv 3) pe_int)) po_none) (pa_cons pe_str pa_nil))) (pe_lst pa_nil))) (pg_name (i := 6) sc_law_nstep_in.nd rfl (by first | exact Or.inl rfl | exact Or.inr rfl))
      (pss_one (ps_expr (e_bm K PySem.F.plainAttrs_list PySem.F.slot_list_append PySem.F.type_list_append mt_append (pv 5) (pa_cons (pe_callTy (c_tuple K) (by rfl) B.tuple (by decide +kernel) (pa_cons (pe_lc (own := [("sign", 9)]) (g := gName 9) (tt := tYes) rfl sc_law_nstep_in.nd (pi_str pe_str) (blkOk_by (own := [("sign", 9)]) (N := N_law_nstep_in) (sc := defScope s_law_nstep_in) (by decide +kernel)) (fun _ _ _ _ _ => by exact (pg_name (i := 9) sc_law_nstep_in.nd rfl (by first | exact Or.inl rfl | exact Or.inr rfl))) (fun _ _ _ _ _ => pts_nil) (fun _ _ _ _ _ => by exact (pe_callTy (c_tuple K) (by rfl) B.tuple (by decide +kernel) (pa_cons (pe_lc (own := [("word", 10)]) (g := gName 10) rfl sc_law_nstep_in.nd (w_list K (pv 6)) (blkOk_by (own := [("word", 10)]) (N := N_law_nstep_in) (by rfl)) (fun _ _ _ _ _ => by exact (pg_name (i := 10) sc_law_nstep_in.nd rfl (by first | exact Or.inl rfl | exact Or.inr rfl))) (fun _ _ _ _ _ => by exact (pts_one (pt_cmpR op_eq (pe_slice sl_str (pv 10) po_none (po_some pe_int)) (pv 9) (nomark _)))) (fun _ _ _ _ _ => by exact (pe_slice sl_str (pv 10) (po_some pe_int) po_none))) pa_nil)))) pa_nil)) pa_nil))))), by
          rintro D0 σ H3 ⟨W, p1, f, H2, v6, v9, v10, rfl, hW3, hW2, ac0, q⟩
          walk_at "v"
          refine ⟨W, _, rfl, SqL.of hW3, fun p3 hp3 => ?_⟩
          have c1 : ((j : Int) + 1) = ((j + 1 : Nat) : Int) := by omega
          rw [c1, cut_from, ← List.map_drop, et1]
          have s4 : Same H3 (upd H3 p3 (.lst ((whenW sd.wh).map V.str))) := (Same.refl _).new hp3
          have h4 : upd H3 p3 (.lst ((whenW sd.wh).map V.str)) p3 = some (.lst ((whenW sd.wh).map V.str)) := upd_same
          generalize upd H3 p3 (.lst ((whenW sd.wh).map V.str)) = H4 at s4 h4
          walk_at "v"
          refine ⟨show 0 ≤ sizeLine by decide, fun g1 hg1 => ?_⟩
          have s5 : Same H4 (upd H4 g1 (.lst [])) := (Same.refl _).new hg1
          have h5 : upd H4 g1 (.lst []) g1 = some (.lst (([] : List Str).map V.str)) := upd_same
          generalize upd H4 g1 (.lst []) = H5 at s5 h5
          refine i_neP (dt_strs (s5 _ _ h4)) (dt_strs h5) (.inr (by decide)) ?_
          rw [show PyData.eqv (.list ((whenW sd.wh).map .str)) (.list (([] : List Str).map .str)) = decide (whenW sd.wh = []) from eqv_strs _ _]
          have s35 := s4.trans s5
          have ac5 : Acc [] H2 H5 f [] := ac0.skip trk_nil (Keep.of_same s35)
          refine ⟨_, rfl, ?_⟩
          refine ifn (fun ne => ?_) (fun em => ?_)
          · have wne : sd.wh ≠ [] := fun e => ne (by rw [e]; rfl)
            obtain ⟨pw, _⟩ := part_when wne
            walk_at "v"
            refine ⟨W, _, rfl, SqL.of (s35 _ _ hW3), fun p4 hp4 => ?_⟩
            rw [c1, cut_from, ← List.map_drop, et1]
            have s6 : Same H5 (upd H5 p4 (.lst ((whenW sd.wh).map V.str))) := (Same.refl _).new hp4
            have h6 : upd H5 p4 (.lst ((whenW sd.wh).map V.str)) p4 = some (.lst ((whenW sd.wh).map V.str)) := upd_same
            generalize upd H5 p4 (.lst ((whenW sd.wh).map V.str)) = H6 at s6 h6
            walk_at "v"
            refine ⟨p4, whenW sd.wh, sSL, rfl, h6, lwh, fun q1 H7 nq1 s7 => ?_⟩
            rw [pw] at nq1
            obtain ⟨a6, e6, _⟩ := (ac5.skip trk_nil (Keep.of_same s6)).ex
            have tf : Trk [f] H6 := fun s hs => by simp at hs; subst hs; exact ⟨_, e6⟩
            obtain ⟨xp, hq1, dq1, nqf⟩ := list_at (nq1 [f] tf)
            have lxp : xp.length = sd.wh.length := by simpa using dq1.length
            have ac7 : Acc [] H2 H7 f [] := ac5.skip trk_nil (Keep.of_same (s6.trans s7))
            refine w_lst hq1 ?_
            refine for_by (walk_list (xs := xp)) ⟨fun i σ H' => (∃ v6 v9 v10, σ = [some (.str z), some v, some (.ref W), some (.int (j : Nat)), some (.ref p1), some (.ref f), v6, none, none, v9, v10]) ∧ Acc [] H2 H' f ((sd.wh.take i).map triD) ∧ Keep [f] H7 H', ⟨⟨_, _, _, rfl⟩, by simpa using ac7, Keep.refl _ _⟩, fun i σ H' _ ⟨_, _, s⟩ => SqL.of (s _ _ nqf hq1), ?_, ?_⟩
            · rintro i x σ H8 H9 hi ⟨⟨v6, v9, v10, rfl⟩, ac, s8⟩ ⟨rfl, hx⟩
              obtain ⟨dp, gp, zp⟩ := dq1.get' hx
              rw [List.getElem?_map, List.getElem?_map] at gp
              obtain ⟨pt, gt, rfl⟩ := Option.map_eq_some_iff.mp gp
              obtain ⟨t, ht, rfl⟩ := Option.map_eq_some_iff.mp gt
              have tok := ok.w t (List.mem_of_getElem? ht)
              obtain ⟨ltw, shw⟩ := triW_len po tok
              obtain ⟨pa, rfl, hpa, _⟩ := lst_at (Dt.keep s8 _ _ zp)
              obtain ⟨acc, ea, la, _⟩ := id ac.ex
              have hil : i < sd.wh.length := by rw [← lxp]; exact hi
              walk_at "v"
              have sgl : ("=+!" : Str).cps = #[cEQ, cPL, cEX] := by decide +kernel
              refine w_str ?_
              refine lc_by (walk_str (z := ("=+!" : Str))) fun D hD => ⟨fun i H' => Acc [] H9 H' D (([cEQ, cPL, cEX].take i).map fun c => lotT (lotsOf c (triW t))), Acc.start (Keep.refl _ _) hD, fun _ _ _ _ => trivial, ?_, ?_⟩
              · rintro m x Ha Hb hm ac1 ⟨rfl, c, hc, rfl⟩
                rw [sgl] at hc
                have hc' : [cEQ, cPL, cEX][m]? = some c := by simpa using hc
                have hpab := ac1.kp.same _ _ hpa
                walk_at "v"
                refine w_lst hpab ?_
                refine lc_by (walk_list (xs := (triW t).map V.str)) fun D2 hD2 => ⟨fun j H' => H' D2 = some (.lst ((lotsOf c ((triW t).take j)).map V.str)) ∧ Same Hb H', ⟨upd_same, (Same.refl _).new hD2⟩, fun j H' _ ⟨_, s⟩ => SqL.of (s _ _ hpab), ?_, ?_⟩
                · rintro j2 y Hc Hd hj2 ⟨hd4, sc4⟩ ⟨rfl, hy⟩
                  rw [List.getElem?_map] at hy
                  obtain ⟨y, hyj, rfl⟩ := Option.map_eq_some_iff.mp hy
                  have ly : y.length ≤ sizeLine := Nat.le_trans (shw y (List.mem_of_getElem? hyj)) (by decide)
                  have ep : (triW t).take (j2 + 1) = (triW t).take j2 ++ [y] := by rw [List.take_succ, hyj]; rfl
                  walk_at "v"
                  refine ⟨y, rfl, ly, ?_⟩
                  walk_at "v"
                  have eb : decide (V.str (cutS y none (some 1)) = V.str ⟨#[c]⟩) = decide (hd0 y = some c) := by
                    rw [dec_strE]
                    exact decide_eq_decide.mpr (cut_hd1 y c)
                  rw [eb]
                  refine ifd (fun h => ?_) (fun h => ?_)
                  · walk_at "v"
                    refine ⟨y, rfl, ly, ?_⟩
                    refine ⟨_, hd4, by rw [List.length_map]; exact small1000 (Nat.le_trans (lots_len _ _) (by rw [List.length_take]; omega)), ?_, sc4.put hD2⟩
                    rw [cut_tl1, ep, lots_app, List.map_append]
                    have : lotsOf c [y] = [tl1 y] := by simp [lotsOf, h]
                    rw [this]
                    exact upd_same
                  · refine ⟨?_, sc4⟩
                    rw [ep, lots_app]
                    have : lotsOf c [y] = [] := by simp [lotsOf, h]
                    rw [this, List.append_nil]
                    exact hd4
                · rintro Hc ⟨hd4, sc4⟩
                  rw [List.length_map, List.take_length] at hd4
                  walk_at "v"
                  refine i_tupleL hd4 (fun q8 hq8 => ?_)
                  obtain ⟨acc1, ea1, la1, _⟩ := id ac1.ex
                  have nv : NewM [] Hb _ (lotT (lotsOf c (triW t))) (.ref q8) := NewM.strs (lotsOf c (triW t)) (Keep.of_same sc4) hq8
                  obtain ⟨e5, ac5⟩ := ac1.step trk_nil ea1 nv ((Keep.of_same sc4).new hq8)
                  refine ⟨acc1, e5, ?_, ?_⟩
                  · rw [la1, List.length_map, List.length_take]; exact small1000 (by simp; omega)
                  · show Acc [] H9 _ D (([cEQ, cPL, cEX].take (m + 1)).map fun c => lotT (lotsOf c (triW t)))
                    rw [List.take_succ, hc', List.map_append]; exact ac5
              · rintro Ha ac1
                rw [show ("=+!" : Str).cps.size = 3 by rw [sgl]; rfl] at ac1
                obtain ⟨acc1, ea1, la1, _⟩ := id ac1.ex
                walk_at "v"
                refine i_tupleL ea1 (fun q8 hq8 => ?_)
                have et3 : triD (triOf (triW t)) = triD t := by rw [triOf_triW]
                have nt : NewM [] H9 (upd Ha q8 (.tup acc1)) (triD t) (.ref q8) := by
                  rw [← et3]
                  exact ac1.tup ea1 hq8
                have kp9 : Keep [] H9 (upd Ha q8 (.tup acc1)) := ac1.kp.new hq8
                obtain ⟨e8, ac8⟩ := ac.step trk_nil ea nt kp9
                have lwl : sd.wh.length ≤ 1000 := Nat.le_trans (whenW_ge sd.wh) lwh
                walk_at "v"
                refine i_app e8 (by rw [la, List.length_map, List.length_take]; exact small_lt (by omega)) ?_
                refine ⟨⟨_, _, _, rfl⟩, ?_, ?_⟩
                · rw [List.take_succ, ht, List.map_append]
                  exact ac8
                · exact (s8.trans (kp9.mono (by simp))).put (by simp)
            · rintro σ H8 ⟨⟨v6, v9, v10, rfl⟩, ac, s8⟩
              rw [lxp, List.take_length] at ac
              exact q _ _ _ _ ac
          · walk_at "v"
            refine ⟨show 0 ≤ sizeLine by decide, fun e1 he1 => ?_⟩
            have s6 : Same H5 (upd H5 e1 (.lst [])) := (Same.refl _).new he1
            have h6 : upd H5 e1 (.lst []) e1 = some (.lst []) := upd_same
            generalize upd H5 e1 (.lst []) = H6 at s6 h6
            have wem : sd.wh = [] := by
              cases e : sd.wh with
              | nil => rfl
              | cons t r => exact absurd em (part_when (by rw [e]; simp)).2
            refine w_lst h6 ?_
            refine for_by (walk_list (xs := [])) ⟨fun i σ H' => σ = [some (.str z), some v, some (.ref W), some (.int (j : Nat)), some (.ref p1), some (.ref f), v6, none, none, v9, v10] ∧ H' = H6, ⟨rfl, rfl⟩, fun i σ H' _ ⟨_, e⟩ => by rw [e]; exact SqL.of h6, fun i x σ H3 H4 hi => by simp at hi, ?_⟩
            rintro σ H7 ⟨rfl, rfl⟩
            refine q _ _ _ _ ?_
            rw [wem]
            exact ac5.skip trk_nil (Keep.of_same s6)⟩)
      (pss_cons (ps_if (pt_cmpR op_eq (pe_ix (x_list K) (pv 4) pe_int (fun _ _ => rfl)) pe_str (nomark _)) (pss_cons (ps_set (i := 7) sc_law_nstep_in.nd rfl (by first | exact Or.inl rfl | exact Or.inr rfl) (pe_call G_law_nsplit (hr.mono (by decide)) (by rfl) d_law_nsplit.g d_law_nsplit.F.kp d_law_nsplit.b .nil pass0 (pa_cons (pe_slice (s_list K) (pv 4) (po_some pe_int) po_none) (pa_cons pe_str pa_nil))))
      (pss_cons (ps_set (i := 8) sc_law_nstep_in.nd rfl (by first | exact Or.inl rfl | exact Or.inr rfl) (pe_call G_law_nsplit (hr.mono (by decide)) (by rfl) d_law_nsplit.g d_law_nsplit.F.kp d_law_nsplit.b .nil pass0 (pa_cons (pe_ix (x_list K) (pv 7) pe_int (fun _ _ => rfl)) (pa_cons pe_str pa_nil))))
      (pss_one (ps_ret (pe_tup (pa_cons pe_str (pa_cons (pe_callTy (c_tuple K) (by rfl) B.tuple (by decide +kernel) (pa_cons (pe_ix (x_list K) (pv 7) pe_int (fun _ _ => rfl)) pa_nil)) (pa_cons (pe_callTy (c_tuple K) (by rfl) B.tuple (by decide +kernel) (pa_cons (pe_ix (x_list K) (pv 8) pe_int (fun _ _ => rfl)) pa_nil)) (pa_cons (pe_callTy (c_tuple K) (by rfl) B.tuple (by decide +kernel) (pa_cons (pe_ix (x_list K) (pv 8) pe_int (fun _ _ => rfl)) pa_nil)) (pa_cons (pe_callTy (c_tuple K) (by rfl) B.tuple (by decide +kernel) (pa_cons (pv 5) pa_nil)) pa_nil)))))))))) pss_nil)
      (pss_one (ps_ret (pe_ifExp (pt_cmpR op_eq (pe_ix (x_list K) (pv 4) pe_int (fun _ _ => rfl)) pe_str (nomark _)) (pe_tup (pa_cons pe_str (pa_cons (pe_callTy (c_tuple K) (by rfl) B.tuple (by decide +kernel) (pa_cons (pe_slice (s_list K) (pv 4) (po_some pe_int) po_none) pa_nil)) (pa_cons (pe_callTy (c_tuple K) (by rfl) B.tuple (by decide +kernel) (pa_cons (pv 5) pa_nil)) pa_nil)))) (pe_tup (pa_cons (pe_ix (x_list K) (pv 4) pe_int (fun _ _ => rfl)) (pa_cons (pe_callTy (c_tuple K) (by rfl) B.tuple (by decide +kernel) (pa_cons (pv 5) pa_nil)) pa_nil))))))))))), ?_⟩
    walk_at "v"
    refine i_split (by decide +kernel) (Nat.le_trans (Nat.add_le_add_right lz 2) (by decide)) (fun W hW => ?_)
    rw [show Txt.split z (Str.ofString " ") = words z from rfl, ew]
    have s1 : Same H (upd H W (.lst ((stepW sd).map V.str))) := (Same.refl H).new hW
    have hW1 : upd H W (.lst ((stepW sd).map V.str)) W = some (.lst ((stepW sd).map V.str)) := upd_same
    generalize upd H W (.lst ((stepW sd).map V.str)) = H1 at s1 hW1
    walk_at "v"
    refine ⟨W, (stepW sd).map V.str, .str sQ, j, .str sQ, rfl, rfl, SqL.of hW1, rfl, flat_strs _, by rw [List.getElem?_map, hj]; rfl, by decide, fun m z' hm hz' => ?_, ?_⟩
    · rw [List.getElem?_map] at hz'
      obtain ⟨y, hy, rfl⟩ := Option.map_eq_some_iff.mp hz'
      have := fj m y hm hy
      simp [eqV, this]
    walk_at "v"
    refine ⟨W, _, rfl, SqL.of hW1, fun p1 hp1 => ?_⟩
    rw [cut_to, ← List.map_take, eh1]
    have h2 : upd H1 p1 (.lst ((kdW sd.k).map V.str)) p1 = some (.lst ((kdW sd.k).map V.str)) := upd_same
    have s12 : Same H1 (upd H1 p1 (.lst ((kdW sd.k).map V.str))) := (Same.refl _).new hp1
    generalize upd H1 p1 (.lst ((kdW sd.k).map V.str)) = H2 at h2 s12
    have s02 := s1.trans s12
    walk_at "v"
    refine ⟨show 0 ≤ sizeLine by decide, fun f hf => ?_⟩
    have hf0 : H f = none := same_none s02 hf
    have ac0 : Acc [] H2 (upd H2 f (.lst [])) f [] := Acc.start (Keep.refl _ _) hf
    have fx0 : ∀ {a o}, H2 a = some o → upd H2 f (.lst []) a = some o := fun e => h_new e hf
    generalize upd H2 f (.lst []) = H3 at ac0 fx0
    have s23 : Same H2 H3 := ac0.kp.same
    have s03 := s02.trans s23
    refine ⟨.ref p1, .ref f, rfl, ?_⟩
    refine ⟨W, p1, f, H2, none, none, none, rfl, s23 _ _ (s12 _ _ hW1), s12 _ _ hW1, ac0, fun v6 v9 v10 H4 ac => ?_⟩
    have kp24 := ac.kp.same
    have s04 := s02.trans kp24
    have h4 := kp24 _ _ h2
    obtain ⟨accf, ef, _, _⟩ := id ac.ex
    have lwh2 := Nat.le_trans (whenW_ge sd.wh) lwh
    have kz : Keep [] H H4 := Keep.of_same s04
    have acH : Acc [] H H4 f (sd.wh.map triD) := by
      obtain ⟨acc, e1, e2, z⟩ := ac.ex
      exact ⟨⟨acc, e1, e2, fun S t m => z S (t.keep (Keep.of_same (S := []) s02)) m⟩, kz, hf0⟩
    obtain ⟨lk, xk⟩ := kdW_len po ok.k
    cases ek : sd.k with
    | do_ r w vl =>
      have okk : (Kd.do_ r w vl).Ok pg := by have := ok.k; rw [ek] at this; exact this
      obtain ⟨pd1, pd2⟩ := part_do po okk
      rw [ek] at h4
      have lkd : (r ++ (sGT :: (w ++ (sCO :: vl)))).length ≤ 1000 := by
        have := lk; rw [ek] at this
        simp only [kdW, List.length_cons] at this; omega
      have lkm : (w ++ (sCO :: vl)).length ≤ 1000 := by
        simp only [List.length_append, List.length_cons] at lkd ⊢; omega
      walk_at "v"
      refine i_ixL h4 (atI_nat (j := 0) rfl) ?_
      walk_at "v"
      refine iteT ?_
      walk_at "v"
      refine ⟨p1, _, rfl, SqL.of h4, fun p3 hp3 => ?_⟩
      rw [show (kdW (.do_ r w vl)).map V.str = .str ("do" : Str) :: (r ++ (sGT :: (w ++ (sCO :: vl)))).map V.str from rfl, cut_drop1']
      have s5 : Same H4 (upd H4 p3 (.lst ((r ++ (sGT :: (w ++ (sCO :: vl)))).map V.str))) := (Same.refl _).new hp3
      have h5 : upd H4 p3 (.lst ((r ++ (sGT :: (w ++ (sCO :: vl)))).map V.str)) p3 = some (.lst ((r ++ (sGT :: (w ++ (sCO :: vl)))).map V.str)) := upd_same
      generalize upd H4 p3 (.lst ((r ++ (sGT :: (w ++ (sCO :: vl)))).map V.str)) = H5 at s5 h5
      walk_at "v"
      refine ⟨p3, _, sGT, rfl, h5, lkd, fun q1 H6 nq1 s6 => ?_⟩
      rw [pd1] at nq1
      obtain ⟨xp, hq1, dq1, _⟩ := list_at (nq1 [] trk_nil)
      obtain ⟨vr, yn, rfl, zr, dq1⟩ := DtAll.cons_iff.mp dq1
      obtain ⟨vm, yn, rfl, zm, dq1⟩ := DtAll.cons_iff.mp dq1
      obtain rfl := DtAll.nil_iff.mp dq1
      obtain ⟨ra, rfl, hra, _⟩ := lst_at zr
      obtain ⟨ma, rfl, hma, _⟩ := lst_at zm
      walk_at "v"
      refine ⟨ma, _, sCO, rfl, hma, lkm, fun q2 H7 nq2 s7 => ?_⟩
      rw [pd2] at nq2
      obtain ⟨xm, hq2, dq2, _⟩ := list_at (nq2 [] trk_nil)
      obtain ⟨vw, yn, rfl, zw, dq2⟩ := DtAll.cons_iff.mp dq2
      obtain ⟨vv, yn, rfl, zv, dq2⟩ := DtAll.cons_iff.mp dq2
      obtain rfl := DtAll.nil_iff.mp dq2
      obtain ⟨wa, rfl, hwa, _⟩ := lst_at zw
      obtain ⟨va, rfl, hva, _⟩ := lst_at zv
      have s47 : Same H4 H7 := s5.trans (s6.trans s7)
      have kp7 : Keep [] H H7 := kz.trans (Keep.of_same s47)
      have hq17 := s7 _ _ hq1
      walk_at "v"
      refine i_tupleL (s7 _ _ hra) (fun t1 ht1 => ?_)
      have n1 : NewM [] H _ (lotT r) (.ref t1) := NewM.strs r kp7 ht1
      have kp8 := kp7.new (o := .tup (r.map V.str)) ht1
      have s8 : Same H7 (upd H7 t1 (.tup (r.map V.str))) := (Same.refl _).new ht1
      generalize upd H7 t1 (.tup (r.map V.str)) = H8 at n1 kp8 s8
      have hq28 := s8 _ _ hq2
      walk_at "v"
      refine i_tupleL (s8 _ _ hwa) (fun t2 ht2 => ?_)
      have n2 : NewM [] H _ (lotT w) (.ref t2) := NewM.strs w kp8 ht2
      have n19 := n1.upd (o := .tup (w.map V.str)) ht2
      have kp9 := kp8.new (o := .tup (w.map V.str)) ht2
      have s9 : Same H8 (upd H8 t2 (.tup (w.map V.str))) := (Same.refl _).new ht2
      generalize upd H8 t2 (.tup (w.map V.str)) = H9 at n2 n19 kp9 s9
      have hq29 := s9 _ _ hq28
      walk_at "v"
      refine i_tupleL (s9 _ _ (s8 _ _ hva)) (fun t3 ht3 => ?_)
      have n3 : NewM [] H _ (lotT vl) (.ref t3) := NewM.strs vl kp9 ht3
      have n110 := n19.upd (o := .tup (vl.map V.str)) ht3
      have n210 := n2.upd (o := .tup (vl.map V.str)) ht3
      have kp10 := kp9.new (o := .tup (vl.map V.str)) ht3
      have s10 : Same H9 (upd H9 t3 (.tup (vl.map V.str))) := (Same.refl _).new ht3
      generalize upd H9 t3 (.tup (vl.map V.str)) = H10 at n3 n110 n210 kp10 s10
      have s410 : Same H4 H10 := s47.trans (s8.trans (s9.trans s10))
      have ac10 := acH.skip trk_nil (Keep.of_same s410)
      have ef10 := s410 _ _ ef
      walk_at "v"
      refine i_tupleL ef10 (fun t4 ht4 => ?_)
      have n4 : NewM [] H _ (whenD sd.wh) (.ref t4) := ac10.tup ef10 ht4
      have n111 := n110.upd (o := .tup accf) ht4
      have n211 := n210.upd (o := .tup accf) ht4
      have n311 := n3.upd (o := .tup accf) ht4
      have kp11 := kp10.new (o := .tup accf) ht4
      generalize upd H10 t4 (.tup accf) = H11 at n4 n111 n211 n311 kp11
      walk_at "v"
      refine ⟨show 5 ≤ sizeLine by decide, fun t5 ht5 => ?_⟩
      refine k t5 _ ?_ (kp11.new ht5).same
      have es : stepD sd = .tuple [.str ("do" : Str), lotT r, lotT w, lotT vl, whenD sd.wh] := by unfold stepD; rw [ek]
      rw [es]
      exact (NewM.tup kp11 ht5 fun S t m => DtAll.cons (show Dt S H11 (.str "do") (.str "do") by unfold Dt; rfl) (DtAll.cons (n111 S t m) (DtAll.cons (n211 S t m) (DtAll.cons (n311 S t m) (DtAll.cons (n4 S t m) DtAll.nil))))).toN
    | out l =>
      rw [ek] at h4
      walk_at "v"
      refine i_ixL h4 (atI_nat (j := 0) rfl) ?_
      walk_at "v"
      refine ifd (fun h => absurd (V.str.inj h) (show ("out" : Str) ≠ "do" by decide)) (fun _ => ?_)
      walk_at "v"
      refine i_ixL h4 (atI_nat (j := 0) rfl) ?_
      walk_at "v"
      refine iteT ?_
      walk_at "v"
      refine ⟨p1, _, rfl, SqL.of h4, fun p3 hp3 => ?_⟩
      rw [show (kdW (.out l)).map V.str = .str ("out" : Str) :: l.map V.str from rfl, cut_drop1']
      have s5 : Same H4 (upd H4 p3 (.lst (l.map V.str))) := (Same.refl _).new hp3
      have h5 : upd H4 p3 (.lst (l.map V.str)) p3 = some (.lst (l.map V.str)) := upd_same
      generalize upd H4 p3 (.lst (l.map V.str)) = H5 at s5 h5
      have kp5 : Keep [] H H5 := kz.trans (Keep.of_same s5)
      walk_at "v"
      refine i_tupleL h5 (fun t1 ht1 => ?_)
      have n1 : NewM [] H _ (lotT l) (.ref t1) := NewM.strs l kp5 ht1
      have kp6 := kp5.new (o := .tup (l.map V.str)) ht1
      have s6 : Same H4 (upd H5 t1 (.tup (l.map V.str))) := s5.new ht1
      generalize upd H5 t1 (.tup (l.map V.str)) = H6 at n1 kp6 s6
      have ac6 := acH.skip trk_nil (Keep.of_same s6)
      have ef6 := s6 _ _ ef
      walk_at "v"
      refine i_tupleL ef6 (fun t4 ht4 => ?_)
      have n4 : NewM [] H _ (whenD sd.wh) (.ref t4) := ac6.tup ef6 ht4
      have n17 := n1.upd (o := .tup accf) ht4
      have kp7 := kp6.new (o := .tup accf) ht4
      generalize upd H6 t4 (.tup accf) = H7 at n4 n17 kp7
      walk_at "v"
      refine ⟨show 3 ≤ sizeLine by decide, fun t5 ht5 => ?_⟩
      refine k t5 _ ?_ (kp7.new ht5).same
      have es : stepD sd = .tuple [.str ("out" : Str), lotT l, whenD sd.wh] := by unfold stepD; rw [ek]
      rw [es]
      exact (NewM.tup kp7 ht5 fun S t m => DtAll.cons (show Dt S H7 (.str "out") (.str "out") by unfold Dt; rfl) (DtAll.cons (n17 S t m) (DtAll.cons (n4 S t m) DtAll.nil))).toN
    | alone x =>
      have okk := ok.k
      rw [ek] at h4 okk
      have nx : x ≠ ("do" : Str) ∧ x ≠ ("out" : Str) := by
        rcases okk with rfl | rfl | rfl <;> exact ⟨by decide, by decide⟩
      walk_at "v"
      refine ifd (fun h => absurd (V.str.inj h) nx.1) (fun _ => ?_)
      walk_at "v"
      refine ifd (fun h => absurd (V.str.inj h) nx.2) (fun _ => ?_)
      walk_at "v"
      refine i_tupleL ef (fun t4 ht4 => ?_)
      have n4 : NewM [] H _ (whenD sd.wh) (.ref t4) := acH.tup ef ht4
      have kp7 := kz.new (o := .tup accf) ht4
      generalize upd H4 t4 (.tup accf) = H7 at n4 kp7
      walk_at "v"
      refine ⟨show 2 ≤ sizeLine by decide, fun t5 ht5 => ?_⟩
      refine k t5 _ ?_ (kp7.new ht5).same
      have es : stepD sd = .tuple [.str x, whenD sd.wh] := by unfold stepD; rw [ek]
      rw [es]
      exact (NewM.tup kp7 ht5 fun S t m => DtAll.cons (show Dt S H7 (.str x) (.str x) by unfold Dt; rfl) (DtAll.cons (n4 S t m) DtAll.nil)).toN
end Lr
set_option Elab.async false
set_option linter.all false
set_option maxRecDepth 100000
set_option maxHeartbeats 4000000
/-! Vt: try, several clauses 'except x as n'. -/
namespace L2
open PySem PySem.Spec
      PyProof.Rows
abbrev Cl := Value × Nat × (Addr → Value → Option Addr → TS)
/-- behind a clause's suite its name is gone -/
def Ends.gone (D : Ends) (i : Nat) : Ends := ⟨fun t G => D.nx (t.set i none) G, D.rt, fun t G => D.bk (t.set i none) G, fun t G => D.ct (t.set i none) G⟩
/-- what the clauses wish, one after the other -/
def wNamed (K : PySem.W.Frag) (Wout : WX) (D : Ends) : List Cl → WX
  | [] => Wout
  | z :: r => fun cls d σ H => ∃ b, PySem.W.exmOne K cls z.1 = some b ∧ (b = true → ∀ a, H a = none → z.2.2 a cls d (D.gone z.2.1) (σ.set z.2.1 (some (.ref a))) H) ∧ (b = false → wNamed K Wout D r cls d σ H)
inductive Clauses (X : Cx) : List ExceptHandler → List Cl → Prop
  | nil : Clauses X [] []
  | cons {x n : Str} {i : Nat} {c : Value} {ts : Addr → Value → Option Addr → TS} {b₀ : Stmt} {suite : List Stmt} {np pos' : Pos} {hds : List ExceptHandler} {l : List Cl} (hi : X.N[i]? = some n) (hln : X.env.kindOf n = some .local) (hc : Names X x c)
      (hsu : ∀ (a : Addr) (oe : Obj) (cls : Value) (d : Option Addr) (pn : List (Addr × Obj)), Zc cls d oe → (∃ vs, oe.data = .fields vs) → PSs (X.suite a ((a, oe) :: pn)) (b₀ :: suite) (ts a cls d)) (r : Clauses X hds l) :
      Clauses X (.ExceptHandler (some (.Name x np)) (some n) (b₀ :: suite) pos' :: hds) ((c, i, ts) :: l)
section
variable {X : Cx} {body : List Stmt} {h₀ : ExceptHandler} {hds : List ExceptHandler} {l : List Cl} {pos : Pos} {tb : WX → TS} {Wout : WX}
theorem ps_try_named (hs : X.stack = X.env :: X.outer) (hf : X.env.frame = some X.env.locals) (hN : X.N.Nodup) (tk : Takes X Wout)
    (hb : ∀ (W : WX) (pn : List (Addr × Obj)) (xe : Value → Shared → Prop), Takes (X.tr
          pn xe) W → PassesOwn (model X.prog X.w) X.A X.env xe → PSs (X.tr pn xe) body (tb W))
    (hh : Clauses X (h₀ :: hds) l) : PS X (.Try body (h₀ :: hds) [] [] pos) (fun D σ H => tb (wNamed X.K Wout D l) D σ H) := by
  refine ⟨fun pins
        s σ H D I h => ?_⟩
  have okX := I.ok
  have framesX : X.A.frames = some (X.env :: X.outer) := by rw [okX.frames, hs]
  refine wpAny_Try_except ?_
  have run := (hb (wNamed X.K Wout D l) (X.pn ++ pins) (fun e u1 => wpAny (model X.prog X.w) X.A (noteFrame e X.env) (fun _ u2 => wpAny (model X.prog X.w) X.A (setFlight e none)
    (fun _ u3 => wpAny (model X.prog X.w) X.A (handleBy e X.env (h₀ :: hds)) (SP X pins D) X.xe u3) X.xe u2) X.xe u1) (fun u z xx => ?_) PassesOwn.looking).run [] s σ H D (I.toTry _) h
  refine wpAny_mono run (fun f z q => ?_) (fun e z q => q)
  · cases f with
    | next => obtain ⟨σ', G, J, q⟩ := q; exact wpAny_execs_nil ⟨σ', G, J.ofTry okX, q⟩
    | brk => obtain ⟨σ', G, J, q⟩ := q; exact ⟨σ', G, J.ofTry okX, q⟩
    | cont => obtain ⟨σ', G, J, q⟩ := q; exact ⟨σ', G, J.ofTry okX, q⟩
    | ret u => obtain ⟨v, σ', G, J, r, q⟩ := q; exact ⟨v, σ', G, J.ofTry okX, r, q⟩
  · obtain ⟨a, B, sI, pins', σ', G, cls, d, rfl, J0, nb, up, sky, na, os, ag, w⟩ := xx
    have Jt : Inv X pins σ' G sI := J0.ofTry okX
    have skyX : Sky B (X.env :: X.outer) a (Zc cls d) X.env.locals z.heap := by rw [← hs]; exact sky
    show wpAny (model X.prog X.w) X.A
          (noteFrame (.ref a) X.env) _ _ _
    refine Sky.land Zc.steady framesX hf skyX fun g3 fly3 up3 => ?_
    have Jl : Inv X pins σ' G { z with heap := g3 } := Jt.landed nb fly3.1 (up.trans up3) os ag
    obtain ⟨oX, vX, gotX, zcX, datX⟩ := fly3.there
    have offFr : ∀ {g : Heap} {o : Obj} {vs : Array Value}, g.FunFrames B (X.env :: X.outer) → g.get? a = some o → o.data = .fields vs → a ∉ frs (X.env :: X.outer) := fun {g o vs} ff e dd hm => by
      obtain ⟨_, o2, e2, no2⟩ := ff.mem hm
      rw [e] at e2; cases e2
      exact no2 _ dd
    have noFr := offFr fly3.2.2.1 gotX datX
    have noL : a ≠ X.env.locals := fun q => noFr (List.mem_filterMap.mpr ⟨X.env, List.mem_cons_self, by rw [hf, q]⟩)
    have noF : a ∉ X.fs := fun hm => by
      obtain ⟨e, he, q⟩
            := List.mem_filterMap.mp hm
      exact noFr (List.mem_filterMap.mpr ⟨e, List.mem_cons_of_mem _ he, q⟩)
    have Sl := Jl.suite gotX datX na noL noF
    have go : ∀ {hd2 : List ExceptHandler} {l2 : List Cl}, Clauses X hd2 l2 → wNamed X.K Wout D l2 cls d σ' G → wpAny (model X.prog X.w) X.A (handleBy (.ref a) X.env hd2) (SP X pins D) X.xe { z with heap := g3 } := by
      intro hd2 l2 hk
      induction hk with
      | nil =>
        intro w
        refine wpAny_handleBy_nil ?_
        obtain ⟨k1, k2, k3, oe, vs, T, oT, tt, he, hz, hd, h1, hr⟩ := id fly3
        unfold PySem.passOn
        refine wpAny_bind
              (wpAny_field he hd h1 ?_)
        rw [if_neg (show ¬ ((Value.ref T ==
              Value.none) = true) from by simp)]
        have last : wpAny (model X.prog X.w) X.A (setFlight (.ref a) X.env.frame) (fun _ u4 => wpAny (model X.prog X.w) X.A (throw (.ref a) : Sem Flow) (SP X pins D) X.xe u4) X.xe { z with heap := g3 } := by
          rw [hf]
          refine HandSPX.setFlight_upZ fly3 fun g4 at4 up4 => wpAny_throw (tk _ _ ?_)
          exact ⟨a, B, sI, pins, σ', G, cls, d, rfl, Jt, nb, (up.trans up3).trans up4, .inr (.inr (by rw [hs]; exact at4)), na, os, ag, w⟩
        first
          | exact wpAny_bind (wpAny_pure (wpAny_bind last))
          | exact wpAny_bind last
      | @cons x n i c ts b₀ suite np pos' hd3 l3 hi hln hc hsu r ih =>
        intro w
        obtain ⟨b, hb1, yes, no⟩ := w
        refine wpAny_handleBy_cons
              (codeAny_handlers_test ?_) (by intro q; cases q)
        have LT : PySem.W.Looks (model X.prog X.w) g3 (typeOf (.ref a)) cls := fun A Q E s k q => wpAny_typeOf_ref (k _ _ gotX) (by rw [zcX.1]; exact q)
        have LM := PySem.W.exm_one (M := model X.prog X.w) (Jl.kIn) LT hb1
        have test : ∀ {Q E : Value → Shared → Prop}, Q c { z with heap := g3 } → wpAny (model X.prog X.w) (X.A.mark (some (.ref a))) (eval (.Name x np) X.env) Q E { z with heap := g3 } := fun {Q E} q => by
          obtain ⟨hg, hdbg,
                hm | ⟨hm, hv, hnn⟩⟩ := hc
          · exact ld_glob (X := X.suite a ((a, oX) :: (X.pn ++ pins))) Sl hg hm q hdbg
          · exact ld_blt (X := X.suite a ((a, oX) :: (X.pn ++ pins))) Sl hg hm hv q hnn hdbg
        refine test (LM.here ?_)
        cases b with
        | false =>
          show wpAny _ X.A (handleBy (.ref a) X.env hd3) _ _ _
          exact ih (no rfl)
        | true =>
          refine
                codeAny_handlers_suite_as ?_
          refine HandSPX.lands_againZ fly3 fun g4 fly4 up4 => ?_
          have Jl4 : Inv X pins σ' G { z with heap := g4 } := Jt.landed nb fly4.1 ((up.trans up3).trans up4) os ag
          obtain ⟨o4, v4, got4, zc4, dat4⟩ := fly4.there
          have S4 := Jl4.suite got4 dat4 na noL noF
          refine store_ok (X := X.suite a ((a, o4) :: (X.pn ++ pins))) (v := .ref a) S4 hN hi (.inl hln) rfl (fun s5 S5 => ?_) (.inr hln)
          refine wpAny_mono ((hsu a o4 cls d (X.pn ++ pins) zc4 ⟨_, dat4⟩).run [] s5 _ G _ S5 (yes rfl a na)) (fun f s6 q => ?_) (fun _ _ q => False.elim q)
          have out : ∀ {t6 : St} {G6 : Hp} {Q : Shared → Prop}, Inv (X.suite a ((a, o4) :: (X.pn ++ pins))) [] t6 G6 s6 → (∀ s7, Inv X pins (t6.set i none) G6 s7 → Q s7) →
              wpAny (model X.prog X.w) X.A (do bindName X.env n .none; unbindBehindTheSuite X.env n pos') (fun _ s7 => Q s7) X.xe s6 := fun {t6 G6 Q} S6 hq => gone_ok (S6.unsuite okX) hN hi hln hq
          cases f with
          | next => obtain ⟨t6, G6, S6, q6⟩ := q; exact out S6 fun s7 J7 => ⟨_, _, J7, q6⟩
          | brk => obtain ⟨t6, G6, S6, q6⟩ := q; exact out S6 fun s7 J7 => ⟨_, _, J7, q6⟩
          | cont => obtain ⟨t6, G6, S6, q6⟩ := q; exact out S6 fun s7 J7 => ⟨_, _, J7, q6⟩
          | ret u => obtain ⟨v6, t6, G6, S6, r6, q6⟩ := q; exact out S6 fun s7 J7 => ⟨_, _, _, J7, r6, q6⟩
    exact go hh w
end
end L2
set_option Elab.async false
set_option linter.all false
set_option maxRecDepth 100000
set_option maxHeartbeats 4000000
/-! Vu: x(lambda: body), where x's except clauses look at their own names: what an exception wishes is told at the very slots. -/
namespace LamX
open PySem PySem.Spec
      PyProof.Rows L2
section
variable {X : Cx} {pins : List (Addr × Obj)}
      {σ : L2.St} {H HZ : Hp} {s s1 : Shared}
/-- the call of what was handed -/
theorem act_at {CXg : CXT} {Eg : XK} {Ng : List Str} {qg : Str} {sg : Scope} {g f c' : Addr} {cdg pm ctv : Value} {params : Arguments} {body : Expr} {scope : Scope} {k i : Nat} {a : Str} {pn : List (Addr × Obj)} {xe : Value → Shared → Prop} {W : WX} {tb : XK → TE} {p1 p2 : Pos}
    (I : Inv X pins σ H s) (L : LamS X.env.scope scope) (hf : s.heap.get? f = some (PySem.W.kla_obj "<lambda>" (X.env.qual ++
          "<lambda>") params body scope (cloFrom X.env.cells scope.names []) pm c' ctv)) (hfn : H f = none) (hfr : f ∉ frs X.stack)
    (hbind : bindArgs (PySem.W.kla_fn "<lambda>" (X.env.qual ++ "<lambda>") params body
          scope (cloFrom X.env.cells scope.names []) pm (.ref c') ctv) ⟨[], []⟩ = pure [])
    (tk : Takes ((cxOf CXg X.prog X.w X.K X.mg X.base Ng qg sg g cdg X.A X.stack s H Eg).tr pn xe) W) (hr : Room (k + 1) (X.A.deeper (envOfC qg sg s.heap.objs.size g cdg)))
    (hbody : ∀ (A : Around) (outer : List Env) (s : Shared) (H : Hp) (E : XK), Room k (A.deeper (lamEnv X scope s.heap.objs.size f c')) → PE (lamCx X A outer s H E scope f c') body (tb E))
    (hN : Ng[i]? = some a) (hv : Vis sg a) (hd : (a == ("__debug__" : Str)) = false
          := by decide) (hcd : (a == ("__classdict__" : Str)) = false := by decide) :
    PE ((cxOf CXg X.prog X.w X.K X.mg X.base Ng qg sg g cdg
          X.A X.stack s H Eg).tr pn xe) (.Call (.Name a p1) [] [] p2)
      (fun σZ HZ Q => σZ[i]? = some (some (.ref f)) ∧ HZ c' = some (CodeO c' (X.env.qual ++ "<lambda>")) ∧ tb (fun cls d G => W cls d σZ G) σ HZ Q) := by
  refine ⟨fun pinsZ sZ
        σZ HZ Q IZ h => ?_⟩
  obtain ⟨atf, atc, ht⟩ := h
  refine wpAny_Call_Name_kw (thn ((pe_var (pos := p1) (i := i) hN hv hd hcd).run pinsZ sZ σZ HZ (fun v G => v = .ref f ∧ G = HZ) IZ ⟨.ref f, atf, rfl, rfl⟩) fun u z1 ⟨v, G1, J1, r1, q1⟩ => ?_)
  obtain ⟨ev, eG⟩ := q1
  subst ev
  rw [eG] at J1
  obtain rfl : u =
        Value.ref f := r1
  have fAt : z1.heap.get? f = some (PySem.W.kla_obj "<lambda>" (X.env.qual ++ "<lambda>") params body scope (cloFrom X.env.cells scope.names []) pm c' ctv) := J1.base.keep f _ hf hfn hfr (fun z => nomatch (show f ∈ ([] : List Addr) from z))
  refine PySem.W.callWith_F0 ⟨_, _, _, _, fAt⟩ ?_
  have unZ : Un (frs X.stack) [] H HZ s.heap z1.heap := J1.base
  obtain ⟨⟨oc, vs, t, hoc, hdc, hvc⟩, _, _⟩ := J1.hok c' _ atc
  have rc : codeAny (model X.prog X.w) (X.A.deeper (envOfC qg sg s.heap.objs.size g cdg)) (.call (.ref f) ⟨[], []⟩)
      (CR (L2.CX X.prog X.w) (envOfC qg sg s.heap.objs.size g cdg :: X.stack) X.prog X.w HZ z1 Q (fun cls d G => W cls d σZ G)) z1 := by
    refine PySem.W.kla_callFunE hr.depth fAt rfl L.co L.gen rfl ⟨c', oc, vs, t, rfl, hoc, hdc, hvc⟩ ?_
    rw [hbind]
    refine wpAny_pure (wpAny_newFunctionEnv (fun y hy => (L.own y hy).2) (fun y hy => absurd hy (by simp)) (fun g1 hns hsb => ⟨J1.nolimit.fresh _ hsb, ?_⟩) L.kind)
    show codeAny _ _ (.expr body (lamEnv X scope z1.heap.objs.size f c')) _ _
    have kept : ∀ b o, z1.heap.get? b = some o → g1.get? b = some o := fun b o e =>
      hsb.extBut b o (Nat.ne_of_lt (Heap.lt_size e)) (Heap.get?_push_of_some _ e)
    have J : Inv (lamCx X (X.A.deeper (envOfC qg sg s.heap.objs.size g cdg)) (envOfC qg sg s.heap.objs.size g cdg :: X.stack) z1 HZ (fun cls d G => W cls d σZ G) scope f c') [] σ HZ { z1 with heap := g1, toks := z1.toks + ([] : List (Str × Value)).length } :=
      lam_start2 I L J1.env0 hr.hd unZ hns kept
    refine PySem.W.kla_codeExpr (wpAny_mono ((hbody _ _ z1 HZ _ (hr.deeper _)).run [] _ _ HZ Q J ht) (fun v z2 hq => ?_) fun e z2 hq => hq)
    obtain ⟨w', G', J', rv, q⟩ := hq
    exact ⟨w', G', J'.os, J'.bare, J'.base, J'.hok, rv, q⟩
  have out := passAt tk σZ
  refine wpAny_call (codeAny_mono rc fun r z2 hq => ?_)
  cases r with
  | error e => exact out pinsZ HZ z1 e z2 J1 hq
  | ok fl =>
    cases fl with
    | ret u => exact J1.after hq
    | next => exact False.elim hq
    | brk => exact False.elim hq
    | cont => exact False.elim hq
end
/-- the def that calls what it got; TT: what it makes of the lambda's reading -/
def GivesAt (X : Cx) (Ng : List Str) (x : Str) (sg : Scope) (g : Addr) (cdg : Value) (bg : List Stmt) (a : Str) (q : Str) (TT : (XK → Hp → VK → Prop) → Hp → VK → Prop) : Prop :=
  ∀ (f c' : Addr) (s : Shared) (H : Hp)
        (Q : VK) (tl : XK → Hp → VK → Prop),
    (∀ (W : WX) (pn : List (Addr × Obj)) (xe : Value → Shared → Prop) (p1 p2 : Pos), Takes ((cxOf C8.CX0 X.prog X.w X.K X.mg X.base Ng x sg g cdg X.A X.stack s H C8.E0).tr pn xe) W →
      PE ((cxOf C8.CX0 X.prog X.w X.K X.mg X.base Ng x sg g cdg X.A X.stack s H C8.E0).tr pn xe) (.Call (.Name a p1) [] [] p2) (fun σZ HZ Q => σZ[0]? = some (some (.ref f)) ∧ HZ c' = some (CodeO c' q) ∧ tl (fun cls d G => W cls d σZ G) HZ Q)) →
    H c' = some (CodeO
          c' q) → TT tl H Q →
    ∃ t, PSs (cxOf C8.CX0 X.prog X.w X.K X.mg X.base Ng x sg g cdg X.A X.stack s H
          C8.E0).nox bg t ∧ t { nx := fun _ H' => Q .non H', rt := Q } (L2.start Ng [.ref f]) H
section
variable {X : Cx}
theorem pe_lamAt {T : List (Addr × Str)} {TT : (XK → Hp → VK → Prop) → Hp → VK → Prop} {x a : Str} {g c P : Addr} {k : Nat} {pg : Arguments} {bg : List Stmt} {sg : Scope} {dV kV doc pm cdv ct oc : Value} {an od : Option Addr} {osl : Array (Option Value)} {Ng : List Str}
    {params : Arguments} {body : Expr} {scope : Scope} {t : XK → TE} {p lpos pos : Pos}
          (hg : Gl X x) (hm : X.mg x = some (.ref g)) (hk : PySem.W.keepIn X.K (.ref g) = true)
    (lk : X.K.lookup g = some ⟨oc, od, .func (PySem.W.fnOf x x pg bg sg dV kV doc pm an cdv ct), osl⟩) (hcg : PySem.W.codeIn X.K cdv x = true) (hb
          : L2.Binds X.K (PySem.W.fnOf x x pg bg sg dV kV doc pm an cdv ct) [a] []) (Sg : FnScope Ng [a] sg) (hNg : Ng[0]? = some a) (hva : Vis sg a)
    (hG : GivesAt X Ng x sg g cdv bg a (X.env.qual ++ "<lambda>") TT)
    (TB : TabB X.base X.mg c P) (hcode : X.env.code = .ref c) (hmT : (P, X.env.qual ++ "<lambda>") ∈ T) (hu : ∀ p ∈ T, p.1 = P →
          p.2 = X.env.qual ++ "<lambda>") (hr : Room (k + 2) X.A) (L : LamS X.env.scope scope) (hdef : defaultsOf params X.env = ([], []))
    (hbind : ∀ (q : Str) (cl : List (Str × Addr)) (pm cv ctv : Value), bindArgs
          (PySem.W.kla_fn "<lambda>" q params body scope cl pm cv ctv) ⟨[], []⟩ = pure [])
    (hbody : ∀ (A : Around) (outer : List Env) (s : Shared) (H : Hp) (E : XK) (f c' : Addr), Room k
          (A.deeper (lamEnv X scope s.heap.objs.size f c')) → PE (lamCx X A outer s H E scope f c') body (t E))
    (hdb : (x == ("__debug__" : Str)) = false := by decide) (hd : (a == ("__debug__" : Str))
          = false := by decide) (hcd : (a == ("__classdict__" : Str)) = false := by decide) :
    PE X (.Call (.Name x p) [.Lambda params body
          scope lpos] [] pos) (tLam T TT t) := by
  refine ⟨fun pins
        s σ H Q I h => ?_⟩
  obtain ⟨tabs, h⟩ := h
  refine wpAny_Call_Name_kw
        (ld_glob I hg hm ?_ hdb)
  refine PySem.W.callWith_K (h₀ := X.base)
        I.ok.mod.kin hk ?_ (by rfl) (by rfl)
  show wpAny _ _ (spliced ((false, eval (.Lambda params body
        scope lpos) X.env) :: backTo pos (starEach [] X.env))) _ _ s
  refine Calls.spliced_cons (lam_make2 I TB hcode hmT hu tabs hdef (L.has I.ok) fun f c' pm' ctv G1 z J1 eN tabs1 hf hfn hfr hco => ?_)
  refine Calls.spliced_nil ⟨J1.kIn, ?_⟩
  have rc : codeAny (model X.prog X.w) X.A (.call (.ref g) ⟨[.ref f], []⟩) (CR C8.CX0 X.stack X.prog X.w G1 z Q C8.E0) z := by
    refine run_ofS (N := Ng) (ps := [a]) (us := [.ref f]) (vs := [.ref f]) lk hcg Sg hr J1.env0 (hb z [.ref f] J1.kIn rfl) (.cons rfl .nil) rfl fun room => ?_
    obtain ⟨t2, ht2, hq2⟩ := hG f c' z G1 Q (fun E G Q' => t E σ G Q') (fun W pn xe p1 p2 tk => act_at (i := 0) J1 L hf hfn hfr (hbind _ _ _ _ _) tk room (fun A outer s H E room2 => hbody A outer s H E f c' room2) hNg hva hd hcd) hco (h G1 eN tabs1)
    exact ⟨t2, ht2.nox, hq2⟩
  refine wpAny_call (codeAny_mono rc fun r z2 hq => ?_)
  cases r with
  | error e => exact (show
        False from hq).elim
  | ok fl =>
    cases fl with
    | ret u => exact J1.after hq
    | next => exact False.elim hq
    | brk => exact False.elim hq
    | cont => exact False.elim hq
end
end LamX
set_option Elab.async false
set_option linter.all false
set_option maxRecDepth 100000
set_option maxHeartbeats 4000000
/-! Vq: promises weakened and put together. -/
namespace Lr
open PySem PySem.Spec PyProof.Rows L2 TL
variable {P : Program} {w : World} {K :
      PySem.W.Frag} {mg : Str → Option Value} {base : Heap}
theorem FnOk.quiet {k : Nat} {f : Addr} {fd : FuncData} {ps : List Str} {sp : Sp} (F : FnOk P w K mg base (L2.CX P w) k f fd ps sp) : FnOk P w K mg base CX0 k f fd ps (fun vs H Q _ => sp vs H Q (fun _ _ _ => False)) := by
  refine ⟨fun vs H Q E h => F.len vs H Q _ h, fun A outer s H args us vs Q E hr he hb hv h => ?_⟩
  refine codeAny_mono (F.run A outer s H args us vs Q _ hr he hb hv h) fun r s' q => ?_
  cases r with
  | ok fl =>
    cases fl with
    | ret u => exact q
    | next => exact q
    | brk => exact q
    | cont => exact q
  | error e =>
    obtain ⟨_, _, _, _, _, _, _, _, _, _, _, _, z⟩ := q
    exact z.elim
theorem FnOk.or {CX : CXT} {k : Nat} {f : Addr} {fd : FuncData} {ps : List Str} {sp sp' : Sp} (F : FnOk P w K mg base CX k f fd ps sp) (G : FnOk P w K mg base CX k f fd ps sp') : FnOk P w K mg base CX k f fd ps (fun vs H Q E => sp vs H Q E ∨ sp' vs H Q E) :=
  ⟨fun vs H Q E h => h.elim (F.len vs H Q E) (G.len vs H Q E), fun A outer s H args us vs Q E hr he hb hv h => h.elim (F.run A outer s H args us vs Q E hr he hb hv) (G.run A outer s H args us vs Q E hr he hb hv)⟩
end Lr
set_option Elab.async false
set_option linter.all false
set_option maxRecDepth 100000
set_option maxHeartbeats 4000000
namespace Lr
open PySem PySem.Spec PyProof.Rows L2 TL
open C8 (InsC call_isC)
local macro_rules | `(tactic| walk_at "ne") => `(tactic| (first | assumption | (refine ne_sym ?_; assumption) | (exact ne_of_none (by assumption) (by assumption)) | (exact ne_sym (ne_of_none (by assumption) (by assumption)))))
local macro_rules | `(tactic| walk_at "h") => `(tactic| (first | assumption | exact upd_same | (refine h_new ?_ (by assumption); walk_at "h") | (refine h_ne (by walk_at "ne") ?_; walk_at "h")))
local macro_rules | `(tactic| walk_at "v1") => `(tactic| (with_reducible first
  | refine i_seq ?_ | refine i_asg ?_ | refine i_ret ?_ | refine i_next ?_ | refine i_drop ?_ | refine i_ifS ?_ | refine i_if ?_ | refine i_and ?_ | refine i_or ?_ | refine i_not ?_ | refine i_test ?_ | refine i_tB ?_ | refine i_bl ?_ | refine i_yes ?_
  | refine i_op ?_ | refine i_un ?_ | refine i_chain ?_ | refine i_andV ?_ | refine i_orV ?_ | refine i_notV ?_ | refine i_cb ?_ | refine i_cons ?_ | refine i_nil ?_ | refine i_bm ?_ | refine i_bm0 ?_ | refine i_c ?_ | refine i_name ?_ | refine i_sub ?_
  | refine i_call ?_ | refine i_lst ?_ | refine i_tup ?_ | refine i_par ?_ | refine i_par2 ?_ | refine i_sl ?_ | refine i_np ?_ | refine i_pt ?_ | refine i_int ?_ | refine i_m0 ?_ | refine i_m1 ?_ | refine i_isS ?_
  | refine i_rI0 ?_ | refine i_inSign ?_ | refine i_notInSign ?_ | refine i_int1 ?_ | refine i_tru ?_ | refine i_isN ?_ | refine i_notN ?_ | refine iteT ?_ | refine iteF ?_ | refine i_brk ?_ | refine i_rt ?_ | refine i_nx ?_ | refine i_bk ?_ | refine i_ct ?_ | refine i_for ?_ | refine i_lc ?_ | refine i_dc ?_ | refine i_iL ?_ | refine i_iT ?_ | refine i_iR1 ?_ | refine i_iR2 ?_ | refine i_iS ?_ | refine i_iE ?_ | refine i_iEK ?_ | refine i_iEQ ?_ | refine i_iZS ?_ | refine i_dget ?_ | refine i_fld ?_ | refine i_sfld ?_ | refine i_dput ?_ | refine i_meth ?_ | refine i_rU ?_ | refine i_cont ?_ | refine i_make ?_))
local macro_rules | `(tactic| walk_at "v2") => `(tactic| (first
  | ((with_reducible refine' i_var ?k1 ?_); (case k1 => exact rfl))
  | ((with_reducible refine' i_eq ?k1 ?_); (case k1 => exact rfl))
  | ((with_reducible refine' i_ne ?k1 ?_); (case k1 => exact rfl))
  | ((with_reducible refine' i_ixL ?k1 ?k2 ?_); (case k1 => walk_at "h"); (case k2 => exact rfl))
  | ((with_reducible refine' i_ixT ?k1 ?k2 ?_); (case k1 => walk_at "h"); (case k2 => exact rfl))
  | ((with_reducible refine' i_lenL ?k1 ?_); (case k1 => walk_at "h"))
  | ((with_reducible refine' i_lenT ?k1 ?_); (case k1 => walk_at "h"))
  | (refine i_wipe (show wipe _ _ = wipe _ _ from rfl) ?_)
  | ((with_reducible refine' i_setL ?k1 ?k2 ?_); (case k1 => walk_at "h"); (case k2 => exact rfl))
  | ((with_reducible refine' i_tyl ?k1 ?_); (case k1 => walk_at "h"))))
local macro_rules | `(tactic| walk_at "v") => `(tactic| repeat (first | walk_at "v1" | walk_at "v2"))

variable {P : Program} {w : World} {K :
      PySem.W.Frag} {mg : Str → Option Value} {base : Heap}
abbrev s_law_nis_read : Stmt := top 55
abbrev N_law_nis_read : List Str := ["text", "lines", "pages", "made", "line"]
abbrev P_law_nis_read : List Str := ["text"]
theorem sc_law_nis_read : FnScope N_law_nis_read P_law_nis_read (defScope s_law_nis_read) := ⟨rfl, rfl, rfl, by decide +kernel, rfl, by decide +kernel, by decide +kernel⟩
abbrev FdReadRule (K : PySem.W.Frag) (mg : Str → Option Value) := Fd K mg "read_rule" sread_rule Pread_rule
abbrev FdNStepIn (K : PySem.W.Frag) (mg : Str → Option Value) := Fd K mg "_law_nstep_in" s_law_nstep_in P_law_nstep_in
abbrev FdSame (K : PySem.W.Frag) (mg : Str → Option Value) := Fd K mg "_law_same" s_law_same P_law_same
theorem fit_lotT {k : Nat} {l : List Str} (h : l.length ≤ 1000) : Fit (k + 2) (lotT l) := fit_strsT h
theorem fit_stepD {pg : List Str} (po : PgOk pg) {s : Sd} (ok : s.Ok pg) (h : s.wh.length ≤ 1000) : Fit 6 (stepD s) := by
  have l3 := po.most
  rw [stepD_eq]
  have lm := mids_len s.k
  refine ⟨by simp; omega, fun d hd => ?_⟩
  simp only [List.mem_cons, List.mem_append, List.mem_map, List.not_mem_nil, or_false] at hd
  rcases hd with rfl | ⟨l, hl, rfl⟩ | rfl
  · trivial
  · obtain ⟨i, hi⟩ := List.mem_iff_getElem?.mp hl
    exact fit_lotT (k := 3) (by have := Nat.le_trans (ok.k.mid hi).length_le l3; omega)
  · refine ⟨by rw [List.length_map]; exact h, fun d hd => ?_⟩
    obtain ⟨t, ht, rfl⟩ := List.mem_map.mp hd
    have tok := ok.w t ht
    refine ⟨by simp, fun d hd => ?_⟩
    simp only [List.mem_cons, List.not_mem_nil, or_false] at hd
    rcases hd with rfl | rfl | rfl
    · exact fit_lotT (k := 1) (by have := Nat.le_trans tok.c.length_le l3; omega)
    · exact fit_lotT (k := 1) (by have := Nat.le_trans tok.f.length_le l3; omega)
    · exact fit_lotT (k := 1) (by have := Nat.le_trans tok.s.length_le l3; omega)
theorem fit_rule {R : RG} (ok : R.Ok) (h : ∀ s ∈ R.steps, s.wh.length ≤ 1000) : Fit 8 (ruleD R) := by
  have l3 := ok.pg.most
  have l8 := ok.most
  refine ⟨by simp, fun d hd => ?_⟩
  simp only [List.mem_cons, List.not_mem_nil, or_false] at hd
  rcases hd with rfl | rfl
  · exact fit_strs (k := 5) (by omega)
  · refine ⟨by rw [List.length_map]; omega, fun d hd => ?_⟩
    obtain ⟨s, hs, rfl⟩ := List.mem_map.mp hd
    exact fit_stepD ok.pg (ok.st s hs) (h s hs)
def spNIsRead : Sp := fun vs H Q _ => ∃ (z : Str), vs = [.str z] ∧ z.length ≤ 10000 ∧ (∀ x ∈ lines z, (words x).length ≤ 64) ∧ faultR z = none ∧ ∀ H', Same H H' → Q (.bl true) H'
theorem ok_nisread {C : Addr} (D : RDefs K mg C) (d : Fd K mg "_law_nis_read" s_law_nis_read P_law_nis_read) (dread_rule : FdReadRule K mg) (dRule_pages : MdPages K C) (dRule_steps : MdSteps K C) (d_law_nstep_in : FdNStepIn K mg) (d_law_nsplit : FdNSplit K mg) (d_law_same : FdSame K mg) : FnOk P w K mg base CX0 9 d.f d.fd P_law_nis_read spNIsRead := by
  have Gread_rule : FnOk P w K mg base CX0 8 dread_rule.f dread_rule.fd Pread_rule (fun vs H Q _ => spReadRule C D.ex.C vs H Q (fun _ _ _ => False)) := FnOk.quiet (ok_readrule D dread_rule)
  have cRule := D.cls
  have B := D.B
  have GRule_pages : FnOk P w K mg base CX0 1 dRule_pages.f dRule_pages.fd PRule_pages (spRPages C) := ok_rpages cRule dRule_pages B
  have GRule_steps : FnOk P w K mg base CX0 1 dRule_steps.f dRule_steps.fd PRule_steps (spRSteps C) := ok_rsteps cRule dRule_steps B
  have G_law_nstep_in : FnOk P w K mg base CX0 2 d_law_nstep_in.f d_law_nstep_in.fd P_law_nstep_in spNStepIn := ok_nstepin d_law_nstep_in d_law_nsplit B
  have G_law_same : FnOk P w K mg base CX0 8 d_law_same.f d_law_same.fd P_law_same (spSame 8) := ok_same d_law_same B.toBlt 8
  refine d.F.ok sc_law_nis_read (fun vs H Q E h => ?_) (fun cdv A outer s H vs Q E hr h => ?_)
  · obtain ⟨z, rfl, _⟩ := h
    rfl
  · obtain ⟨z, rfl, lz, lw, ef, k⟩ := h
    refine ⟨_, (pss_cons (ps_set (i := 1) sc_law_nis_read.nd rfl (by first | exact Or.inl rfl | exact Or.inr rfl) (pe_slice (s_list K) (pe_m1 PySem.F.slot_str_split PySem.F.type_str_split m_split (pv 0) pe_str) po_none (po_some (pe_un un_neg pe_int))))
      (pss_cons (ps_asg (pe_tup (pa_cons (pe_slice (s_list K) (pe_m1 PySem.F.slot_str_split PySem.F.type_str_split m_split (pe_ix (x_list K) (pv 1) pe_int (fun _ _ => rfl)) pe_str) (po_some pe_int) po_none) (pa_cons (pe_call Gread_rule (hr.mono (by decide)) (by rfl) dread_rule.g dread_rule.F.kp dread_rule.b .nil pass0 (pa_cons (pv 0) pa_nil)) pa_nil))) (g_tup K (n := 2) rfl (pgs_cons (pg_name (i := 2) sc_law_nis_read.nd rfl (by first | exact Or.inl rfl | exact Or.inr rfl)) (pgs_cons (pg_name (i := 3) sc_law_nis_read.nd rfl (by first | exact Or.inl rfl | exact Or.inr rfl)) pgs_nil))))
      (pss_one (ps_ret (pe_call G_law_same (hr.mono (by decide)) (by rfl) d_law_same.g d_law_same.F.kp d_law_same.b .nil pass0 (pa_cons (pe_lst (pa_cons (pe_meth0 (pv 3) cRule.cl dRule_pages.m GRule_pages (hr.mono (by decide)) dRule_pages.b .nil pass0) (pa_cons (pe_meth0 (pv 3) cRule.cl dRule_steps.m GRule_steps (hr.mono (by decide)) dRule_steps.b .nil pass0) pa_nil))) (pa_cons (pe_lst (pa_cons (pv 2) (pa_cons (pe_lc (own := [("line", 4)]) (g := gName 4) (tt := tYes) rfl sc_law_nis_read.nd (w_list K (pe_slice (s_list K) (pv 1) (po_some pe_int) po_none)) (blkOk_by (own := [("line", 4)]) (N := N_law_nis_read) (sc := defScope s_law_nis_read) (by decide +kernel)) (fun _ _ _ _ _ => by exact (pg_name (i := 4) sc_law_nis_read.nd rfl (by first | exact Or.inl rfl | exact Or.inr rfl))) (fun _ _ _ _ _ => pts_nil) (fun _ _ _ _ _ => by exact (pe_call G_law_nstep_in (hr.mono (by decide)) (by rfl) d_law_nstep_in.g d_law_nstep_in.F.kp d_law_nstep_in.b .nil pass0 (pa_cons (pv 4) (pa_cons (pv 2) pa_nil))))) pa_nil))) pa_nil))))))), ?_⟩
    obtain ⟨R, ok, eln, et, _⟩ := text_toldR ef
    have lsz : ∀ x ∈ lines z, x.length ≤ 10000 := fun x hx => Nat.le_trans (len_sum_split tl_nln (by decide) x hx) lz
    have m0 : lineW (sPG :: R.pages) ∈ lines z := by rw [eln]; simp [linesR]
    have wh64 : ∀ s ∈ R.steps, lineW (stepW s) ∈ lines z ∧ s.wh.length ≤ 64 := fun s hs => by
      have mz : lineW (stepW s) ∈ lines z := by rw [eln]; simp only [linesR, List.mem_append, List.mem_cons, List.mem_map]; exact .inl (.inr ⟨s, hs, rfl⟩)
      have h1 := lw _ mz
      rw [words_step ok.pg (ok.st s hs)] at h1
      have h2 := whenW_ge s.wh
      simp only [stepW, List.length_append, List.length_cons] at h1
      exact ⟨mz, by omega⟩
    walk_at "v"
    refine i_split (by decide +kernel) (Nat.le_trans (Nat.add_le_add_right lz 2) (by decide)) (fun p hp => ?_)
    rw [show Txt.split z (Str.ofString "\n") = linesR R ++ [("" : Str)] from eln, List.map_append]
    have s1 : Same H (upd H p (.lst ((linesR R).map V.str ++ [("" : Str)].map V.str))) := (Same.refl H).new hp
    have h1 : upd H p (.lst ((linesR R).map V.str ++ [("" : Str)].map V.str)) p = some (.lst ((linesR R).map V.str ++ [.str ("" : Str)])) := upd_same
    generalize upd H p (.lst ((linesR R).map V.str ++ [("" : Str)].map V.str)) = H1 at s1 h1
    walk_at "v"
    refine ⟨p, _, rfl, SqL.of h1, fun q hq => ?_⟩
    rw [cut_last]
    have s2 : Same H (upd H1 q (.lst ((linesR R).map V.str))) := s1.new hq
    have h2 : upd H1 q (.lst ((linesR R).map V.str)) q = some (.lst (.str (lineW (sPG :: R.pages)) :: (R.steps.map fun s => lineW (stepW s)).map V.str)) := upd_same
    generalize upd H1 q (.lst ((linesR R).map V.str)) = H2 at s2 h2
    walk_at "v"
    refine i_ixL h2 (atI_nat (j := 0) rfl) ?_
    refine ⟨⟨_, rfl⟩, ?_⟩
    walk_at "v"
    have lp := lsz _ m0
    refine i_split (by decide +kernel) (Nat.le_trans (Nat.add_le_add_right lp 2) (by decide)) (fun p3 hp3 => ?_)
    rw [show Txt.split (lineW (sPG :: R.pages)) (Str.ofString " ") = sPG :: R.pages from words_pages ok.pg]
    have s3 : Same H2 (upd H2 p3 (.lst ((sPG :: R.pages).map V.str))) := (Same.refl _).new hp3
    have h3 : upd H2 p3 (.lst ((sPG :: R.pages).map V.str)) p3 = some (.lst (.str sPG :: R.pages.map V.str)) := upd_same
    generalize upd H2 p3 (.lst ((sPG :: R.pages).map V.str)) = H3 at s3 h3
    walk_at "v"
    refine ⟨p3, _, rfl, SqL.of h3, fun N hN => ?_⟩
    rw [cut_drop1']
    have s4 : Same H3 (upd H3 N (.lst (R.pages.map V.str))) := (Same.refl _).new hN
    have h4 : upd H3 N (.lst (R.pages.map V.str)) N = some (.lst (R.pages.map V.str)) := upd_same
    generalize upd H3 N (.lst (R.pages.map V.str)) = H4 at s4 h4
    have s04 := s2.trans (s3.trans s4)
    walk_at "v"
    refine ⟨[], .str z, .str z, rfl, by unfold Dt; rfl, fun z' e => ?_, fun z' e _ => ?_, fun z' n e en => ?_, fun e => by cases e⟩
    · cases e; exact ⟨lz, lw⟩
    · cases e
      refine ⟨R, ok, et, fun p5 H5 ra s5 => ?_⟩
      have ra' := ra [] trk_nil
      have s05 := s04.trans s5
      walk_at "v"
      refine ⟨show 2 ≤ sizeLine by decide, fun T hT => ?_⟩
      refine g_two upd_same ?_
      have s6 : Same H5 (upd H5 T (.tup [.ref N, .ref p5])) := (Same.refl _).new hT
      generalize upd H5 T (.tup [.ref N, .ref p5]) = H6 at s6
      have ra6 := ra'.same s6
      have h46 := s6 _ _ (s5 _ _ h4)
      have s06 := s05.trans s6
      have h26 : H6 q = _ := s6 _ _ (s5 _ _ ((s3.trans s4) _ _ h2))
      obtain ⟨_, dx, tn, lr, hp6, _, _⟩ := id ra6
      walk_at "v"
      refine ⟨p5, dx, _, rfl, hp6, ruleF_none _ _ (by decide) (by decide), ?_⟩
      refine ⟨p5, R, rfl, ra6, fun q7 H7 n7 s7 => ?_⟩
      have d7 : Dt [] H7 (lstS R.pages) (.ref q7) := n7 [] trk_nil
      have ra7 := ra6.same s7
      have hp7 := s7 _ _ hp6
      walk_at "v"
      refine ⟨p5, dx, _, rfl, hp7, ruleF_none _ _ (by decide) (by decide), ?_⟩
      refine ⟨p5, R, rfl, ra7, fun q8 H8 d8 s8 => ?_⟩
      walk_at "v"
      refine ⟨show 2 ≤ sizeLine by decide, fun F hF => ?_⟩
      have s9 : Same H8 (upd H8 F (.lst [.ref q7, .ref q8])) := (Same.refl _).new hF
      have h9 : upd H8 F (.lst [.ref q7, .ref q8]) F = some (.lst [.ref q7, .ref q8]) := upd_same
      generalize upd H8 F (.lst [.ref q7, .ref q8]) = H9 at s9 h9
      have s69 : Same H6 H9 := s7.trans (s8.trans s9)
      have h29 := s69 _ _ h26
      have h49 := s69 _ _ h46
      have dF : Dt [] H9 (ruleD R) (.ref F) := dt_list h9 (DtAll.cons (d7.same (s8.trans s9)) (DtAll.cons (d8.same s9) DtAll.nil)) (by simp)
      walk_at "v"
      refine ⟨q, _, rfl, SqL.of h29, fun p10 hp10 => ?_⟩
      rw [cut_drop1']
      have s10 : Same H9 (upd H9 p10 (.lst ((R.steps.map fun s => lineW (stepW s)).map V.str))) := (Same.refl _).new hp10
      have h10 : upd H9 p10 (.lst ((R.steps.map fun s => lineW (stepW s)).map V.str)) p10 = some (.lst ((R.steps.map fun s => lineW (stepW s)).map V.str)) := upd_same
      generalize upd H9 p10 (.lst ((R.steps.map fun s => lineW (stepW s)).map V.str)) = H10 at s10 h10
      refine w_lst h10 ?_
      have h8 := ok.most
      refine lc_by (walk_list (xs := (R.steps.map fun s => lineW (stepW s)).map V.str)) fun D1 hD1 => ⟨fun i H' => Acc [] H10 H' D1 ((R.steps.take i).map stepD), Acc.start (Keep.refl _ _) hD1, fun i H' _ ac => SqL.of (ac.kp.same _ _ h10), ?_, ?_⟩
      · rintro i x Ha Hb hi ac ⟨rfl, hx⟩
        rw [List.getElem?_map, List.getElem?_map] at hx
        obtain ⟨y, hy, rfl⟩ := Option.map_eq_some_iff.mp hx
        obtain ⟨si, hsi, rfl⟩ := Option.map_eq_some_iff.mp hy
        have ms := List.mem_of_getElem? hsi
        obtain ⟨mz, _⟩ := wh64 si ms
        have ews := words_step ok.pg (ok.st si ms)
        walk_at "v"
        refine ⟨_, .ref N, R.pages, si, rfl, lsz _ mz, ews, lw _ mz, ok.pg, ok.st si ms, fun qn Hc nn sc => ?_⟩
        obtain ⟨acc, ea, la, _⟩ := id ac.ex
        obtain ⟨e8, ac8⟩ := ac.step trk_nil ea nn.toM (Keep.of_same sc)
        refine ⟨acc, e8, by rw [la, List.length_map, List.length_take]; exact small1000 (by omega), ?_⟩
        show Acc [] H10 _ D1 ((R.steps.take (i + 1)).map stepD)
        rw [List.take_succ, hsi, List.map_append]
        exact ac8
      · rintro Ha ac
        rw [show ((R.steps.map fun s => lineW (stepW s)).map V.str).length = R.steps.length by simp, List.take_length] at ac
        have sa := ac.kp.same
        have dn : Dt [] Ha (stepsD R.steps) (.ref D1) := ac.done [] trk_nil (fun _ h => nomatch h)
        walk_at "v"
        refine ⟨show 2 ≤ sizeLine by decide, fun G hG => ?_⟩
        have sb : Same Ha (upd Ha G (.lst [.ref N, .ref D1])) := (Same.refl _).new hG
        have hg : upd Ha G (.lst [.ref N, .ref D1]) G = some (.lst [.ref N, .ref D1]) := upd_same
        generalize upd Ha G (.lst [.ref N, .ref D1]) = Hb at sb hg
        have s9b : Same H9 Hb := s10.trans (sa.trans sb)
        have dG : Dt [] Hb (ruleD R) (.ref G) := dt_list hg (DtAll.cons (dt_strs (s9b _ _ h49)) (DtAll.cons (dn.same sb) DtAll.nil)) (by simp)
        walk_at "v"
        exact ⟨[], [], ruleD R, .ref F, .ref G, rfl, dF.same s9b, dG, fit_rule ok (fun s hs => by have := (wh64 s hs).2; omega), fun H' s' => k H' (s06.trans (s69.trans (s9b.trans s')))⟩
    · cases e; rw [ef] at en; cases en
end Lr
set_option Elab.async false
set_option linter.all false
set_option maxRecDepth 100000
set_option maxHeartbeats 4000000
namespace Lr
open PySem PySem.Spec PyProof.Rows L2 TL
local macro_rules | `(tactic| walk_at "ne") => `(tactic| (first | assumption | (refine ne_sym ?_; assumption) | (exact ne_of_none (by assumption) (by assumption)) | (exact ne_sym (ne_of_none (by assumption) (by assumption)))))
local macro_rules | `(tactic| walk_at "h") => `(tactic| (first | assumption | exact upd_same | (refine h_new ?_ (by assumption); walk_at "h") | (refine h_ne (by walk_at "ne") ?_; walk_at "h")))
local macro_rules | `(tactic| walk_at "v1") => `(tactic| (with_reducible first
  | refine i_seq ?_ | refine i_asg ?_ | refine i_ret ?_ | refine i_next ?_ | refine i_drop ?_ | refine i_ifS ?_ | refine i_if ?_ | refine i_and ?_ | refine i_or ?_ | refine i_not ?_ | refine i_test ?_ | refine i_tB ?_ | refine i_bl ?_ | refine i_yes ?_
  | refine i_op ?_ | refine i_un ?_ | refine i_chain ?_ | refine i_andV ?_ | refine i_orV ?_ | refine i_notV ?_ | refine i_cb ?_ | refine i_cons ?_ | refine i_nil ?_ | refine i_bm ?_ | refine i_bm0 ?_ | refine i_c ?_ | refine i_name ?_ | refine i_sub ?_
  | refine i_call ?_ | refine i_lst ?_ | refine i_tup ?_ | refine i_par ?_ | refine i_par2 ?_ | refine i_sl ?_ | refine i_np ?_ | refine i_pt ?_ | refine i_int ?_ | refine i_m0 ?_ | refine i_m1 ?_ | refine i_isS ?_
  | refine i_rI0 ?_ | refine i_inSign ?_ | refine i_notInSign ?_ | refine i_int1 ?_ | refine i_tru ?_ | refine i_isN ?_ | refine i_notN ?_ | refine iteT ?_ | refine iteF ?_ | refine i_brk ?_ | refine i_rt ?_ | refine i_nx ?_ | refine i_bk ?_ | refine i_ct ?_ | refine i_for ?_ | refine i_lc ?_ | refine i_dc ?_ | refine i_iL ?_ | refine i_iT ?_ | refine i_iR1 ?_ | refine i_iR2 ?_ | refine i_iS ?_ | refine i_iE ?_ | refine i_iEK ?_ | refine i_iEQ ?_ | refine i_iZS ?_ | refine i_dget ?_ | refine i_fld ?_ | refine i_sfld ?_ | refine i_dput ?_ | refine i_meth ?_ | refine i_rU ?_ | refine i_cont ?_ | refine i_make ?_))
local macro_rules | `(tactic| walk_at "v2") => `(tactic| (first
  | ((with_reducible refine' i_var ?k1 ?_); (case k1 => exact rfl))
  | ((with_reducible refine' i_eq ?k1 ?_); (case k1 => exact rfl))
  | ((with_reducible refine' i_ne ?k1 ?_); (case k1 => exact rfl))
  | ((with_reducible refine' i_ixL ?k1 ?k2 ?_); (case k1 => walk_at "h"); (case k2 => exact rfl))
  | ((with_reducible refine' i_ixT ?k1 ?k2 ?_); (case k1 => walk_at "h"); (case k2 => exact rfl))
  | ((with_reducible refine' i_lenL ?k1 ?_); (case k1 => walk_at "h"))
  | ((with_reducible refine' i_lenT ?k1 ?_); (case k1 => walk_at "h"))
  | (refine i_wipe (show wipe _ _ = wipe _ _ from rfl) ?_)
  | ((with_reducible refine' i_setL ?k1 ?k2 ?_); (case k1 => walk_at "h"); (case k2 => exact rfl))
  | ((with_reducible refine' i_tyl ?k1 ?_); (case k1 => walk_at "h"))))
local macro_rules | `(tactic| walk_at "v") => `(tactic| repeat (first | walk_at "v1" | walk_at "v2"))

variable {P : Program} {w : World} {K :
      PySem.W.Frag} {mg : Str → Option Value} {base : Heap}
abbrev s_law_nfault : Stmt := top 57
abbrev N_law_nfault : List Str := ["text", "lines", "pages", "at", "line", "words", "good", "page"]
abbrev P_law_nfault : List Str := ["text"]
theorem sc_law_nfault : FnScope N_law_nfault P_law_nfault (defScope s_law_nfault) := ⟨rfl, rfl, rfl, by decide +kernel, rfl, by decide +kernel, by decide +kernel⟩
abbrev FdNameFits (K : PySem.W.Frag) (mg : Str → Option Value) := Fd K mg "_law_nname_fits" s_law_nname_fits P_law_nname_fits
abbrev FdStepFits (K : PySem.W.Frag) (mg : Str → Option Value) := Fd K mg "_law_nstep_fits" s_law_nstep_fits P_law_nstep_fits
theorem pgOk_iff {pg : List Str} : PgOk pg ↔ (0 < pg.length ∧ pg.length < 4) ∧ pg.all nameB = true ∧ ascB pg pg = true := by
  constructor
  · intro h
    exact ⟨⟨h.pos, by have := h.most; omega⟩, List.all_eq_true.mpr h.name, (ascB_iff h.nm).mpr (List.Sublist.refl _)⟩
  · rintro ⟨⟨h1, h2⟩, h3, h4⟩
    unfold ascB at h4
    rw [Bool.and_eq_true, adj_pw] at h4
    exact ⟨pairwise_sorted (h4.2.imp fun h => ltS_le h), h4.2.imp fun h => ltS_ne h, List.all_eq_true.mp h3, h1, by omega⟩
def spNFault : Sp := fun vs H Q _ => ∃ (z : Str), vs = [.str z] ∧ z.length ≤ 10000 ∧ (∀ x ∈ lines z, (words x).length ≤ 64) ∧ ∀ H', Same H H' → Q (numV (faultR z)) H'
theorem ok_nfault (d : Fd K mg "_law_nfault" s_law_nfault P_law_nfault) (d_law_nname_fits : FdNameFits K mg) (d_law_nascending : FdAsc K mg) (d_law_nstep_fits : FdStepFits K mg) (d_law_nwhen_fits : FdWhenFits K mg) (d_law_nsplit : FdNSplit K mg) (B : Blt2 K mg) : FnOk P w K mg base CX0 4 d.f d.fd P_law_nfault spNFault := by
  have G_law_nname_fits : FnOk P w K mg base CX0 1 d_law_nname_fits.f d_law_nname_fits.fd P_law_nname_fits spNameFits := ok_namefits d_law_nname_fits B
  have G_law_nascending : FnOk P w K mg base CX0 1 d_law_nascending.f d_law_nascending.fd P_law_nascending spAsc := ok_asc d_law_nascending B
  have G_law_nstep_fits : FnOk P w K mg base CX0 3 d_law_nstep_fits.f d_law_nstep_fits.fd P_law_nstep_fits spStepFits := ok_stepfits d_law_nstep_fits d_law_nwhen_fits d_law_nsplit d_law_nascending B
  refine d.F.ok sc_law_nfault (fun vs H Q E h => ?_) (fun cdv A outer s H vs Q E hr h => ?_)
  · obtain ⟨z, rfl, _⟩ := h
    rfl
  · obtain ⟨z, rfl, lz, lw, k⟩ := h
    refine ⟨_, (pss_cons (ps_par (i := 1) (j := 2) (by rfl) sc_law_nfault.nd rfl rfl (by decide) rfl rfl (pa_cons (pe_m1 PySem.F.slot_str_split PySem.F.type_str_split m_split (pv 0) pe_str) (pa_cons (pe_lst pa_nil) pa_nil)) (by rfl))
      (pss_cons (ps_for PassesOwn.never rfl (w_enumQ K (by rfl) B.enumerate (pa_cons (pe_slice (s_list K) (pv 1) po_none (po_some (pe_un un_neg pe_int))) pa_nil)) (g_tup K (n := 2) rfl (pgs_cons (pg_name (i := 3) sc_law_nfault.nd rfl (by first | exact Or.inl rfl | exact Or.inr rfl)) (pgs_cons (pg_name (i := 4) sc_law_nfault.nd rfl (by first | exact Or.inl rfl | exact Or.inr rfl)) pgs_nil)))
      (pss_one (ps_if (pt_cmpR op_eq (pv 3) pe_int (nomark _)) (pss_cons (ps_set (i := 5) sc_law_nfault.nd rfl (by first | exact Or.inl rfl | exact Or.inr rfl) (pe_m1 PySem.F.slot_str_split PySem.F.type_str_split m_split (pv 4) pe_str))
      (pss_cons (ps_set (i := 2) sc_law_nfault.nd rfl (by first | exact Or.inl rfl | exact Or.inr rfl) (pe_slice (s_list K) (pv 5) (po_some pe_int) po_none))
      (pss_cons (ps_set (i := 6) sc_law_nfault.nd rfl (by first | exact Or.inl rfl | exact Or.inr rfl) (pe_and (pe_cmpR op_eq (pe_ix (x_list K) (pv 5) pe_int (fun _ _ => rfl)) pe_str (nomark _)) (pe_and (pe_chain op_lt op_lt pe_int (pe_callB (c_len K) (by rfl) B.len (by decide +kernel) (pa_cons (pv 2) pa_nil)) pe_int) (pe_one (pe_callB (c_all K rfl) (by rfl) B.all (by decide +kernel) (pa_cons (pe_lc (own := [("page", 7)]) (g := gName 7) (tt := tYes) rfl sc_law_nfault.nd (w_list K (pv 2)) (blkOk_by (own := [("page", 7)]) (N := N_law_nfault) (sc := defScope s_law_nfault) (by decide +kernel)) (fun _ _ _ _ _ => by exact (pg_name (i := 7) sc_law_nfault.nd rfl (by first | exact Or.inl rfl | exact Or.inr rfl))) (fun _ _ _ _ _ => pts_nil) (fun _ _ _ _ _ => by exact (pe_call G_law_nname_fits (hr.mono (by decide)) (by rfl) d_law_nname_fits.g d_law_nname_fits.F.kp d_law_nname_fits.b .nil pass0 (pa_cons (pv 7) pa_nil)))) pa_nil))))))
      (pss_one (ps_if (PW.pt (pw_or (pt_not (pt_val (pv 6))) (pw_or1 (pt_not (pt_val (pe_call G_law_nascending (hr.mono (by decide)) (by rfl) d_law_nascending.g d_law_nascending.F.kp d_law_nascending.b .nil pass0 (pa_cons (pv 2) (pa_cons (pv 2) pa_nil)))))))) (pss_one (ps_ret pe_int)) pss_nil))))) (pss_one (ps_if (PW.pt (pw_or (pt_cmpR op_gt (pv 3) pe_int (nomark _)) (pw_or1 (pt_not (pt_val (pe_call G_law_nstep_fits (hr.mono (by decide)) (by rfl) d_law_nstep_fits.g d_law_nstep_fits.F.kp d_law_nstep_fits.b .nil pass0 (pa_cons (pv 4) (pa_cons (pv 2) pa_nil)))))))) (pss_one (ps_ret (pe_op op_add (pv 3) pe_int))) pss_nil)))))
      (pss_cons (ps_if (pt_cmpR op_ne (pe_ix (x_list K) (pv 1) (pe_un un_neg pe_int) (fun _ _ => rfl)) pe_str (nomark _)) (pss_one (ps_ret (pe_callB (c_len K) (by rfl) B.len (by decide +kernel) (pa_cons (pv 1) pa_nil)))) pss_nil)
      (pss_one (ps_ret (pe_ifExp (pt_cmpR op_lt (pe_callB (c_len K) (by rfl) B.len (by decide +kernel) (pa_cons (pv 1) pa_nil)) pe_int (nomark _)) pe_int pe_non)))))), ?_⟩
    obtain ⟨ls, l, eln⟩ := lines_cat z
    rw [faultR_of eln] at k
    have lsz : ∀ x ∈ lines z, x.length ≤ 10000 := fun x hx => Nat.le_trans (len_sum_split tl_nln (by decide) x hx) lz
    walk_at "v"
    refine i_split (by decide +kernel) (Nat.le_trans (Nat.add_le_add_right lz 2) (by decide)) (fun p hp => ?_)
    rw [show Txt.split z (Str.ofString "\n") = ls ++ [l] from eln, List.map_append]
    have s1 : Same H (upd H p (.lst (ls.map V.str ++ [l].map V.str))) := (Same.refl H).new hp
    have h1 : upd H p (.lst (ls.map V.str ++ [l].map V.str)) p = some (.lst (ls.map V.str ++ [.str l])) := upd_same
    generalize upd H p (.lst (ls.map V.str ++ [l].map V.str)) = H1 at s1 h1
    walk_at "v"
    refine ⟨show 0 ≤ sizeLine by decide, fun g0 hg0 => ?_⟩
    have s2 : Same H (upd H1 g0 (.lst [])) := s1.new hg0
    have h2 := h_new (o := .lst []) h1 hg0
    generalize upd H1 g0 (.lst []) = H2 at s2 h2
    walk_at "v"
    refine ⟨p, _, rfl, SqL.of h2, fun q hq => ?_⟩
    rw [cut_last]
    have s3 : Same H (upd H2 q (.lst (ls.map V.str))) := s2.new hq
    have h3 := h_new (o := .lst (ls.map V.str)) h2 hq
    have hq3 : upd H2 q (.lst (ls.map V.str)) q = some (.lst (ls.map V.str)) := upd_same
    generalize upd H2 q (.lst (ls.map V.str)) = H3 at s3 h3 hq3
    walk_at "v"
    refine ⟨q, _, _, rfl, .inl rfl, hq3, fun J wk => ?_⟩
    refine for_by wk ⟨fun i σ H' => (∃ (N : Addr) (v3 v4 v5 v6 v7 : Option V), σ = [some (.str z), some (.ref p), some (.ref N), v3, v4, v5, v6, v7] ∧ (i = 0 ∨ ∃ x r pg, ls = x :: r ∧ pagesP (words x) = some pg ∧ H' N = some (.lst (pg.map V.str)) ∧ ∀ m y, m + 1 < i → r[m]? = some y → ¬ (0 + m = 8 ∨ stepP pg (words y) = none))) ∧ Same H3 H', ?_, fun i σ H' _ ⟨_, s⟩ => s _ _ hq3, ?_, ?_⟩
    · exact ⟨⟨g0, _, _, _, _, _, rfl, .inl rfl⟩, Same.refl _⟩
    · rintro i x σ H4 H5 hi ⟨⟨N, v3, v4, v5, v6, v7, rfl, st⟩, s4⟩ ⟨T, y0, y, rfl, hT, rfl, e0, hy⟩
      obtain rfl : y0 = .int ((0 : Int) + (i : Nat)) := (Option.some.inj e0).symm
      replace hy : (ls.map V.str)[i]? = some y := hy
      rw [List.getElem?_map] at hy
      obtain ⟨y, hy', rfl⟩ := Option.map_eq_some_iff.mp hy
      replace hy := hy'
      have my : y ∈ lines z := by rw [eln]; exact List.mem_append_left _ (List.mem_of_getElem? hy)
      refine g_two upd_same ?_
      have s5 : Same H4 (upd H4 T (.tup [.int ((0 : Int) + (i : Nat)), .str y])) := (Same.refl _).new hT
      generalize upd H4 T (.tup [.int ((0 : Int) + (i : Nat)), .str y]) = H5 at s5
      have s35 := s4.trans s5
      have s05 := s3.trans s35
      walk_at "v"
      cases i with
      | zero =>
        obtain ⟨r, els⟩ : ∃ r, ls = y :: r := by
          cases e : ls with
          | nil => rw [e] at hy; simp at hy
          | cons u v => rw [e] at hy; simp at hy; subst hy; exact ⟨v, rfl⟩
        have no : pagesP (words y) = none → ∀ H', Same H H' → Q (.int 1) H' := fun e H' s' => by
          have := k H' s'
          rw [els] at this
          simp only [faultL, e] at this
          exact this
        refine iteT ?_
        walk_at "v"
        refine i_split (by decide +kernel) (Nat.le_trans (Nat.add_le_add_right (lsz y my) 2) (by decide)) (fun W hW => ?_)
        rw [show Txt.split y (Str.ofString " ") = words y from rfl]
        obtain ⟨w0, pg, ews⟩ : ∃ w0 pg, words y = w0 :: pg := by
          cases e : words y with
          | nil => exact absurd e (split_ne tl_spc (by decide))
          | cons u v => exact ⟨u, v, rfl⟩
        have lwy := lw y my
        have wsh : ∀ x ∈ words y, x.length ≤ 10000 := fun x hx => Nat.le_trans (len_sum_split tl_spc (by decide) x hx) (lsz y my)
        rw [ews] at no lwy wsh ⊢
        simp only [List.length_cons] at lwy
        have s6 : Same H5 (upd H5 W (.lst ((w0 :: pg).map V.str))) := (Same.refl _).new hW
        have h6 : upd H5 W (.lst ((w0 :: pg).map V.str)) W = some (.lst (.str w0 :: pg.map V.str)) := upd_same
        generalize upd H5 W (.lst ((w0 :: pg).map V.str)) = H6 at s6 h6
        walk_at "v"
        refine ⟨W, _, rfl, SqL.of h6, fun N2 hN2 => ?_⟩
        rw [cut_drop1']
        have s7 : Same H6 (upd H6 N2 (.lst (pg.map V.str))) := (Same.refl _).new hN2
        have h7 : upd H6 N2 (.lst (pg.map V.str)) N2 = some (.lst (pg.map V.str)) := upd_same
        generalize upd H6 N2 (.lst (pg.map V.str)) = H7 at s7 h7
        have h67 := s7 _ _ h6
        have s57 := s6.trans s7
        have s07 := s05.trans s57
        have nop : ¬ (w0 = sPG ∧ PgOk pg) → pagesP (w0 :: pg) = none := fun h => pagesP_no h
        walk_at "v"
        refine i_ixL h67 (atI_nat (j := 0) rfl) ?_
        walk_at "v"
        rw [dec_strE]
        refine ifd (fun c1 => ?_) (fun c1 => ?_)
        · walk_at "v"
          refine ifd (fun c2 => ?_) (fun c2 => ?_)
          · walk_at "v"
            refine ifd (fun c3 => ?_) (fun c3 => ?_)
            · walk_at "v"
              refine w_lst h7 ?_
              refine lc_by (walk_list (xs := pg.map V.str)) fun D hD => ⟨fun i H' => H' D = some (.lst (((pg.take i).map nameB).map V.bl)) ∧ Same H7 H', ⟨upd_same, (Same.refl _).new hD⟩, fun i H' _ ⟨_, s⟩ => SqL.of (s _ _ h7), ?_, ?_⟩
              · rintro m u H8 H9 hm ⟨hd4, s8⟩ ⟨rfl, hu⟩
                rw [List.getElem?_map] at hu
                obtain ⟨u, hu', rfl⟩ := Option.map_eq_some_iff.mp hu
                walk_at "v"
                refine ⟨u, rfl, wsh u (List.mem_cons_of_mem _ (List.mem_of_getElem? hu')), fun H10 s10 => ?_⟩
                refine ⟨_, s10 _ _ hd4, by simp only [List.length_map, List.length_take]; exact small1000 (by omega), ?_, (s8.trans s10).put hD⟩
                rw [List.take_succ, hu']
                simp only [Option.toList_some, List.map_append]
                exact upd_same
              · rintro H8 ⟨hd8, s8⟩
                rw [List.length_map, List.take_length] at hd8
                have s08 := s07.trans s8
                have h78 := s8 _ _ h7
                walk_at "v"
                refine ⟨D, _, rfl, SqL.of hd8, ?_⟩
                rw [show (pg.map nameB).all id = pg.all nameB by rw [List.all_map]; rfl]
                walk_at "v"
                cases b1 : pg.all nameB with
                | false =>
                  refine iteT ?_
                  walk_at "v"
                  exact no (nop (fun h => by have := (pgOk_iff.mp h.2).2.1; rw [b1] at this; cases this)) _ s08
                | true =>
                  refine iteF ?_
                  walk_at "v"
                  refine ⟨N2, N2, pg, pg, rfl, h78, h78, by omega, fun H9 s9 => ?_⟩
                  have s09 := s08.trans s9
                  walk_at "v"
                  cases b2 : ascB pg pg with
                  | false =>
                    refine iteT ?_
                    walk_at "v"
                    exact no (nop (fun h => by have := (pgOk_iff.mp h.2).2.2; rw [b2] at this; cases this)) _ s09
                  | true =>
                    refine iteF ?_
                    have po : PgOk pg := pgOk_iff.mpr ⟨⟨by simp at c2; omega, by simp at c3; omega⟩, b1, b2⟩
                    refine ⟨⟨N2, _, _, _, _, _, rfl, .inr ⟨y, r, pg, els, by rw [ews, c1]; exact pagesP_of po, s9 _ _ h78, fun m y hm => by omega⟩⟩, s35.trans (s57.trans (s8.trans s9))⟩
            · walk_at "v"
              refine iteT ?_
              refine iteT ?_
              walk_at "v"
              exact no (nop (fun h => c3 (by have := (pgOk_iff.mp h.2).1.2; simp only [List.length_map]; omega))) _ s07
          · walk_at "v"
            refine iteT ?_
            refine iteT ?_
            walk_at "v"
            exact no (nop (fun h => c2 (by have := (pgOk_iff.mp h.2).1.1; simp only [List.length_map]; omega))) _ s07
        · walk_at "v"
          refine iteT ?_
          refine iteT ?_
          walk_at "v"
          exact no (nop (fun h => c1 h.1)) _ s07
      | succ i =>
        refine ifd (fun h => absurd (V.int.inj h) (by omega)) (fun _ => ?_)
        obtain ⟨x0, r, pg, els, epg, hN4, ok⟩ := st.resolve_left (by omega)
        have po := (pagesP_some epg).2
        have hyr : r[i]? = some y := by rw [els] at hy; simpa using hy
        have no : (0 + i = 8 ∨ stepP pg (words y) = none) → ∀ H', Same H H' → Q (.int ((i + 2 : Nat) : Int)) H' := fun c H' s' => by
          have hs : faultS pg r 0 = some (0 + i) := faultS_at (fun m u hm hu => ok m u (by omega) hu) hyr c
          have := k H' s'
          rw [els] at this
          simp only [faultL, epg, hs, Nat.zero_add] at this
          exact this
        walk_at "v"
        refine ifd (fun c8 => ?_) (fun c8 => ?_)
        · refine iteT ?_
          walk_at "v"
          have e1 : (0 : Int) + ((i + 1 : Nat) : Int) + 1 = ((i + 2 : Nat) : Int) := by omega
          rw [e1]
          refine no ?_ _ s05
          refine .inl ?_
          rcases Nat.lt_or_ge 8 i with h8 | h8
          · have hil := (List.getElem?_eq_some_iff.mp hyr).1
            exact absurd (.inl (by omega)) (ok 8 r[8] (by omega) (by simp [show 8 < r.length by omega]))
          · omega
        · walk_at "v"
          refine ⟨y, N, pg, rfl, lsz y my, lw y my, s5 _ _ hN4, po, fun en H6 s6 => ?_, fun en H6 s6 => ?_⟩
          · walk_at "v"
            refine iteT ?_
            walk_at "v"
            have e1 : (0 : Int) + ((i + 1 : Nat) : Int) + 1 = ((i + 2 : Nat) : Int) := by omega
            rw [e1]
            exact no (.inr en) _ (s05.trans s6)
          · walk_at "v"
            refine iteF ?_
            refine ⟨⟨N, _, _, _, _, _, rfl, .inr ⟨x0, r, pg, els, epg, s6 _ _ (s5 _ _ hN4), fun m u hm hu => ?_⟩⟩, s35.trans s6⟩
            rcases Nat.lt_or_ge m i with h | h
            · exact ok m u (by omega) hu
            · have : m = i := by omega
              subst this
              rw [hyr] at hu; cases hu
              rintro (h8 | h8)
              · omega
              · exact en h8
    · rintro σ H4 ⟨⟨N, v3, v4, v5, v6, v7, rfl, st⟩, s4⟩
      rw [List.length_map] at st
      walk_at "v"
      refine i_ixL (s4 _ _ h3) (atI_last _ _) ?_
      walk_at "v"
      have s04 := s3.trans s4
      have fin : faultL l ls = if l = ("" : Str) then (if ls.length < 2 then some 0 else none) else some (ls.length + 1) := by
        rcases st with e | ⟨x, r, pg, e, e2, _, e4⟩
        · have : ls = [] := List.length_eq_zero_iff.mp e
          subst this
          by_cases h : l = ("" : Str) <;> simp [faultL, h]
        · rw [e]
          have hs : faultS pg r 0 = none := faultS_none (fun m y hy => e4 m y (by
            have := (List.getElem?_eq_some_iff.mp hy).1
            rw [e]; simp; omega) hy)
          simp only [faultL, e2, hs, List.length_cons]
          by_cases h : l = ("" : Str)
          · simp only [h, if_true]
            cases r with
            | nil => simp
            | cons a b => simp
          · simp only [h, if_false]
      rw [fin] at k
      refine ifn (fun c => ?_) (fun c => ?_)
      · have cl : l ≠ ("" : Str) := fun e => c (by rw [e])
        rw [if_neg cl] at k
        walk_at "v"
        refine i_lenL (s4 _ _ h3) ?_
        have e1 : ((ls.map V.str ++ [V.str l]).length : Int) = ((ls.length + 1 : Nat) : Int) := by simp
        rw [e1]
        exact k _ s04
      · have cl : l = ("" : Str) := V.str.inj c
        rw [if_pos cl] at k
        walk_at "v"
        refine i_lenL (s4 _ _ h3) ?_
        walk_at "v"
        have e1 : ((ls.map V.str ++ [V.str l]).length : Int) = ((ls.length + 1 : Nat) : Int) := by simp
        rw [e1]
        refine ifd (fun c2 => ?_) (fun c2 => ?_)
        · rw [if_pos (by omega)] at k
          walk_at "v"
          exact k _ s04
        · rw [if_neg (by omega)] at k
          walk_at "v"
          exact k _ s04
end Lr
set_option Elab.async false
set_option linter.all false
set_option maxRecDepth 100000
set_option maxHeartbeats 4000000
namespace Lr
open PySem PySem.Spec PyProof.Rows L2 TL
open C8 (InsC call_isC)
open LamX (GivesAt CodeO)
local macro_rules | `(tactic| walk_at "ne") => `(tactic| (first | assumption | (refine ne_sym ?_; assumption) | (exact ne_of_none (by assumption) (by assumption)) | (exact ne_sym (ne_of_none (by assumption) (by assumption)))))
local macro_rules | `(tactic| walk_at "h") => `(tactic| (first | assumption | exact upd_same | (refine h_new ?_ (by assumption); walk_at "h") | (refine h_ne (by walk_at "ne") ?_; walk_at "h")))
local macro_rules | `(tactic| walk_at "v1") => `(tactic| (with_reducible first
  | refine i_seq ?_ | refine i_asg ?_ | refine i_ret ?_ | refine i_next ?_ | refine i_drop ?_ | refine i_ifS ?_ | refine i_if ?_ | refine i_and ?_ | refine i_or ?_ | refine i_not ?_ | refine i_test ?_ | refine i_tB ?_ | refine i_bl ?_ | refine i_yes ?_
  | refine i_op ?_ | refine i_un ?_ | refine i_chain ?_ | refine i_andV ?_ | refine i_orV ?_ | refine i_notV ?_ | refine i_cb ?_ | refine i_cons ?_ | refine i_nil ?_ | refine i_bm ?_ | refine i_bm0 ?_ | refine i_c ?_ | refine i_name ?_ | refine i_sub ?_
  | refine i_call ?_ | refine i_lst ?_ | refine i_tup ?_ | refine i_par ?_ | refine i_par2 ?_ | refine i_sl ?_ | refine i_np ?_ | refine i_pt ?_ | refine i_int ?_ | refine i_m0 ?_ | refine i_m1 ?_ | refine i_isS ?_
  | refine i_rI0 ?_ | refine i_inSign ?_ | refine i_notInSign ?_ | refine i_int1 ?_ | refine i_tru ?_ | refine i_isN ?_ | refine i_notN ?_ | refine iteT ?_ | refine iteF ?_ | refine i_brk ?_ | refine i_rt ?_ | refine i_nx ?_ | refine i_bk ?_ | refine i_ct ?_ | refine i_for ?_ | refine i_lc ?_ | refine i_dc ?_ | refine i_iL ?_ | refine i_iT ?_ | refine i_iR1 ?_ | refine i_iR2 ?_ | refine i_iS ?_ | refine i_iE ?_ | refine i_iEK ?_ | refine i_iEQ ?_ | refine i_iZS ?_ | refine i_dget ?_ | refine i_fld ?_ | refine i_sfld ?_ | refine i_dput ?_ | refine i_meth ?_ | refine i_rU ?_ | refine i_cont ?_ | refine i_make ?_))
local macro_rules | `(tactic| walk_at "v2") => `(tactic| (first
  | ((with_reducible refine' i_var ?k1 ?_); (case k1 => exact rfl))
  | ((with_reducible refine' i_eq ?k1 ?_); (case k1 => exact rfl))
  | ((with_reducible refine' i_ne ?k1 ?_); (case k1 => exact rfl))
  | ((with_reducible refine' i_ixL ?k1 ?k2 ?_); (case k1 => walk_at "h"); (case k2 => exact rfl))
  | ((with_reducible refine' i_ixT ?k1 ?k2 ?_); (case k1 => walk_at "h"); (case k2 => exact rfl))
  | ((with_reducible refine' i_lenL ?k1 ?_); (case k1 => walk_at "h"))
  | ((with_reducible refine' i_lenT ?k1 ?_); (case k1 => walk_at "h"))
  | (refine i_wipe (show wipe _ _ = wipe _ _ from rfl) ?_)
  | ((with_reducible refine' i_setL ?k1 ?k2 ?_); (case k1 => walk_at "h"); (case k2 => exact rfl))
  | ((with_reducible refine' i_tyl ?k1 ?_); (case k1 => walk_at "h"))))
local macro_rules | `(tactic| walk_at "v") => `(tactic| repeat (first | walk_at "v1" | walk_at "v2"))

variable {P : Program} {w : World} {K :
      PySem.W.Frag} {mg : Str → Option Value} {base : Heap}
abbrev s_law_nline_told : Stmt := top 58
abbrev N_law_nline_told : List Str := ["call", "e"]
abbrev P_law_nline_told : List Str := ["call"]
theorem sc_law_nline_told : FnScope N_law_nline_told P_law_nline_told (defScope s_law_nline_told) := ⟨rfl, rfl, rfl, by decide +kernel, rfl, by decide +kernel, by decide +kernel⟩
/-- what _law_nline_told makes of what it is handed -/
def ETold (CT : Addr) (Q : VK) : XK := fun cls d G => cls = .ref CT ∧ ∃ dd v, d = some dd ∧ G dd = some (.xd [(("line" : Str), v)]) ∧ ∀ p, G p = none → Q (.ref p) (upd G p (.lst [v]))
def TTold (CT : Addr) : (XK → Hp → VK → Prop) → Hp → VK → Prop := fun tl H Q => ∀ E : XK, (∀ cls d G, ETold CT Q cls d G → E cls d G) → tl E H (fun _ G => Q .non G)
theorem told_gives {X : Cx} {g : Addr} {cdg : Value} {q : Str} (eT : ExText X.K X.mg) (tt : PySem.W.exmOne X.K (.ref eT.C) (.ref eT.C) = some true) : GivesAt X N_law_nline_told "_law_nline_told" (defScope s_law_nline_told) g cdg (defBody s_law_nline_told) "call" q (TTold eT.C) := by
  intro f c' s H Q tl act hc h
  refine ⟨_, pss_cons (ps_try_named (X := (cxOf C8.CX0 X.prog X.w X.K X.mg X.base N_law_nline_told "_law_nline_told" (defScope s_law_nline_told) g cdg X.A X.stack s H C8.E0).nox) (Wout := fun _ _ _ _ => False)
      (tb := fun W D σ H => σ[0]? = some (some (.ref f)) ∧ H c' = some (CodeO c' q) ∧ tl (fun cls d G => W cls d σ G) H (fun _ G => D.nx σ G))
      rfl rfl sc_law_nline_told.nd takes_none5 (fun W pn xe tk _ => ?_)
      (Clauses.cons (i := 1) (c := .ref eT.C) rfl rfl ⟨rfl, by decide, .inl eT.g⟩ (fun a oe cls d pn hz hf => pss_one (ps_ret (pe_lst (pa_cons (pe_xf eT.xf eT.no hz hf (pv 1)) pa_nil)))) .nil))
    (pss_one (ps_ret pe_non)), ?_⟩
  · exact pss_one (ps_expr (act W pn xe _ _ tk))
  · refine ⟨rfl, hc, h _ fun cls d G he => ?_⟩
    obtain ⟨rfl, dd, v, rfl, hg, k⟩ := he
    refine ⟨true, tt, fun _ a ha => ?_, fun z => Bool.noConfusion z⟩
    exact ⟨_, rfl, rfl, rfl, dd, _, v, rfl, hg, by simp [List.lookup], show 1 ≤ sizeLine by decide, k⟩
theorem told_at {X : Cx} {g : Addr} {cdg : Value} {q : Str} (eT : ExText K mg) (tt : PySem.W.exmOne K (.ref eT.C) (.ref eT.C) = some true) (hK : X.K = K := by rfl) (hm : X.mg = mg := by rfl) : GivesAt X N_law_nline_told "_law_nline_told" (defScope s_law_nline_told) g cdg (defBody s_law_nline_told) "call" q (TTold eT.C) := by
  subst hK hm
  exact told_gives eT tt
end Lr
set_option Elab.async false
set_option linter.all false
set_option maxRecDepth 100000
set_option maxHeartbeats 4000000
/-! R7: how many words a line of a bent text has at most. -/
namespace Lr
open PySem PySem.Spec PyProof.Rows L2 TL
/-- no stretch without a line's end has more than m blanks -/
def Lim (m : Nat) (l : List Nat) : Prop := ∀ a u b, l = a ++ u ++ b → 10 ∉ u → u.count 32 ≤ m
theorem Lim.infix {m : Nat} {l k : List Nat} (h : Lim m l) (i : k <:+: l) : Lim m k := fun a u b e n => by
  obtain ⟨p, q, e2⟩ := i
  refine h (p ++ a) u (b ++ q) ?_ n
  rw [← e2, e]; simp
theorem infix_app {u A B : List Nat} (h : u <:+: A ++ B) : ∃ u1 u2, u = u1 ++ u2 ∧ u1 <:+: A ∧ u2 <:+: B := by
  obtain ⟨a, b, e⟩ := h
  rcases List.append_eq_append_iff.mp e with ⟨c, h1, h2⟩ | ⟨c, h1, h2⟩
  · exact ⟨u, [], by simp, ⟨a, c, h1.symm⟩, List.nil_infix⟩
  · rcases List.append_eq_append_iff.mp h1 with ⟨d, h3, h4⟩ | ⟨d, h3, h4⟩
    · exact ⟨d, c, h4, ⟨a, [], by simp [h3]⟩, ⟨[], b, by simp [h2]⟩⟩
    · exact ⟨[], u, by simp, List.nil_infix, ⟨d, b, by rw [h2, h4]⟩⟩
theorem Lim.app {m k : Nat} {A B : List Nat} (h1 : Lim m A) (h2 : Lim k B) : Lim (m + k) (A ++ B) := fun a u b e n => by
  obtain ⟨u1, u2, rfl, ⟨a1, b1, i1⟩, ⟨a2, b2, i2⟩⟩ := infix_app (u := u) (A := A) (B := B) ⟨a, b, e.symm⟩
  have n1 := h1 a1 u1 b1 i1.symm (fun m => n (by simp [m]))
  have n2 := h2 a2 u2 b2 i2.symm (fun m => n (by simp [m]))
  rw [List.count_append]; omega
theorem Lim.short (l : List Nat) : Lim l.length l := fun a u b e n => by
  have := List.count_le_length (a := 32) (l := u)
  rw [e]; simp; omega
theorem Lim.mono {m k : Nat} {l : List Nat} (h : Lim m l) (i : m ≤ k) : Lim k l := fun a u b e n => Nat.le_trans (h a u b e n) i
theorem Lim.line {m : Nat} {l r : List Nat} (h : l.count 32 ≤ m) (hr : Lim m r) : Lim m (l ++ 10 :: r) := fun a u b e n => by
  rw [List.append_assoc] at e
  rcases List.append_eq_append_iff.mp e with ⟨c, h1, h2⟩ | ⟨c, h1, h2⟩
  · -- a = l ++ c
    cases c with
    | nil =>
      simp only [List.nil_append] at h2
      cases u with
      | nil => simp
      | cons x u => simp only [List.cons_append, List.cons.injEq] at h2; exact absurd (by rw [h2.1]; simp) n
    | cons x c =>
      simp only [List.cons_append, List.cons.injEq] at h2
      exact hr c u b (by rw [h2.2]; simp) n
  · -- l = a ++ c
    rcases List.append_eq_append_iff.mp h2 with ⟨d, h3, h4⟩ | ⟨d, h3, h4⟩
    · -- c = u ++ d
      rw [h1, h3, List.count_append, List.count_append] at h
      omega
    · -- u = c ++ d
      cases d with
      | nil =>
        rw [h1, List.count_append] at h
        simp only [List.append_nil] at h3
        rw [h3]; omega
      | cons x d =>
        simp only [List.cons_append, List.cons.injEq] at h4
        exact absurd (by rw [h3, ← h4.1]; simp) n
theorem Lim.text {m : Nat} : ∀ {ls : List Str}, (∀ x ∈ ls, (tl x).count 32 ≤ m) → Lim m (ls.map fun x => tl x ++ [10]).flatten
  | [], _ => fun a u b e n => by
    have : u = [] := by
      have := congrArg List.length e
      simp at this
      exact List.length_eq_zero_iff.mp
            (by omega)
    rw [this]; simp
  | x :: r, h => by
    have := Lim.line (h x (by simp)) (Lim.text (ls := r) (fun y hy => h y (by simp [hy])))
    simpa using this
theorem spl_count (s : Nat) : ∀ (l acc : List Nat), (spl [s] 0 acc l).length = l.count s + 1
  | [], acc => by rw [spl_nil]; simp
  | c :: r, acc => by
    by_cases h : c = s
    · subst h
      rw [spl_hit (by rw [pre1]; simp), List.length_cons, List.count_cons_self]
      have := spl_count c r []
      show (spl [c] 0 [] r).length + 1 = _
      rw [this]
    · rw [spl_miss (by rw [pre1]; simp [h]), spl_count s r (acc ++ [c]), List.count_cons_of_ne (by simpa using h)]
theorem words_count (x : Str) : (words x).length = (tl x).count 32 + 1 := by
  have e := congrArg List.length (split_tl (x := x) tl_spc (by decide))
  rw [List.length_map] at e
  rw [← spl_count 32 (tl x) [], ← e]; rfl
/-- every line is a stretch of the text -/
theorem spl_infix (s : Nat) : ∀ (l acc : List Nat), ∀ p ∈ spl [s] 0 acc l, ∃ q, p <:+: q ∧ q = acc ++ l
  | [], acc, p, hp => by
    rw [spl_nil] at hp; simp at hp; subst hp
    exact ⟨p, List.infix_rfl, by simp⟩
  | c :: r, acc, p, hp => by
    by_cases h : c = s
    · subst h
      rw [spl_hit (by rw [pre1]; simp)] at hp
      rcases List.mem_cons.mp
            hp with rfl | hp
      · exact ⟨_, ⟨[], c :: r, by simp⟩, rfl⟩
      · obtain ⟨q, ⟨u, v, i⟩, e⟩ := spl_infix c r [] p hp
        refine ⟨_, ⟨acc ++ c :: u, v, ?_⟩, rfl⟩
        simp only [List.nil_append] at e
        rw [← e, ← i]; simp
    · rw [spl_miss (by rw [pre1]; simp [h])] at hp
      obtain ⟨q, i, e⟩ := spl_infix s r (acc ++ [c]) p hp
      exact ⟨q, i, by rw [e]; simp⟩
theorem lines_words {m : Nat} {z : Str} (h : Lim m (tl z)) : ∀ x ∈ lines z, (words x).length ≤ m + 1 := fun x hx => by
  have hm : tl x ∈ spl [10] 0 [] (tl z) := by
    rw [← split_tl (x := z) tl_nln (by decide)]
    exact List.mem_map.mpr ⟨x, hx, rfl⟩
  obtain ⟨q, ⟨a, b, i⟩, e⟩ := spl_infix 10 (tl z) [] _ hm
  have fr := spl_free1 10 (tl z) [] (by simp) _ hm
  rw [words_count]
  have := h a (tl x) b (by rw [i, e]; simp) fr
  omega
end Lr
set_option Elab.async false
set_option linter.all false
set_option maxRecDepth 100000
set_option maxHeartbeats 4000000
/-! Vs: list(a text). -/
namespace L2
open PySem PySem.Spec
      PyProof.Rows
def rListS : List V → Hp → VK → Prop := fun xs H Q => ∃ z : Str, xs = [.str z] ∧ z.length ≤ sizeLine ∧ ∀ l, H l = none → Q (.ref l) (upd H l (.lst (z.cps.toList.map fun c => V.str ⟨#[c]⟩)))
theorem vals_get : ∀ {ys : List V} {us : List Value}, ys.length = us.length → (∀ (i : Nat) y u, ys[i]? = some y → us[i]? = some u → RelV y u) → Vals ys us
  | [], [], _, _ => .nil
  | [], _ :: _, h,
        _ => by simp at h
  | _ :: _, [], h,
        _ => by simp at h
  | y :: ys, u :: us, h, k => .cons (k 0 y u rfl rfl) (vals_get (by simpa using h) (fun i y' u' h1 h2 => k (i + 1) y' u' (by simpa using h1) (by simpa using h2)))
theorem c_listS {X : Cx} (hc : X.calm = true) : CallR X (.type "list") rListS := by
  intro pins s σ
        H xs us Q I r h
  obtain ⟨z, rfl, hz, q⟩ := h
  obtain ⟨u, rfl, t,
        rfl⟩ := vals1 r
  refine call_list_str (I.ok.hd hc) z t (hn := hz) fun h' tk acc' c' hk hS' hacc => ?_
  have hv : Vals (z.cps.toList.map fun c => V.str ⟨#[c]⟩) acc'.toList := by
    refine vals_get (by simp [hacc.1]) (fun i y u h1 h2 => ?_)
    obtain ⟨c, u', hc', rfl⟩ := hacc.2 i u (by simpa using h2)
    rw [List.getElem?_map] at h1
    have e : z.cps.toList[i]? = some c := by simpa using hc'
    rw [e] at h1
    cases h1
    exact ⟨u', rfl⟩
  refine ⟨.ref s.heap.objs.size, _, I.laid (t' := tk) hk (Nat.le_refl _) (show ObjOk X.prog X.w _ h' _ (.lst _) from ⟨?_, acc'.toList, c', hv, by simpa using hS'⟩), rfl, q _ (I.hok.fresh (Nat.le_refl _))⟩
  rw [List.length_map]; simpa [Str.length] using hz
end L2
set_option Elab.async false
set_option linter.all false
set_option maxRecDepth 100000
set_option maxHeartbeats 4000000
namespace Lr
open PySem PySem.Spec PyProof.Rows L2 TL
local macro_rules | `(tactic| walk_at "ne") => `(tactic| (first | assumption | (refine ne_sym ?_; assumption) | (exact ne_of_none (by assumption) (by assumption)) | (exact ne_sym (ne_of_none (by assumption) (by assumption)))))
local macro_rules | `(tactic| walk_at "h") => `(tactic| (first | assumption | exact upd_same | (refine h_new ?_ (by assumption); walk_at "h") | (refine h_ne (by walk_at "ne") ?_; walk_at "h")))
local macro_rules | `(tactic| walk_at "v1") => `(tactic| (with_reducible first
  | refine i_seq ?_ | refine i_asg ?_ | refine i_ret ?_ | refine i_next ?_ | refine i_drop ?_ | refine i_ifS ?_ | refine i_if ?_ | refine i_and ?_ | refine i_or ?_ | refine i_not ?_ | refine i_test ?_ | refine i_tB ?_ | refine i_bl ?_ | refine i_yes ?_
  | refine i_op ?_ | refine i_un ?_ | refine i_chain ?_ | refine i_andV ?_ | refine i_orV ?_ | refine i_notV ?_ | refine i_cb ?_ | refine i_cons ?_ | refine i_nil ?_ | refine i_bm ?_ | refine i_bm0 ?_ | refine i_c ?_ | refine i_name ?_ | refine i_sub ?_
  | refine i_call ?_ | refine i_lst ?_ | refine i_tup ?_ | refine i_par ?_ | refine i_par2 ?_ | refine i_sl ?_ | refine i_np ?_ | refine i_pt ?_ | refine i_int ?_ | refine i_m0 ?_ | refine i_m1 ?_ | refine i_isS ?_
  | refine i_rI0 ?_ | refine i_inSign ?_ | refine i_notInSign ?_ | refine i_int1 ?_ | refine i_tru ?_ | refine i_isN ?_ | refine i_notN ?_ | refine iteT ?_ | refine iteF ?_ | refine i_brk ?_ | refine i_rt ?_ | refine i_nx ?_ | refine i_bk ?_ | refine i_ct ?_ | refine i_for ?_ | refine i_lc ?_ | refine i_dc ?_ | refine i_iL ?_ | refine i_iT ?_ | refine i_iR1 ?_ | refine i_iR2 ?_ | refine i_iS ?_ | refine i_iE ?_ | refine i_iEK ?_ | refine i_iEQ ?_ | refine i_iZS ?_ | refine i_dget ?_ | refine i_fld ?_ | refine i_sfld ?_ | refine i_dput ?_ | refine i_meth ?_ | refine i_rU ?_ | refine i_cont ?_ | refine i_make ?_))
local macro_rules | `(tactic| walk_at "v2") => `(tactic| (first
  | ((with_reducible refine' i_var ?k1 ?_); (case k1 => exact rfl))
  | ((with_reducible refine' i_eq ?k1 ?_); (case k1 => exact rfl))
  | ((with_reducible refine' i_ne ?k1 ?_); (case k1 => exact rfl))
  | ((with_reducible refine' i_ixL ?k1 ?k2 ?_); (case k1 => walk_at "h"); (case k2 => exact rfl))
  | ((with_reducible refine' i_ixT ?k1 ?k2 ?_); (case k1 => walk_at "h"); (case k2 => exact rfl))
  | ((with_reducible refine' i_lenL ?k1 ?_); (case k1 => walk_at "h"))
  | ((with_reducible refine' i_lenT ?k1 ?_); (case k1 => walk_at "h"))
  | (refine i_wipe (show wipe _ _ = wipe _ _ from rfl) ?_)
  | ((with_reducible refine' i_setL ?k1 ?k2 ?_); (case k1 => walk_at "h"); (case k2 => exact rfl))
  | ((with_reducible refine' i_tyl ?k1 ?_); (case k1 => walk_at "h"))))
local macro_rules | `(tactic| walk_at "v") => `(tactic| repeat (first | walk_at "v1" | walk_at "v2"))

variable {P : Program} {w : World} {K :
      PySem.W.Frag} {mg : Str → Option Value} {base : Heap}
abbrev s_law_nbent : Stmt := top 59
abbrev N_law_nbent : List Str := ["stream", "text", "lines", "at", "kind", "words", "place", "bent", "line"]
abbrev P_law_nbent : List Str := ["stream", "text"]
theorem sc_law_nbent : FnScope N_law_nbent P_law_nbent (defScope s_law_nbent) := ⟨rfl, rfl, rfl, by decide +kernel, rfl, by decide +kernel, by decide +kernel⟩
theorem cutS_to (z : Str) (n : Nat) : tl (cutS z none (some (n : Int))) = (tl z).take n := by
  show (((z.cps.toList.drop (HT.sIx z.length 0 none)).take (HT.sIx z.length z.length (some (n : Int)) - HT.sIx z.length 0 none)).toArray).toList = _
  have e1 : HT.sIx z.length z.length (some (n : Int)) = min n z.length := HT.sIx_nat _ _ n
  have e2 : HT.sIx z.length 0 none = 0 := rfl
  have ez : z.length = z.cps.toList.length := by rw [Array.length_toList]; rfl
  rw [e1, e2, List.toList_toArray, List.drop_zero, Nat.sub_zero, ez]
  show _ = z.cps.toList.take n
  rw [List.take_eq_take_iff]
  omega
theorem cutS_from (z : Str) (n : Nat) : tl (cutS z (some (n : Int)) none) = (tl z).drop n := by
  show (((z.cps.toList.drop (HT.sIx z.length 0 (some (n : Int)))).take (HT.sIx z.length z.length none - HT.sIx z.length 0 (some (n : Int)))).toArray).toList = _
  have e1 : HT.sIx z.length 0 (some (n : Int)) = min n z.length := HT.sIx_nat _ _ n
  have e2 : HT.sIx z.length z.length none = z.length := rfl
  have ez : z.length = z.cps.toList.length := by rw [Array.length_toList]; rfl
  rw [e1, e2, List.toList_toArray, ez]
  show _ = z.cps.toList.drop n
  rcases Nat.lt_or_ge n z.cps.toList.length with h | h
  · rw [Nat.min_eq_left (by omega), List.take_of_length_le (by simp)]
  · rw [Nat.min_eq_right h, List.drop_of_length_le h, List.drop_of_length_le (Nat.le_refl _)]; simp
theorem tl_text (us : List Str) : tl (Txt.join ("" : Str) (us.map fun l => l ++ NLN)) = (us.map fun x => tl x ++ [10]).flatten := by
  rw [text_lines, join_eq, join_nln]
theorem words_free (x : Str) : ∀ w ∈ words x, 32 ∉ tl w := split_free tl_spc (by decide)
theorem i_slS {z : Str} {lo hi : Option Int} {H : Hp} {Q : VK} (h : z.length ≤ sizeLine) (q : Q (.str (cutS z lo hi)) H) : rSlS (.str z) lo hi H Q := ⟨z, rfl, h, q⟩
structure WS (c : Nat) (ws : List Str) : Prop where
  len : ws.length ≤ c
  sh : ∀ w ∈ ws, w.length ≤ 9 ∧ 32 ∉ tl w
theorem WS.sub {c d : Nat} {ws vs : List Str} (h : WS c ws) (s : ∀ x ∈ vs, x ∈ ws) (l : vs.length ≤ d) : WS d vs := ⟨l, fun w hw => h.sh w (s w hw)⟩
def LnOk (m : Nat) (x : Str) : Prop := x.length ≤ 330 ∧ (tl x).count 32 ≤ m
theorem LnOk.mono {m k : Nat} {x : Str} (h : LnOk m x) (i : m ≤ k) : LnOk k x := ⟨h.1, Nat.le_trans h.2 i⟩
theorem count_joinL (l : List (List Nat)) (h : ∀ w ∈ l, 32 ∉ w) : (joinL [32] l).count 32 ≤ l.length - 1 := by
  induction l with
  | nil => simp [joinL]
  | cons a r ih =>
    cases r with
    | nil =>
      show a.count 32 ≤ _
      rw [List.count_eq_zero.mpr (h a (by simp))]; simp
    | cons b r =>
      show (a ++ ([32] ++ joinL [32] (b :: r))).count 32 ≤ _
      rw [List.count_append, List.count_append, List.count_eq_zero.mpr (h a (by simp))]
      have := ih (fun w hw => h w (by simp [hw]))
      simp only [List.length_cons, List.count_singleton_self] at this ⊢
      omega
theorem WS.line {c : Nat} {ws : List Str} (h : WS (c + 1) ws) (hc : c ≤ 32) : LnOk c (lineW ws) := by
  have j := join_len SPC ws
  have l1 : SPC.length = 1 := by decide
  rw [l1] at j
  have hs := sum_le (n := 9) (fun w hw => (h.sh w hw).1)
  have hl := h.len
  refine ⟨by unfold lineW; omega, ?_⟩
  rw [tl_lineW]
  have := count_joinL (ws.map tl) (fun w hw => by
    obtain ⟨x, hx, rfl⟩ := List.mem_map.mp hw
    exact (h.sh x hx).2)
  rw [List.length_map] at this
  omega
def cB (kd : Int) : Nat := if kd = 1 then 33 else 32
def mB (kd : Int) : Nat := if kd = 1 then 32 else 31
theorem mB_le (kd : Int) : mB kd ≤ 32 := by unfold mB; split <;> omega
theorem cB_eq (kd : Int) : cB kd = mB kd + 1 := by unfold cB mB; split <;> rfl
/-- while the words of one line are bent -/
def JW (a b : Addr) (z : Str) (H0 : Hp) (n : Nat) (c : Int → Nat) (σ : L2.St) (H : Hp) : Prop := ∃ (lq wq : Addr) (at_ pl : Nat) (kd : Int) (ls ws : List Str), σ = [some (.ref a), some (.str z), some (.ref lq), some (.int (at_ : Nat)), some (.int kd), some (.ref wq), some (.int (pl : Nat)), none, none] ∧
  H lq = some (.lst (ls.map V.str)) ∧ lq ∉ [a, b] ∧ H wq = some (.lst (ws.map V.str)) ∧ wq ∉ [a, b] ∧ (kd = 2 → pl < ws.length) ∧ WS (c kd) ws ∧ (∀ x ∈ ls, LnOk 31 x) ∧ ls.length ≤ 9 ∧ at_ < ls.length ∧ Keep [a, b] H0 H ∧ StreamAt a b n H
/-- while the lines are bent -/
def JL (a b : Addr) (z : Str) (H0 : Hp) (n c : Nat) (σ : L2.St) (H : Hp) : Prop := ∃ (lq : Addr) (at_ : Nat) (kd : Int) (ls : List Str) (v5 v6 v7 v8 : Option V), σ = [some (.ref a), some (.str z), some (.ref lq), some (.int (at_ : Nat)), some (.int kd), v5, v6, v7, v8] ∧
  H lq = some (.lst (ls.map V.str)) ∧ lq ∉ [a, b] ∧ (∀ x ∈ ls, LnOk (mB kd) x) ∧ ls.length ≤ c ∧ at_ < 9 ∧ Keep [a, b] H0 H ∧ StreamAt a b n H
theorem i_slTo {K : PySem.W.Frag} {H : Hp} {Q : VK} {q : Addr} {xs : List V} {n : Nat} (h : H q = some (.lst xs)) (k : ∀ p H', H p = none → Same H H' → H' p = some (.lst (xs.take n)) → Q (.ref p) H') : rSlL K (.ref q) none (some (n : Int)) H Q := by
  refine ⟨q, xs, rfl, SqL.of h, fun p hp => ?_⟩
  rw [cut_to]
  exact k p _ hp ((Same.refl H).new hp) upd_same
theorem i_slFrom {K : PySem.W.Frag} {H : Hp} {Q : VK} {q : Addr} {xs : List V} {n : Nat} (h : H q = some (.lst xs)) (k : ∀ p H', H p = none → Same H H' → H' p = some (.lst (xs.drop n)) → Q (.ref p) H') : rSlL K (.ref q) (some (n : Int)) none H Q := by
  refine ⟨q, xs, rfl, SqL.of h, fun p hp => ?_⟩
  rw [cut_from]
  exact k p _ hp ((Same.refl H).new hp) upd_same
def spNBent (a b : Addr) : Sp := fun vs H Q _ => ∃ (n : Nat) (z : Str) (ls : List Str), vs = [.ref a, .str z] ∧ z.length ≤ 10000 ∧ lines z = ls ++ [("" : Str)] ∧ 1 ≤ ls.length ∧ ls.length ≤ 9 ∧ (∀ x ∈ ls, x.length ≤ 330 ∧ (words x).length ≤ 32 ∧ ∀ w ∈ words x, w.length ≤ 9) ∧ StreamAt a b n H ∧ n < 2 ^ 37 ∧
  ∀ y H', y.length ≤ 10000 → (∀ x ∈ lines y, (words x).length ≤ 64) → StreamAt a b (n + 10) H' → Keep [a, b] H H' → Q (.str y) H'
theorem ok_nbent {a b : Addr} (d : Fd K mg "_law_nbent" s_law_nbent P_law_nbent) (d_law_below : FdB K mg) (d_law_pick : FdPick K mg) (B : Blt2 K mg) : FnOk P w K mg base CX0 3 d.f d.fd P_law_nbent (spNBent a b) := by
  have G_law_below : FnOk P w K mg base CX0 1 d_law_below.f d_law_below.fd P_law_below (spBelow a b) := ok_below d_law_below B.toBlt
  have G_law_pick : FnOk P w K mg base CX0 2 d_law_pick.f d_law_pick.fd P_law_pick (spPick a b) := ok_pick d_law_pick d_law_below B.toBlt
  refine d.F.ok sc_law_nbent (fun vs H Q E h => ?_) (fun cdv A outer s H vs Q E hr h => ?_)
  · obtain ⟨n, z, ls, rfl, _⟩ := h
    rfl
  · obtain ⟨n, z, ls, rfl, lz, eln, l1, l9, lok, st, hn, k⟩ := h
    refine ⟨_, (pss_cons (ps_set (i := 2) sc_law_nbent.nd rfl (by first | exact Or.inl rfl | exact Or.inr rfl) (pe_slice (s_list K) (pe_m1 PySem.F.slot_str_split PySem.F.type_str_split m_split (pv 1) pe_str) po_none (po_some (pe_un un_neg pe_int))))
      (pss_cons (ps_par (i := 3) (j := 4) (by rfl) sc_law_nbent.nd rfl rfl (by decide) rfl rfl (pa_cons (pe_call G_law_below (hr.mono (by decide)) (by rfl) d_law_below.g d_law_below.F.kp d_law_below.b .nil pass0 (pa_cons (pv 0) (pa_cons (pe_callB (c_len K) (by rfl) B.len (by decide +kernel) (pa_cons (pv 2) pa_nil)) pa_nil))) (pa_cons (pe_call G_law_below (hr.mono (by decide)) (by rfl) d_law_below.g d_law_below.F.kp d_law_below.b .nil pass0 (pa_cons (pv 0) (pa_cons pe_int pa_nil))) pa_nil)) (by rfl))
      (pss_cons (ps_set (i := 5) sc_law_nbent.nd rfl (by first | exact Or.inl rfl | exact Or.inr rfl) (pe_m1 PySem.F.slot_str_split PySem.F.type_str_split m_split (pe_ix (x_list K) (pv 2) (pv 3) (fun _ _ => rfl)) pe_str))
      (pss_cons (ps_set (i := 6) sc_law_nbent.nd rfl (by first | exact Or.inl rfl | exact Or.inr rfl) (pe_call G_law_below (hr.mono (by decide)) (by rfl) d_law_below.g d_law_below.F.kp d_law_below.b .nil pass0 (pa_cons (pv 0) (pa_cons (pe_callB (c_len K) (by rfl) B.len (by decide +kernel) (pa_cons (pv 5) pa_nil)) pa_nil))))
      (pss_cons (PS.by_ (t' := fun D σ H1 => JW a b z H (n + 3) (fun _ => 32) σ H1 ∧ ∀ σ' H', JW a b z H (n + 3) (fun _ => 32) σ' H' → D.nx σ' H') ⟨_, (ps_if (pt_cmpR op_eq (pv 4) pe_int (nomark _)) (pss_one (ps_set (i := 5) sc_law_nbent.nd rfl (by first | exact Or.inl rfl | exact Or.inr rfl) (pe_op op_cat (pe_slice (s_list K) (pv 5) po_none (po_some (pv 6))) (pe_slice (s_list K) (pv 5) (po_some (pe_op op_add (pv 6) pe_int)) po_none)))) pss_nil), by
          rintro D σ H1 ⟨⟨lq, wq, at_, pl, kd, ls, ws, rfl, hlq, nlq, hwq, nwq, hpl, wo, lo, l9, hat, kp, st1⟩, q⟩
          have wl : ws.length ≤ 32 := wo.len
          walk_at "v"
          refine ifd (fun e0 => ?_) (fun _ => q _ _ ⟨lq, wq, at_, pl, kd, ls, ws, rfl, hlq, nlq, hwq, nwq, hpl, wo, lo, l9, hat, kp, st1⟩)
          have e0 := V.int.inj e0
          subst e0
          walk_at "v"
          refine i_slTo hwq (fun p1 H2 n1 s1 h1 => ?_)
          walk_at "v"
          rw [show ((pl : Int) + 1) = ((pl + 1 : Nat) : Int) by omega]
          refine i_slFrom (s1 _ _ hwq) (fun p2 H3 n2 s2 h2 => ?_)
          refine i_catN (s2 _ _ h1) h2 (by rw [List.length_take, List.length_drop, List.length_map]; omega) (fun p3 H4 n3 s3 h3 => ?_)
          have s4 := s1.trans (s2.trans s3)
          have hn : H1 p3 = none := same_none (s1.trans s2) n3
          rw [← List.map_take, ← List.map_drop, ← List.map_append] at h3
          refine q _ _ ⟨lq, p3, at_, pl, 0, ls, _, rfl, s4 _ _ hlq, nlq, h3, st1.nm hn, (fun e => by cases e), wo.sub (fun x hx => ?_) ?_, lo, l9, hat, kp.trans (Keep.of_same s4), st1.same s4⟩
          · rcases List.mem_append.mp
                hx with hx | hx
            · exact List.mem_of_mem_take hx
            · exact List.mem_of_mem_drop hx
          · rw [List.length_append, List.length_take, List.length_drop]; show _ ≤ 32; omega⟩)
      (pss_cons (PS.by_ (t' := fun D σ H1 => JW a b z H (n + 3) (fun _ => 32) σ H1 ∧ ∀ σ' H', JW a b z H (n + 4) cB σ' H' → D.nx σ' H') ⟨_, (ps_if (pt_cmpR op_eq (pv 4) pe_int (nomark _)) (pss_one (ps_set (i := 5) sc_law_nbent.nd rfl (by first | exact Or.inl rfl | exact Or.inr rfl) (pe_op op_cat (pe_op op_cat (pe_slice (s_list K) (pv 5) po_none (po_some (pv 6))) (pe_lst (pa_cons (pe_call G_law_pick (hr.mono (by decide)) (by rfl) d_law_pick.g d_law_pick.F.kp d_law_pick.b .nil pass0 (pa_cons (pv 0) (pa_cons (pe_lst (pa_cons pe_str (pa_cons pe_str (pa_cons pe_str (pa_cons pe_str (pa_cons pe_str (pa_cons pe_str (pa_cons pe_str (pa_cons pe_str (pa_cons pe_str pa_nil)))))))))) pa_nil))) pa_nil))) (pe_slice (s_list K) (pv 5) (po_some (pv 6)) po_none)))) pss_nil), by
          rintro D σ H1 ⟨⟨lq, wq, at_, pl, kd, ls, ws, rfl, hlq, nlq, hwq, nwq, hpl, wo, lo, l9, hat, kp, st1⟩, q⟩
          have wl : ws.length ≤ 32 := wo.len
          walk_at "v"
          refine ifd (fun e0 => ?_) (fun ne => q _ _ ⟨lq, wq, at_, pl, kd, ls, ws, rfl, hlq, nlq, hwq, nwq, hpl, ⟨by unfold cB; split <;> omega, wo.sh⟩, lo, l9, hat, kp, st1.mono (by omega)⟩)
          have e0 := V.int.inj e0
          subst e0
          walk_at "v"
          refine i_slTo hwq (fun p1 H2 n1 s1 h1 => ?_)
          walk_at "v"
          refine ⟨show 9 ≤ sizeLine by decide, fun g1 hg1 => ?_⟩
          have s2 : Same H2 (upd H2 g1 (.lst ([("-" : Str), "/", "?", ":", ">", "do", "cut", "a", ""].map V.str))) := (Same.refl _).new hg1
          have hg : upd H2 g1 (.lst ([("-" : Str), "/", "?", ":", ">", "do", "cut", "a", ""].map V.str)) g1 = some (.lst ([("-" : Str), "/", "?", ":", ">", "do", "cut", "a", ""].map V.str)) := upd_same
          have st2 := (st1.same s1).new (o := .lst ([("-" : Str), "/", "?", ":", ">", "do", "cut", "a", ""].map V.str)) hg1
          have ng := (st1.same s1).nm hg1
          rw [show upd H2 g1 (.lst [.str ("-" : Str), .str ("/" : Str), .str ("?" : Str), .str (":" : Str), .str (">" : Str), .str ("do" : Str), .str ("cut" : Str), .str ("a" : Str), .str ("" : Str)]) = upd H2 g1 (.lst ([("-" : Str), "/", "?", ":", ">", "do", "cut", "a", ""].map V.str)) from rfl]
          generalize upd H2 g1 (.lst ([("-" : Str), "/", "?", ":", ">", "do", "cut", "a", ""].map V.str)) = H3 at s2 hg st2
          refine ⟨n + 3, g1, _, rfl, hg, ng, by decide, by decide, st2, by omega, fun x i H4 hx st4 kp4 => ?_⟩
          obtain ⟨x, rfl, mx⟩ := pick_str hx
          have np1 : p1 ∉ [a, b] := st1.nm n1
          have hw4 := kp4 _ _ nwq ((s1.trans s2) _ _ hwq)
          have hl4 := kp4 _ _ nlq ((s1.trans s2) _ _ hlq)
          have h14 := kp4 _ _ np1 (s2 _ _ h1)
          walk_at "v"
          refine i_catG h14 (by rw [List.length_take, List.length_map]; show _ + 1 ≤ _; omega) (fun p2 H5 n5 s5 h5 => ?_)
          walk_at "v"
          refine i_slFrom (s5 _ _ hw4) (fun p3 H6 n6 s6 h6 => ?_)
          refine i_catN (s6 _ _ h5) h6 (by rw [List.length_append, List.length_take, List.length_drop, List.length_map]; show _ + 1 + _ ≤ _; omega) (fun p4 H7 n7 s7 h7 => ?_)
          have s47 : Same H4 H7 := s5.trans (s6.trans s7)
          have h7' : H7 p4 = some (.lst ((ws.take pl ++ [x] ++ ws.drop pl).map V.str)) := by rw [h7]; simp
          have kpA : Keep [a, b] H H7 := ((kp.trans (Keep.of_same (s1.trans s2))).trans kp4).trans (Keep.of_same s47)
          have hn : H4 p4 = none := same_none (s5.trans s6) n7
          have shx : ∀ w ∈ [("-" : Str), "/", "?", ":", ">", "do", "cut", "a", ""], w.length ≤ 9 ∧ 32 ∉ tl w := by decide +kernel
          refine q _ _ ⟨lq, p4, at_, pl, 1, ls, _, rfl, s47 _ _ hl4, nlq, h7', st4.nm hn, (fun e => by cases e), ⟨?_, fun w hw => ?_⟩, lo, l9, hat, kpA, st4.same s47⟩
          · show _ ≤ 33
            rw [List.length_append, List.length_append, List.length_take, List.length_drop]; simp only [List.length_cons, List.length_nil]; omega
          · rcases List.mem_append.mp hw with hw | hw
            · rcases List.mem_append.mp hw with hw | hw
              · exact wo.sh w (List.mem_of_mem_take hw)
              · simp at hw; subst hw; exact shx _ mx
            · exact wo.sh w (List.mem_of_mem_drop hw)⟩)
      (pss_cons (PS.by_ (t' := fun D σ H1 => JW a b z H (n + 4) cB σ H1 ∧ ∀ σ' H', JW a b z H (n + 4) cB σ' H' → D.nx σ' H') ⟨_, (ps_if (PW.pt (pw_and (pt_cmpR op_eq (pv 4) pe_int (nomark _)) (pw_and1 (pt_cmpR op_gt (pv 6) pe_int (nomark _))))) (pss_one (ps_set (i := 5) sc_law_nbent.nd rfl (by first | exact Or.inl rfl | exact Or.inr rfl) (pe_op op_cat (pe_op op_cat (pe_slice (s_list K) (pv 5) po_none (po_some (pe_op op_sub (pv 6) pe_int))) (pe_lst (pa_cons (pe_ix (x_list K) (pv 5) (pv 6) (fun _ _ => rfl)) (pa_cons (pe_ix (x_list K) (pv 5) (pe_op op_sub (pv 6) pe_int) (fun _ _ => rfl)) pa_nil)))) (pe_slice (s_list K) (pv 5) (po_some (pe_op op_add (pv 6) pe_int)) po_none)))) pss_nil), by
          rintro D σ H1 ⟨⟨lq, wq, at_, pl, kd, ls, ws, rfl, hlq, nlq, hwq, nwq, hpl, wo, lo, l9, hat, kp, st1⟩, q⟩
          have wl := wo.len
          walk_at "v"
          have same : JW a b z H (n + 4) cB [some (.ref a), some (.str z), some (.ref lq), some (.int (at_ : Nat)), some (.int kd), some (.ref wq), some (.int (pl : Nat)), none, none] H1 := ⟨lq, wq, at_, pl, kd, ls, ws, rfl, hlq, nlq, hwq, nwq, hpl, wo, lo, l9, hat, kp, st1⟩
          refine ifd (fun e0 => ?_) (fun _ => ?_)
          · have e0 := V.int.inj e0
            subst e0
            have wl : ws.length ≤ 32 := wl
            have hp := hpl rfl
            walk_at "v"
            refine ifd (fun c => ?_) (fun _ => q _ _ same)
            obtain ⟨pm, rfl⟩ : ∃ m, pl = m + 1 := ⟨pl - 1, by omega⟩
            walk_at "v"
            have ep : ((pm + 1 : Nat) : Int) - 1 = ((pm : Nat) : Int) := by omega
            rw [ep]
            refine i_slTo hwq (fun p1 H2 n1 s1 h1 => ?_)
            have hw2 := s1 _ _ hwq
            obtain ⟨x, hx⟩ : ∃ x, ws[pm + 1]? = some x := ⟨_, List.getElem?_eq_getElem hp⟩
            obtain ⟨y, hy⟩ : ∃ y, ws[pm]? = some y := ⟨_, List.getElem?_eq_getElem (by omega)⟩
            walk_at "v"
            refine i_ixL hw2 (atI_nat (j := pm + 1) (by rw [List.getElem?_map, hx]; rfl)) ?_
            walk_at "v"
            rw [ep]
            refine i_ixL hw2 (atI_nat (j := pm) (by rw [List.getElem?_map, hy]; rfl)) ?_
            walk_at "v"
            refine i_catG h1 (by rw [List.length_take, List.length_map]; show _ + 2 ≤ _; omega) (fun p2 H3 n3 s3 h3 => ?_)
            walk_at "v"
            rw [show ((pm + 1 : Nat) : Int) + 1 = ((pm + 2 : Nat) : Int) by omega]
            refine i_slFrom (s3 _ _ hw2) (fun p3 H4 n4 s4 h4 => ?_)
            refine i_catN (s4 _ _ h3) h4 (by rw [List.length_append, List.length_take, List.length_drop, List.length_map]; show _ + 2 + _ ≤ _; omega) (fun p4 H5 n5 s5 h5 => ?_)
            have s15 := s1.trans (s3.trans (s4.trans s5))
            have h5' : H5 p4 = some (.lst ((ws.take pm ++ [x, y] ++ ws.drop (pm + 2)).map V.str)) := by rw [h5]; simp
            have hn : H1 p4 = none := same_none (s1.trans (s3.trans s4)) n5
            have le : (ws.take pm ++ [x, y] ++ ws.drop (pm + 2)).length = ws.length := by
              rw [List.length_append, List.length_append, List.length_take, List.length_drop]; simp only [List.length_cons, List.length_nil]; omega
            refine q _ _ ⟨lq, p4, at_, pm + 1, 2, ls, _, rfl, s15 _ _ hlq, nlq, h5', st1.nm hn, (fun _ => by rw [le]; exact hp), ⟨by rw [le]; exact wo.len, fun w hw => ?_⟩, lo, l9, hat, kp.trans (Keep.of_same s15), st1.same s15⟩
            rcases List.mem_append.mp hw with hw | hw
            · rcases List.mem_append.mp hw with hw | hw
              · exact wo.sh w (List.mem_of_mem_take hw)
              · simp only [List.mem_cons, List.not_mem_nil, or_false] at hw
                rcases hw with rfl | rfl
                · exact wo.sh _ (List.mem_of_getElem? hx)
                · exact wo.sh _ (List.mem_of_getElem? hy)
            · exact wo.sh w (List.mem_of_mem_drop hw)
          · refine iteF ?_
            exact q _ _ same⟩)
      (pss_cons (PS.by_ (t' := fun D σ H1 => JW a b z H (n + 4) cB σ H1 ∧ ∀ σ' H', JL a b z H (n + 4) 9 σ' H' → D.nx σ' H') ⟨_, (ps_set (i := 2) sc_law_nbent.nd rfl (by first | exact Or.inl rfl | exact Or.inr rfl) (pe_op op_cat (pe_op op_cat (pe_slice (s_list K) (pv 2) po_none (po_some (pv 3))) (pe_lst (pa_cons (pe_m1 PySem.F.slot_str_join PySem.F.type_str_join (m_join K) pe_str (pv 5)) pa_nil))) (pe_slice (s_list K) (pv 2) (po_some (pe_op op_add (pv 3) pe_int)) po_none))), by
          rintro D σ H1 ⟨⟨lq, wq, at_, pl, kd, ls, ws, rfl, hlq, nlq, hwq, nwq, hpl, wo, lo, l9, hat, kp, st1⟩, q⟩
          walk_at "v"
          refine i_slTo hlq (fun p1 H2 n1 s1 h1 => ?_)
          walk_at "v"
          have lw := WS.line (c := mB kd) (by rw [← cB_eq]; exact wo) (mB_le kd)
          have hsum := sum_le (n := 9) (fun w hw => (wo.sh w hw).1)
          have hlen := wo.len
          have cb := mB_le kd
          rw [cB_eq] at hlen
          have l1 : SPC.length = 1 := by decide
          refine i_join (s1 _ _ hwq) (by show _ + _ * SPC.length ≤ _; rw [l1]; omega) ?_
          walk_at "v"
          refine i_catG h1 (by rw [List.length_take, List.length_map]; show _ + 1 ≤ _; omega) (fun p2 H3 n3 s3 h3 => ?_)
          walk_at "v"
          rw [show ((at_ : Int) + 1) = ((at_ + 1 : Nat) : Int) by omega]
          refine i_slFrom ((s1.trans s3) _ _ hlq) (fun p3 H4 n4 s4 h4 => ?_)
          refine i_catN (s4 _ _ h3) h4 (by rw [List.length_append, List.length_take, List.length_drop, List.length_map]; show _ + 1 + _ ≤ _; omega) (fun p4 H5 n5 s5 h5 => ?_)
          have s15 := s1.trans (s3.trans (s4.trans s5))
          have h5' : H5 p4 = some (.lst ((ls.take at_ ++ [lineW ws] ++ ls.drop (at_ + 1)).map V.str)) := by rw [h5]; simp [lineW]
          have hn : H1 p4 = none := same_none (s1.trans (s3.trans s4)) n5
          have m31 : 31 ≤ mB kd := by unfold mB; split <;> omega
          refine q _ _ ⟨p4, at_, kd, _, _, _, _, _, rfl, h5', st1.nm hn, fun x hx => ?_, ?_, by omega, kp.trans (Keep.of_same s15), st1.same s15⟩
          · rcases List.mem_append.mp
                hx with hx | hx
            · rcases List.mem_append.mp
                  hx with hx | hx
              · exact (lo x (List.mem_of_mem_take hx)).mono m31
              · simp at hx; subst hx; exact lw
            · exact (lo x (List.mem_of_mem_drop hx)).mono m31
          · rw [List.length_append, List.length_append, List.length_take, List.length_drop]; simp only [List.length_cons, List.length_nil]; omega⟩)
      (pss_cons (PS.by_ (t' := fun D σ H1 => JL a b z H (n + 4) 9 σ H1 ∧ ∀ σ' H', JL a b z H (n + 4) 10 σ' H' → D.nx σ' H') ⟨_, (ps_if (pt_cmpR op_eq (pv 4) pe_int (nomark _)) (pss_one (ps_set (i := 2) sc_law_nbent.nd rfl (by first | exact Or.inl rfl | exact Or.inr rfl) (pe_op op_cat (pe_slice (s_list K) (pv 2) po_none (po_some (pe_op op_add (pv 3) pe_int))) (pe_slice (s_list K) (pv 2) (po_some (pv 3)) po_none)))) pss_nil), by
          rintro D σ H1 ⟨⟨lq, at_, kd, ls, v5, v6, v7, v8, rfl, hlq, nlq, lo, lc, hat, kp, st1⟩, q⟩
          walk_at "v"
          refine ifd (fun e0 => ?_) (fun _ => q _ _ ⟨lq, at_, kd, ls, v5, v6, v7, v8, rfl, hlq, nlq, lo, by omega, hat, kp, st1⟩)
          walk_at "v"
          rw [show ((at_ : Int) + 1) = ((at_ + 1 : Nat) : Int) by omega]
          refine i_slTo (n := at_ + 1) hlq (fun p1 H2 n1 s1 h1 => ?_)
          walk_at "v"
          refine i_slFrom (n := at_) (s1 _ _ hlq) (fun p2 H3 n2 s2 h2 => ?_)
          refine i_catN (s2 _ _ h1) h2 (by rw [List.length_take, List.length_drop, List.length_map]; omega) (fun p3 H4 n3 s3 h3 => ?_)
          have s4 := s1.trans (s2.trans s3)
          have hn : H1 p3 = none := same_none (s1.trans s2) n3
          rw [← List.map_take, ← List.map_drop, ← List.map_append] at h3
          refine q _ _ ⟨p3, at_, kd, _, _, _, _, _, rfl, h3, st1.nm hn, fun x hx => ?_, ?_, hat, kp.trans (Keep.of_same s4), st1.same s4⟩
          · rcases List.mem_append.mp
                hx with hx | hx
            · exact lo x (List.mem_of_mem_take hx)
            · exact lo x (List.mem_of_mem_drop hx)
          · rw [List.length_append, List.length_take, List.length_drop]; omega⟩)
      (pss_cons (PS.by_ (t' := fun D σ H1 => JL a b z H (n + 4) 10 σ H1 ∧ ∀ σ' H', JL a b z H (n + 4) 10 σ' H' → D.nx σ' H') ⟨_, (ps_if (pt_cmpR op_eq (pv 4) pe_int (nomark _)) (pss_one (ps_set (i := 2) sc_law_nbent.nd rfl (by first | exact Or.inl rfl | exact Or.inr rfl) (pe_op op_cat (pe_slice (s_list K) (pv 2) po_none (po_some (pv 3))) (pe_slice (s_list K) (pv 2) (po_some (pe_op op_add (pv 3) pe_int)) po_none)))) pss_nil), by
          rintro D σ H1 ⟨⟨lq, at_, kd, ls, v5, v6, v7, v8, rfl, hlq, nlq, lo, lc, hat, kp, st1⟩, q⟩
          walk_at "v"
          refine ifd (fun e0 => ?_) (fun _ => q _ _ ⟨lq, at_, kd, ls, v5, v6, v7, v8, rfl, hlq, nlq, lo, by omega, hat, kp, st1⟩)
          walk_at "v"
          refine i_slTo (n := at_) hlq (fun p1 H2 n1 s1 h1 => ?_)
          walk_at "v"
          rw [show ((at_ : Int) + 1) = ((at_ + 1 : Nat) : Int) by omega]
          refine i_slFrom (n := at_ + 1) (s1 _ _ hlq) (fun p2 H3 n2 s2 h2 => ?_)
          refine i_catN (s2 _ _ h1) h2 (by rw [List.length_take, List.length_drop, List.length_map]; omega) (fun p3 H4 n3 s3 h3 => ?_)
          have s4 := s1.trans (s2.trans s3)
          have hn : H1 p3 = none := same_none (s1.trans s2) n3
          rw [← List.map_take, ← List.map_drop, ← List.map_append] at h3
          refine q _ _ ⟨p3, at_, kd, _, _, _, _, _, rfl, h3, st1.nm hn, fun x hx => ?_, ?_, hat, kp.trans (Keep.of_same s4), st1.same s4⟩
          · rcases List.mem_append.mp
                hx with hx | hx
            · exact lo x (List.mem_of_mem_take hx)
            · exact lo x (List.mem_of_mem_drop hx)
          · rw [List.length_append, List.length_take, List.length_drop]; omega⟩)
      (pss_cons (ps_set (i := 7) sc_law_nbent.nd rfl (by first | exact Or.inl rfl | exact Or.inr rfl) (pe_m1 PySem.F.slot_str_join PySem.F.type_str_join (m_join K) pe_str (pe_lc (own := [("line", 8)]) (g := gName 8) (tt := tYes) rfl sc_law_nbent.nd (w_list K (pv 2)) (blkOk_by (own := [("line", 8)]) (N := N_law_nbent) (sc := defScope s_law_nbent) (by decide +kernel)) (fun _ _ _ _ _ => by exact (pg_name (i := 8) sc_law_nbent.nd rfl (by first | exact Or.inl rfl | exact Or.inr rfl))) (fun _ _ _ _ _ => pts_nil) (fun _ _ _ _ _ => by exact (pe_op o_addS (pv 8) pe_str)))))
      (pss_cons (ps_if (pt_cmpR op_eq (pv 4) pe_int (nomark _)) (pss_cons (ps_set (i := 6) sc_law_nbent.nd rfl (by first | exact Or.inl rfl | exact Or.inr rfl) (pe_call G_law_below (hr.mono (by decide)) (by rfl) d_law_below.g d_law_below.F.kp d_law_below.b .nil pass0 (pa_cons (pv 0) (pa_cons (pe_op op_add (pe_callB c_lenS (by rfl) B.len (by decide +kernel) (pa_cons (pv 7) pa_nil)) pe_int) pa_nil))))
      (pss_one (ps_ret (pe_op o_addS (pe_op o_addS (pe_slice sl_str (pv 7) po_none (po_some (pv 6))) (pe_call G_law_pick (hr.mono (by decide)) (by rfl) d_law_pick.g d_law_pick.F.kp d_law_pick.b .nil pass0 (pa_cons (pv 0) (pa_cons (pe_op op_cat (pe_callTy (c_listS rfl) (by rfl) B.list (by decide +kernel) (pa_cons pe_str pa_nil)) (pe_lst (pa_cons pe_str pa_nil))) pa_nil)))) (pe_slice sl_str (pv 7) (po_some (pe_op op_add (pv 6) (pe_call G_law_below (hr.mono (by decide)) (by rfl) d_law_below.g d_law_below.F.kp d_law_below.b .nil pass0 (pa_cons (pv 0) (pa_cons pe_int pa_nil))))) po_none))))) pss_nil)
      (pss_one (ps_ret (pv 7))))))))))))))), ?_⟩
    walk_at "v"
    refine i_split (by decide +kernel) (Nat.le_trans (Nat.add_le_add_right lz 2) (by decide)) (fun p hp => ?_)
    rw [show Txt.split z (Str.ofString "\n") = ls ++ [("" : Str)] from eln, List.map_append]
    have s1 : Same H (upd H p (.lst (ls.map V.str ++ [("" : Str)].map V.str))) := (Same.refl H).new hp
    have h1 : upd H p (.lst (ls.map V.str ++ [("" : Str)].map V.str)) p = some (.lst (ls.map V.str ++ [.str ("" : Str)])) := upd_same
    generalize upd H p (.lst (ls.map V.str ++ [("" : Str)].map V.str)) = H1 at s1 h1
    walk_at "v"
    refine ⟨p, _, rfl, SqL.of h1, fun q hq => ?_⟩
    rw [cut_last]
    have s2 : Same H (upd H1 q (.lst (ls.map V.str))) := s1.new hq
    have h2 : upd H1 q (.lst (ls.map V.str)) q = some (.lst (ls.map V.str)) := upd_same
    have nq : q ∉ [a, b] := st.nm (same_none s1 hq)
    generalize upd H1 q (.lst (ls.map V.str)) = H2 at s2 h2
    walk_at "v"
    have ll : (ls.map V.str).length = ls.length := List.length_map ..
    refine ⟨n, _, rfl, by rw [ll]; omega, by rw [ll]; omega, st.same s2, by omega, fun d1 H3 d0 d9 st3 kp3 => ?_⟩
    rw [ll] at d9
    obtain ⟨at_, rfl⟩ : ∃ j : Nat, d1 = j := ⟨d1.toNat, by omega⟩
    have h3 := kp3 _ _ nq h2
    walk_at "v"
    refine ⟨n + 1, 6, rfl, by decide, by decide, st3, by omega, fun kd H4 k0 k6 st4 kp4 => ?_⟩
    have h4 := kp4 _ _ nq h3
    walk_at "v"
    have hlt : at_ < ls.length := by omega
    obtain ⟨x, hx⟩ : ∃ x, ls[at_]? = some x := ⟨_, List.getElem?_eq_getElem hlt⟩
    obtain ⟨lx, lwx, lsx⟩ := lok x (List.mem_of_getElem? hx)
    refine i_ixL h4 (atI_nat (j := at_) (by rw [List.getElem?_map, hx]; rfl)) ?_
    walk_at "v"
    refine i_split (by decide +kernel) (Nat.le_trans (Nat.add_le_add_right lx 2) (by decide)) (fun wq hwq => ?_)
    have h5 : upd H4 wq (.lst ((words x).map V.str)) wq = some (.lst ((words x).map V.str)) := upd_same
    have h5' : upd H4 wq (.lst ((words x).map V.str)) q = some (.lst (ls.map V.str)) := h_new h4 hwq
    have st5 := st4.new (o := .lst ((words x).map V.str)) hwq
    have nwq := st4.nm hwq
    have kp5 : Keep [a, b] H (upd H4 wq (.lst ((words x).map V.str))) := ((((Keep.of_same s2).trans kp3).trans kp4)).new hwq
    rw [show Txt.split x (Str.ofString " ") = words x from rfl]
    generalize upd H4 wq (.lst ((words x).map V.str)) = H5 at h5 h5' st5 kp5
    walk_at "v"
    have lwv : ((words x).map V.str).length = (words x).length := List.length_map ..
    have pw : 1 ≤ (words x).length := by rw [words_count]; omega
    refine ⟨n + 2, _, rfl, by rw [lwv]; omega, by rw [lwv]; omega, st5, by omega, fun d2 H6 e0 e9 st6 kp6 => ?_⟩
    rw [lwv] at e9
    obtain ⟨pl, rfl⟩ : ∃ j : Nat, d2 = j := ⟨d2.toNat, by omega⟩
    have wsh : ∀ w ∈ words x, w.length ≤ 9 ∧ 32 ∉ tl w := fun w hw => ⟨lsx w hw, words_free x w hw⟩
    have lnk : ∀ y ∈ ls, LnOk 31 y := fun y hy => by
      obtain ⟨u1, u2, _⟩ := lok y hy
      rw [words_count] at u2
      exact ⟨u1, by omega⟩
    walk_at "v"
    refine ⟨⟨q, wq, at_, pl, kd, ls, words x, rfl, kp6 _ _ nq h5', nq, kp6 _ _ nwq h5, nwq, fun _ => by omega, ⟨lwx, wsh⟩, lnk, l9, hlt, kp5.trans kp6, st6⟩, fun σ1 G1 j1 => ?_⟩
    walk_at "v"
    refine ⟨j1, fun σ2 G2 j2 => ?_⟩
    walk_at "v"
    refine ⟨j2, fun σ3 G3 j3 => ?_⟩
    walk_at "v"
    refine ⟨j3, fun σ4 G4 j4 => ?_⟩
    walk_at "v"
    refine ⟨j4, fun σ5 G5 j5 => ?_⟩
    walk_at "v"
    refine ⟨j5, fun σ6 G6 j6 => ?_⟩
    clear j1 j2 j3 j4 j5 h1 h2 h3 h4 h5 h5' st3 st4 st5 st6 kp3 kp4 kp5 kp6
    obtain ⟨lq, at_, kd, us, v5, v6, v7, v8, rfl, hlq, nlq, lo, lc, hat, kp, st1⟩ := j6
    walk_at "v"
    refine w_lst hlq ?_
    refine lc_by (walk_list (xs := us.map V.str)) fun D hD => ⟨fun i H' => H' D = some (.lst (((us.take i).map fun l => l ++ NLN).map V.str)) ∧ Same G6 H', ⟨upd_same, (Same.refl _).new hD⟩, fun i H' _ ⟨_, s⟩ => SqL.of (s _ _ hlq), ?_, ?_⟩
    · rintro i x H4 H5 hi ⟨hD4, s4⟩ ⟨rfl, hx⟩
      rw [List.getElem?_map] at hx
      obtain ⟨y, hy, rfl⟩ := Option.map_eq_some_iff.mp hx
      walk_at "v"
      have ly := (lo y (List.mem_of_getElem? hy)).1
      have nl : NLN.length = 1 := by decide
      refine i_adds (x := y) (y := NLN) (small_sz (by rw [nl]; omega)) ?_
      refine ⟨_, hD4, by simp only [List.length_map, List.length_take]; exact small1000 (by omega), ?_, s4.put hD⟩
      rw [List.take_succ, hy]
      simpa using upd_same
    · rintro H4 ⟨hD4, s4⟩
      rw [show (us.map V.str).length = us.length by simp, List.take_length] at hD4
      have l0 : ("" : Str).length = 0 := by decide
      have nl : NLN.length = 1 := by decide
      have sums : ∀ x ∈ us.map (fun l => l ++ NLN), x.length ≤ 331 := fun x hx => by
        obtain ⟨y, hy, rfl⟩
              := List.mem_map.mp hx
        have := (lo y hy).1
        rw [len_app, nl]; omega
      have hs := sum_le sums
      have hj := join_len ("" : Str) (us.map fun l => l ++ NLN)
      rw [l0] at hj
      simp only [List.length_map] at hs
      walk_at "v"
      refine i_join hD4 (by rw [l0]; omega) ?_
      have etl : tl (Txt.join ("" : Str) (us.map fun l => l ++ NLN)) = (us.map fun x => tl x ++ [10]).flatten := tl_text us
      have lim : Lim (mB kd) (tl (Txt.join ("" : Str) (us.map fun l => l ++ NLN))) := by
        rw [etl]; exact Lim.text (fun x hx => (lo x hx).2)
      have lb : (Txt.join ("" : Str) (us.map fun l => l ++ NLN)).length ≤ 3310 := by omega
      generalize Txt.join ("" : Str) (us.map fun l => l ++ NLN) = bt at lim lb
      have st4 := st1.same s4
      have kp4 := kp.trans (Keep.of_same (S := [a, b]) s4)
      clear hD4 hlq etl hs hj
      walk_at "v"
      refine ifd (fun e5 => ?_) (fun _ => ?_)
      · have e5 := V.int.inj e5
        subst e5
        have lim : Lim 31 (tl bt) := lim
        have zs : bt.length ≤ sizeLine := small_sz (by omega)
        walk_at "v"
        refine i_lenS zs ?_
        walk_at "v"
        refine ⟨n + 4, (bt.length : Int) + 1, rfl, by omega, by omega, st4, by omega, fun d1 H5 d10 d11 st5 kp5 => ?_⟩
        obtain ⟨pp, rfl⟩ : ∃ j : Nat, d1 = j := ⟨d1.toNat, by omega⟩
        walk_at "v"
        refine i_slS zs ?_
        walk_at "v"
        refine ⟨_, rfl, by decide, fun l hl => ?_⟩
        walk_at "v"
        refine ⟨show 1 ≤ sizeLine by decide, fun l2 hl2 => ?_⟩
        refine i_catN (h_new upd_same hl2) upd_same (by rw [List.length_map]; decide) (fun l3 H6 n6 s6 h6 => ?_)
        have s5 : Same H5 H6 := (((Same.refl H5).new hl).new hl2).trans s6
        have kp6 := kp4.trans (kp5.trans (Keep.of_same (S := [a, b]) s5))
        have st6 := st5.same s5
        have n3 := st5.nm (same_none (((Same.refl H5).new hl).new hl2) n6)
        walk_at "v"
        refine ⟨n + 5, l3, _, rfl, h6, n3, by simp, ?_, st6, by omega, fun x i H7 hx st7 kp7 => ?_⟩
        · rw [List.length_append, List.length_map]; decide
        obtain ⟨sg, rfl, lsg⟩ : ∃ sg : Str, x = .str sg ∧ sg.length ≤ 1 := by
          have hm := List.mem_of_getElem? hx
          rcases List.mem_append.mp
                hm with hm | hm
          · obtain ⟨c, _, rfl⟩ := List.mem_map.mp hm
            exact ⟨_, rfl, by show 1 ≤ 1; decide⟩
          · simp only [List.mem_cons, List.not_mem_nil, or_false] at hm
            subst hm
            exact ⟨_, rfl, by decide⟩
        have tA := cutS_to bt pp
        have lA : (cutS bt none (some (pp : Int))).length ≤ 3310 := by rw [len_tl, tA, List.length_take, ← len_tl]; omega
        refine i_adds (small_sz (by omega)) ?_
        walk_at "v"
        refine ⟨n + 6, 2, rfl, by decide, by decide, st7, by omega, fun d2 H8 d20 d21 st8 kp8 => ?_⟩
        obtain ⟨dd, rfl⟩ : ∃ j : Nat, d2 = j := ⟨d2.toNat, by omega⟩
        walk_at "v"
        rw [show ((pp : Int) + (dd : Int)) = ((pp + dd : Nat) : Int) by omega]
        have tC := cutS_from bt (pp + dd)
        have lC : (cutS bt (some ((pp + dd : Nat) : Int)) none).length ≤ 3310 := by rw [len_tl, tC, List.length_drop, ← len_tl]; omega
        refine i_slS zs ?_
        refine i_adds (small_sz (by rw [len_app]; omega)) ?_
        walk_at "v"
        refine k _ H8 (by rw [len_app, len_app]; omega) (fun x hx => ?_) (st8.mono (by omega)) ((kp6.trans kp7).trans kp8)
        have limA : Lim 31 (tl (cutS bt none (some (pp : Int)))) := lim.infix (by rw [tA]; exact (List.take_prefix _ _).isInfix)
        have limC : Lim 31 (tl (cutS bt (some ((pp + dd : Nat) : Int)) none)) := lim.infix (by rw [tC]; exact (List.drop_suffix _ _).isInfix)
        have limS : Lim 1 (tl sg) := (Lim.short _).mono (by rw [← len_tl]; exact lsg)
        have limY := (limA.app limS).app limC
        rw [← tl_append, ← tl_append] at limY
        exact lines_words limY x hx
      · walk_at "v"
        refine k bt H4 (by omega) (fun x hx => ?_) (st4.mono (by omega)) kp4
        have := lines_words lim x hx
        have := mB_le kd
        omega
end Lr
set_option Elab.async false
set_option linter.all false
set_option maxRecDepth 100000
set_option maxHeartbeats 4000000
/-! Vw: what a law's own text wants: its code object, what stands through its turns. -/
namespace Lr
open PySem PySem.Spec PyProof.Rows L2 TL
open LamX (GivesAt CodeO Tabs TabS TabB ExtN)
variable {P : Program} {w : World} {K :
      PySem.W.Frag} {mg : Str → Option Value} {base : Heap}
/-- a def whose code object stands at c -/
theorem okC {x qual : Str} {st : Stmt} {f c : Addr} {N ps : List Str} {k : Nat} {sp : Sp} {oc kV doc pm ct : Value} {od an : Option Addr} {osl : Array (Option Value)}
    (lk : K.lookup f = some ⟨oc, od, .func (PySem.W.fnOf x qual (defArgs st) (defBody st) (defScope st) .none kV doc pm an (.ref c) ct), osl⟩) (hcd : PySem.W.codeIn K (.ref c) qual = true) (S : FnScope N ps (defScope st)) (len : ∀ vs H Q E, sp vs H Q E → vs.length = ps.length)
    (hbody : ∀ (A : Around) (outer : List Env) (s : Shared) (H : Hp) (vs : List V) (Q : VK) (E : XK), Room k (A.deeper (envOfC qual (defScope st) s.heap.objs.size f (.ref c))) → sp vs H Q E →
      ∃ t, PSs (cxOf CX0 P w K mg base N qual (defScope st) f (.ref c) A outer s H E).nox (defBody st) t ∧ t { nx := fun _ H' => Q .non H', rt := Q } (start N vs) H) :
    FnOk P w K mg base CX0 (k + 1) f (PySem.W.fnOf x qual (defArgs st) (defBody st) (defScope st) .none kV doc pm an (.ref c) ct) ps sp := by
  refine fn_of lk hcd S len fun
        A outer s H vs Q E hr hsp => ?_
  obtain ⟨t, h, q⟩ := hbody A outer s H vs Q E hr hsp
  exact ⟨t, h.nox, q⟩
/-! ### what stands through the law's turns -/
section
variable {H H' : Hp}
mutual
theorem Dt.extn {S : List Addr} (k : ExtN H H') : ∀ (d : PyData) (v : V), Dt S H d v → Dt S H' d v
  | .none, _, h => by unfold Dt at *; exact h
  | .bool b, _, h => by unfold Dt at *; exact h
  | .int i, _, h => by unfold Dt at *; exact h
  | .str x, _, h => by unfold Dt at *; exact h
  | .list ds, _, h => by
    unfold Dt at *
    obtain ⟨a, xs, e, n, q, z⟩ := h
    exact ⟨a, xs, e, n, k a _ q (fun ps e => nomatch e), DtAll.extn k ds xs z⟩
  | .tuple ds, _, h => by
    unfold Dt at *
    obtain ⟨a, xs, e, n, q, z⟩ := h
    exact ⟨a, xs, e, n, k a _ q (fun ps e => nomatch e), DtAll.extn k ds xs z⟩
  | .dict _, _, h => by unfold Dt at h; exact h.elim
theorem DtAll.extn {S : List Addr} (k : ExtN H H') : ∀ (ds : List PyData) (xs : List V), DtAll S H ds xs → DtAll S H' ds xs
  | [], _, h => by rw [DtAll.nil_iff] at *; exact h
  | d :: ds, _, h => by
    obtain ⟨x, r, e, h1, h2⟩ := DtAll.cons_iff.mp h
    exact DtAll.cons_iff.mpr ⟨x, r, e, Dt.extn k d x h1, DtAll.extn k ds r h2⟩
end
end
theorem StreamAt.extn {a b : Addr} {n : Nat} {H H' : Hp} (s : StreamAt a b n H) (k : ExtN H H') : StreamAt a b n H' := by
  obtain ⟨ne, cells, x, c, m, h1, h2, r⟩ := s
  exact ⟨ne, cells, x, c, m, k _ _ h1 (fun _ e => nomatch e), k _ _ h2 (fun _ e => nomatch e), r⟩
theorem tabs_kp {T : List (Addr × Str)} {H H' : Hp} {M : List Addr} (t : Tabs T H) (k : Keep M H H') (hM : ∀ m ∈ M, ∃ xs, H m = some (.lst xs)) : Tabs T H' := fun p hp => by
  obtain ⟨ps, h1, h2, h3⟩ := t p hp
  have no : ∀ {z : Addr} {o : HO}, H z = some o → (∀ xs, o ≠ .lst xs) → z ∉ M := fun e n m => by
    obtain ⟨xs, e2⟩ := hM _ m
    rw [e2] at e; cases e
    exact n xs rfl
  refine ⟨ps, k _ _ (no h1 (fun _ e => nomatch e)) h1, h2, fun pos cv hc => ?_⟩
  obtain ⟨c, e1, e2⟩
        := h3 pos cv hc
  exact ⟨c, e1, k _ _ (no e2 (fun xs e => by unfold CodeO at e; cases e)) e2⟩
theorem StreamAt.lsts {a b : Addr} {n : Nat} {H : Hp} (s : StreamAt a b n H) : ∀ m ∈ [a, b], ∃ xs, H m = some (.lst xs) := by
  obtain ⟨ne, cells, x, c, m, h1, h2, r⟩ := s
  intro z hz
  rcases List.mem_cons.mp
        hz with rfl | hz
  · exact ⟨_, h1⟩
  · simp at hz; subst hz; exact ⟨_, h2⟩
theorem FnOk.ex {ι : Type} {CX : CXT} {k : Nat} {f : Addr} {fd : FuncData} {ps : List Str} {sp : ι → Sp} (F : ∀ i, FnOk P w K mg base CX k f fd ps (sp i)) : FnOk P w K mg base CX k f fd ps (fun vs H Q E => ∃ i, sp i vs H Q E) :=
  ⟨fun vs H Q E ⟨i, h⟩ => (F i).len vs H Q E h, fun A outer s H args us vs Q E hr he hb hv ⟨i, h⟩ => (F i).run A outer s H args us vs Q E hr he hb hv h⟩
def bodyOf : Stmt → List Stmt
  | .For _ _ b _ _ => b
  | _ => []
end Lr
set_option Elab.async false
set_option linter.all false
set_option maxRecDepth 100000
set_option maxHeartbeats 4000000
namespace Lr
open PySem PySem.Spec PyProof.Rows L2 TL
open C8 (InsC call_isC)
open LamX (GivesAt CodeO Tabs TabS TabB ExtN)
local macro_rules | `(tactic| walk_at "ne") => `(tactic| (first | assumption | (refine ne_sym ?_; assumption) | (exact ne_of_none (by assumption) (by assumption)) | (exact ne_sym (ne_of_none (by assumption) (by assumption)))))
local macro_rules | `(tactic| walk_at "h") => `(tactic| (first | assumption | exact upd_same | (refine h_new ?_ (by assumption); walk_at "h") | (refine h_ne (by walk_at "ne") ?_; walk_at "h")))
local macro_rules | `(tactic| walk_at "v1") => `(tactic| (with_reducible first
  | refine i_seq ?_ | refine i_asg ?_ | refine i_ret ?_ | refine i_next ?_ | refine i_drop ?_ | refine i_ifS ?_ | refine i_if ?_ | refine i_and ?_ | refine i_or ?_ | refine i_not ?_ | refine i_test ?_ | refine i_tB ?_ | refine i_bl ?_ | refine i_yes ?_
  | refine i_op ?_ | refine i_un ?_ | refine i_chain ?_ | refine i_andV ?_ | refine i_orV ?_ | refine i_notV ?_ | refine i_cb ?_ | refine i_cons ?_ | refine i_nil ?_ | refine i_bm ?_ | refine i_bm0 ?_ | refine i_c ?_ | refine i_name ?_ | refine i_sub ?_
  | refine i_call ?_ | refine i_lst ?_ | refine i_tup ?_ | refine i_par ?_ | refine i_par2 ?_ | refine i_sl ?_ | refine i_np ?_ | refine i_pt ?_ | refine i_int ?_ | refine i_m0 ?_ | refine i_m1 ?_ | refine i_isS ?_
  | refine i_rI0 ?_ | refine i_inSign ?_ | refine i_notInSign ?_ | refine i_int1 ?_ | refine i_tru ?_ | refine i_isN ?_ | refine i_notN ?_ | refine iteT ?_ | refine iteF ?_ | refine i_brk ?_ | refine i_rt ?_ | refine i_nx ?_ | refine i_bk ?_ | refine i_ct ?_ | refine i_for ?_ | refine i_lc ?_ | refine i_dc ?_ | refine i_iL ?_ | refine i_iT ?_ | refine i_iR1 ?_ | refine i_iR2 ?_ | refine i_iS ?_ | refine i_iE ?_ | refine i_iEK ?_ | refine i_iEQ ?_ | refine i_iZS ?_ | refine i_dget ?_ | refine i_fld ?_ | refine i_sfld ?_ | refine i_dput ?_ | refine i_meth ?_ | refine i_rU ?_ | refine i_cont ?_ | refine i_make ?_))
local macro_rules | `(tactic| walk_at "v2") => `(tactic| (first
  | ((with_reducible refine' i_var ?k1 ?_); (case k1 => exact rfl))
  | ((with_reducible refine' i_eq ?k1 ?_); (case k1 => exact rfl))
  | ((with_reducible refine' i_ne ?k1 ?_); (case k1 => exact rfl))
  | ((with_reducible refine' i_ixL ?k1 ?k2 ?_); (case k1 => walk_at "h"); (case k2 => exact rfl))
  | ((with_reducible refine' i_ixT ?k1 ?k2 ?_); (case k1 => walk_at "h"); (case k2 => exact rfl))
  | ((with_reducible refine' i_lenL ?k1 ?_); (case k1 => walk_at "h"))
  | ((with_reducible refine' i_lenT ?k1 ?_); (case k1 => walk_at "h"))
  | (refine i_wipe (show wipe _ _ = wipe _ _ from rfl) ?_)
  | ((with_reducible refine' i_setL ?k1 ?k2 ?_); (case k1 => walk_at "h"); (case k2 => exact rfl))
  | ((with_reducible refine' i_tyl ?k1 ?_); (case k1 => walk_at "h"))))
local macro_rules | `(tactic| walk_at "v") => `(tactic| repeat (first | walk_at "v1" | walk_at "v2"))

variable {P : Program} {w : World} {K :
      PySem.W.Frag} {mg : Str → Option Value} {base : Heap}
abbrev slaw : Stmt := top 60
abbrev Nlaw : List Str := ["script", "stream", "turn", "rule", "lines", "text", "read", "made", "again", "due", "bent", "odd", "step", "line"]
abbrev Plaw : List Str := ["script"]
theorem sclaw : FnScope Nlaw Plaw (defScope slaw) := ⟨rfl, rfl, rfl, by decide +kernel, rfl, by decide +kernel, by decide +kernel⟩
def lawQ : Str := (envOfC "law" (defScope slaw) 0 0 .none).qual ++ "<lambda>"
def TL (PT : Addr) : List (Addr × Str) := [(PT, lawQ)]
/-- the statements of the law's turn -/
abbrev lawS (i : Nat) : Stmt := (bodyOf ((defBody slaw).getD 1 (.Pass ⟨0, 0, 0, 0⟩))).getD i (.Pass ⟨0, 0, 0, 0⟩)
/-- all that the law calls -/
structure LDefs (K : PySem.W.Frag) (mg : Str → Option Value) (C : Addr) where
  start : Fd K mg "_law_start" s_law_start P_law_start
  below : FdB K mg
  chance : FdChance K mg
  pick : FdPick K mg
  mixed : FdMixed K mg
  lot : FdLot K mg
  name : FdName K mg
  names : FdNames K mg
  same : FdSame K mg
  loose : FdLoose K mg
  nwhen : FdNWhen K mg
  ndo : FdNDo K mg
  nrule : Fd K mg "_law_nrule" s_law_nrule P_law_nrule
  nmade : Fd K mg "_law_nmade" s_law_nmade P_law_nmade
  nwords : Fd K mg "_law_nwords" s_law_nwords P_law_nwords
  nsaid : Fd K mg "_law_nsaid" s_law_nsaid P_law_nsaid
  nasc : FdAsc K mg
  nsplit : FdNSplit K mg
  nwhenFits : FdWhenFits K mg
  nstepFits : FdStepFits K mg
  nstepIn : FdNStepIn K mg
  nisRead : Fd K mg "_law_nis_read" s_law_nis_read P_law_nis_read
  nnameFits : FdNameFits K mg
  nfault : Fd K mg "_law_nfault" s_law_nfault P_law_nfault
  told : Fd K mg "_law_nline_told" s_law_nline_told ["call"]
  nbent : Fd K mg "_law_nbent" s_law_nbent P_law_nbent
  readRule : FdReadRule K mg
  ruleText : Fd K mg "rule_text" srule_text Prule_text
  pages : MdPages K C
  steps : MdSteps K C
  eq : MdREq K C
  R : RDefs K mg C
  tt : PySem.W.exmOne K (.ref R.ex.C) (.ref R.ex.C) = some true
def spLaw (PT : Addr) : Sp := fun vs H Q _ => ∃ (s : Addr) (ns : List Int), vs = [.ref s] ∧ SqL K H s (ns.map V.int) ∧ ns.length ≤ 1000 ∧ H PT = some (.tbl #[]) ∧ ∀ H', Q (.bl true) H'
/-- what stands through the turn -/
structure Mid (sc a b PT : Addr) (n : Nat) (R : RG) (vR : V) (σ : L2.St) (H : Hp) : Prop where
  sg : ∃ v2 v4 v6 v7 v8 v9 v10 v11 v12 v13 : Option V, σ = [some (.ref sc), some (.ref a), v2, some vR, v4, some (.str (textR R)), v6, v7, v8, v9, v10, v11, v12, v13]
  st : StreamAt a b n H
  tb : Tabs (TL PT) H
  dr : Dt [a, b] H (ruleD R) vR
/-- a text that the law asks about -/
structure TxOk (z : Str) : Prop where
  len : z.length ≤ 10000
  ws : ∀ x ∈ lines z, (words x).length ≤ 64
theorem whenW_len1 {pg : List Str} (hp : PgOk pg) {ts : List Tri} (h : ∀ t ∈ ts, t.Ok pg) : (whenW ts).length ≤ 10 * ts.length - 1 := by
  cases ts with
  | nil => simp [whenW]
  | cons t r =>
    have h1 := (triW_len hp (h t (by simp))).1
    have h2 : ((r.map fun t => sSL :: triW t).flatten).length ≤ 10 * r.length := by
      clear h1
      induction r with
      | nil => simp
      | cons u r ih =>
        have h3 := (triW_len hp (h u (by simp))).1
        have := ih (fun t ht => h t (by simp at ht ⊢; rcases ht with rfl | ht <;> simp [*]))
        simp only [List.map_cons, List.flatten_cons, List.length_append, List.length_cons] at this ⊢
        omega
    simp only [whenW, List.length_append, List.length_cons]
    omega
theorem step_small {pg : List Str} (hp : PgOk pg) {s : Sd} (h : s.Ok pg) (l : s.wh.length ≤ 2) : (stepW s).length ≤ 32 ∧ (∀ x ∈ stepW s, x.length ≤ 9) ∧ (lineW (stepW s)).length ≤ 330 := by
  have h1 := (kdW_len hp h.k).1
  have h2 := whenW_len1 hp h.w
  have h3 := (stepW_len hp h).2
  have l1 : (stepW s).length ≤ 32 := by simp only [stepW, List.length_append, List.length_cons]; omega
  refine ⟨l1, h3, ?_⟩
  have hs := sum_le h3
  have hj := join_len SPC (stepW s)
  have e1 : SPC.length = 1 := by decide
  rw [e1] at hj
  unfold lineW
  omega
theorem pages_small {pg : List Str} (hp : PgOk pg) : (lineW (sPG :: pg)).length ≤ 330 ∧ (∀ x ∈ sPG :: pg, x.length ≤ 9) := by
  have pl : ∀ x ∈ sPG :: pg, x.length ≤ 9 := fun x hx => by
    rcases List.mem_cons.mp
          hx with rfl | hx
    · decide
    · have := nameB_le (hp.name x hx); omega
  refine ⟨?_, pl⟩
  have hs := sum_le pl
  have hj := join_len SPC (sPG :: pg)
  have e1 : SPC.length = 1 := by decide
  have := hp.most
  rw [e1] at hj
  simp only [List.length_cons] at hs hj
  unfold lineW
  omega
theorem rule_lines {R : RG} (ok : R.Ok) (h : ∀ s ∈ R.steps, s.wh.length ≤ 2) : ∀ x ∈ linesR R, x.length ≤ 330 ∧ (words x).length ≤ 32 ∧ ∀ w ∈ words x, w.length ≤ 9 := fun x hx => by
  unfold linesR at hx
  rcases List.mem_cons.mp
        hx with rfl | hx
  · obtain ⟨h1, h2⟩ := pages_small ok.pg
    have := ok.pg.most
    rw [words_pages ok.pg]
    exact ⟨h1, by simp; omega, h2⟩
  · obtain ⟨s, hs, rfl⟩ := List.mem_map.mp hx
    obtain ⟨h1, h2, h3⟩ := step_small ok.pg (ok.st s hs) (h s hs)
    rw [words_step ok.pg (ok.st s hs)]
    exact ⟨h3, h1, h2⟩
theorem text_len {ls : List Str} (h : ∀ x ∈ ls, x.length ≤ 330) : (Txt.join ("" : Str) (ls.map fun l => l ++ NLN)).length ≤ 331 * ls.length := by
  have nl : NLN.length = 1 := by decide
  have l0 : ("" : Str).length = 0 := by decide
  have hs := sum_le (n := 331) (l := ls.map fun l => l ++ NLN) (fun x hx => by
    obtain ⟨y, hy, rfl⟩
          := List.mem_map.mp hx
    have := h y hy
    rw [len_app, nl]; omega)
  have hj := join_len ("" : Str) (ls.map fun l => l ++ NLN)
  rw [l0] at hj
  simp only [List.length_map] at hs
  omega
theorem linesR_len (R : RG) : (linesR R).length = R.steps.length + 1 := by simp [linesR]
theorem textR_len {R : RG} (ok : R.Ok) (h : ∀ s ∈ R.steps, s.wh.length ≤ 2) : (textR R).length ≤ 2979 := by
  have := text_len (fun x hx => (rule_lines ok h x hx).1)
  rw [linesR_len] at this
  have := ok.most
  unfold textR
  omega
theorem txR {R : RG} (ok : R.Ok) (h : ∀ s ∈ R.steps, s.wh.length ≤ 2) : TxOk (textR R) := by
  refine ⟨by have := textR_len ok h; omega, fun x hx => ?_⟩
  rw [lines_textR ok] at hx
  rcases List.mem_append.mp
        hx with hx | hx
  · have := (rule_lines ok h x hx).2.1; omega
  · simp at hx; subst hx; decide +kernel
/-- the rule's text and one more line -/
theorem textR_more {R : RG} {s : Sd} : textR R ++ lineW (stepW s) ++ NLN = Txt.join ("" : Str) ((linesR R ++ [lineW (stepW s)]).map fun l => l ++ NLN) := by
  unfold textR
  refine ext_tl ?_
  rw [tl_append, tl_append, join_eq, join_eq, join_nil, join_nil]
  simp [tl_append]
theorem tx_more {R : RG} {s : Sd} (ok : R.Ok) (h : ∀ s ∈ R.steps, s.wh.length ≤ 2) (hs : s ∈ R.steps) : TxOk (textR R ++ lineW (stepW s) ++ NLN) := by
  have e : ∀ x ∈ linesR R ++ [lineW (stepW s)], x.length ≤ 330 ∧ (words x).length ≤ 32 := fun x hx => by
    rcases List.mem_append.mp
          hx with hx | hx
    · have := rule_lines ok h x hx; exact ⟨this.1, this.2.1⟩
    · simp at hx; subst hx
      obtain ⟨h1, h2, h3⟩ := step_small ok.pg (ok.st s hs) (h s hs)
      rw [words_step ok.pg (ok.st s hs)]
      exact ⟨h3, h1⟩
  rw [textR_more]
  refine ⟨?_, fun x hx => ?_⟩
  · have := text_len (fun x hx => (e x hx).1)
    rw [List.length_append, linesR_len] at this
    have := ok.most
    simp only [List.length_cons, List.length_nil] at *
    omega
  · rw [lines_text (fun l hl => by
      rcases List.mem_append.mp hl with hl | hl
      · exact linesR_free ok l hl
      · simp at hl; subst hl
        exact line_freeW (fun w hw => (stepW_free ok.pg (ok.st s hs) w hw).2))] at hx
    rcases List.mem_append.mp
          hx with hx | hx
    · have := (e x hx).2; omega
    · simp at hx; subst hx; decide +kernel
end Lr
set_option Elab.async false
set_option linter.all false
set_option maxRecDepth 100000
set_option maxHeartbeats 16000000
namespace Lr
open PySem PySem.Spec PyProof.Rows L2 TL
open C8 (InsC call_isC)
open LamX (GivesAt CodeO Tabs TabS TabB ExtN)
local macro_rules | `(tactic| walk_at "ne") => `(tactic| (first | assumption | (refine ne_sym ?_; assumption) | (exact ne_of_none (by assumption) (by assumption)) | (exact ne_sym (ne_of_none (by assumption) (by assumption)))))
local macro_rules | `(tactic| walk_at "h") => `(tactic| (first | assumption | exact upd_same | (refine h_new ?_ (by assumption); walk_at "h") | (refine h_ne (by walk_at "ne") ?_; walk_at "h")))
local macro_rules | `(tactic| walk_at "v1") => `(tactic| (with_reducible first
  | refine i_seq ?_ | refine i_asg ?_ | refine i_ret ?_ | refine i_next ?_ | refine i_drop ?_ | refine i_ifS ?_ | refine i_if ?_ | refine i_and ?_ | refine i_or ?_ | refine i_not ?_ | refine i_test ?_ | refine i_tB ?_ | refine i_bl ?_ | refine i_yes ?_
  | refine i_op ?_ | refine i_un ?_ | refine i_chain ?_ | refine i_andV ?_ | refine i_orV ?_ | refine i_notV ?_ | refine i_cb ?_ | refine i_cons ?_ | refine i_nil ?_ | refine i_bm ?_ | refine i_bm0 ?_ | refine i_c ?_ | refine i_name ?_ | refine i_sub ?_
  | refine i_call ?_ | refine i_lst ?_ | refine i_tup ?_ | refine i_par ?_ | refine i_par2 ?_ | refine i_sl ?_ | refine i_np ?_ | refine i_pt ?_ | refine i_int ?_ | refine i_m0 ?_ | refine i_m1 ?_ | refine i_isS ?_
  | refine i_rI0 ?_ | refine i_inSign ?_ | refine i_notInSign ?_ | refine i_int1 ?_ | refine i_tru ?_ | refine i_isN ?_ | refine i_notN ?_ | refine iteT ?_ | refine iteF ?_ | refine i_brk ?_ | refine i_rt ?_ | refine i_nx ?_ | refine i_bk ?_ | refine i_ct ?_ | refine i_for ?_ | refine i_lc ?_ | refine i_dc ?_ | refine i_iL ?_ | refine i_iT ?_ | refine i_iR1 ?_ | refine i_iR2 ?_ | refine i_iS ?_ | refine i_iE ?_ | refine i_iEK ?_ | refine i_iEQ ?_ | refine i_iZS ?_ | refine i_dget ?_ | refine i_fld ?_ | refine i_sfld ?_ | refine i_dput ?_ | refine i_meth ?_ | refine i_rU ?_ | refine i_cont ?_ | refine i_make ?_))
local macro_rules | `(tactic| walk_at "v2") => `(tactic| (first
  | ((with_reducible refine' i_var ?k1 ?_); (case k1 => exact rfl))
  | ((with_reducible refine' i_eq ?k1 ?_); (case k1 => exact rfl))
  | ((with_reducible refine' i_ne ?k1 ?_); (case k1 => exact rfl))
  | ((with_reducible refine' i_ixL ?k1 ?k2 ?_); (case k1 => walk_at "h"); (case k2 => exact rfl))
  | ((with_reducible refine' i_ixT ?k1 ?k2 ?_); (case k1 => walk_at "h"); (case k2 => exact rfl))
  | ((with_reducible refine' i_lenL ?k1 ?_); (case k1 => walk_at "h"))
  | ((with_reducible refine' i_lenT ?k1 ?_); (case k1 => walk_at "h"))
  | (refine i_wipe (show wipe _ _ = wipe _ _ from rfl) ?_)
  | ((with_reducible refine' i_setL ?k1 ?k2 ?_); (case k1 => walk_at "h"); (case k2 => exact rfl))
  | ((with_reducible refine' i_tyl ?k1 ?_); (case k1 => walk_at "h"))))
local macro_rules | `(tactic| walk_at "v") => `(tactic| repeat (first | walk_at "v1" | walk_at "v2"))

variable {P : Program} {w : World} {K :
      PySem.W.Frag} {mg : Str → Option Value} {base : Heap}
theorem rule_v {S : List Addr} {H : Hp} {R : RG} {v : V} (h : Dt S H (ruleD R) v) : ∃ (rp N sp : Addr) (sxs : List V), v = .ref rp ∧ rp ∉ S ∧ H rp = some (.lst [.ref N, .ref sp]) ∧ H N = some (.lst (R.pages.map V.str)) ∧ N ∉ S ∧ H sp = some (.lst sxs) ∧ sp ∉ S ∧ DtAll S H (R.steps.map stepD) sxs := by
  unfold ruleD Dt at h
  obtain ⟨rp, rx, rfl, nrp, hrp, dr⟩ := h
  obtain ⟨x1, y1, rfl, z1, dr⟩ := DtAll.cons_iff.mp dr
  obtain ⟨x2, y2, rfl, z2, dr⟩ := DtAll.cons_iff.mp dr
  obtain rfl := DtAll.nil_iff.mp dr
  obtain ⟨N, xN, rfl, nN, hN, dN⟩ := (by unfold Dt at z1; exact z1 : ∃ a' xs, x1 = .ref a' ∧ a' ∉ S ∧ H a' = some (.lst xs) ∧ DtAll S H (R.pages.map .str) xs)
  obtain rfl := DtAll.of_strs dN
  obtain ⟨sp, sxs, rfl, nsp, hsp, dsp⟩ := (by unfold stepsD Dt at z2; exact z2 : ∃ a' xs, x2 = .ref a' ∧ a' ∉ S ∧ H a' = some (.lst xs) ∧ DtAll S H (R.steps.map stepD) xs)
  exact ⟨rp, N, sp, sxs, rfl, nrp, hrp, hN, nN, hsp, nsp, dsp⟩
theorem told_wh {z : Str} {R : RG} (tx : TxOk z) (ok : R.Ok) (e : lines z = linesR R ++ [("" : Str)]) : ∀ s ∈ R.steps, s.wh.length ≤ 64 := fun s hs => by
  have mz : lineW (stepW s) ∈ lines z := by rw [e]; simp only [linesR, List.mem_append, List.mem_cons, List.mem_map]; exact .inl (.inr ⟨s, hs, rfl⟩)
  have h1 := tx.ws _ mz
  rw [words_step ok.pg (ok.st s hs)] at h1
  have h2 := whenW_ge s.wh
  simp only [stepW, List.length_append, List.length_cons] at h1
  omega
def nuD : Option Nat → PyData
  | none => .none
  | some n => .int (n : Nat)
theorem nu_dt {S : List Addr} {H : Hp} (o : Option Nat) : Dt S H (nuD o) (numV o) := by cases o <;> (unfold nuD numV Dt; rfl)
theorem nu_fit {k : Nat} (o : Option Nat) : Fit (k + 1) (nuD o) := by cases o <;> trivial
structure JA (sc a b PT : Addr) (n : Nat) (R : RG) (vR : V) (i : Nat) (v9 : Option V) (bt : Str) (σ : L2.St) (H : Hp) : Prop where
  sg : ∃ v2 v4 v6 v7 v11 v12 v13 : Option V, σ = [some (.ref sc), some (.ref a), v2, some vR, v4, some (.str (textR R)), v6, v7, some (.int (i : Nat)), v9, some (.str bt), v11, v12, v13]
  st : StreamAt a b n H
  tb : Tabs (TL PT) H
  dr : Dt [a, b] H (ruleD R) vR
def tAgain (C PT : Addr) : TS := fun D σ H => ∃ (sc a b : Addr) (n : Nat) (R : RG) (vR : V), Mid sc a b PT n R vR σ H ∧ R.Ok ∧ (∀ s ∈ R.steps, s.wh.length ≤ 2) ∧ n < 2 ^ 36 ∧ ∀ σ' H', Mid sc a b PT (n + 120) R vR σ' H' → D.nx σ' H'
theorem again_ok {C c PT f : Addr} (D : LDefs K mg C) (TB : TabB base mg c PT) {A : Around} {outer : List Env} {s : Shared} {H : Hp} {E : XK} (hr : Room 11 (A.deeper (envOfC "law" (defScope slaw) s.heap.objs.size f (.ref c)))) :
    PS (cxOf CX0 P w K mg base Nlaw "law" (defScope slaw) f (.ref c) A outer s H E).nox (lawS 7) (tAgain C PT) := by
  obtain ⟨d_law_start, d_law_below, d_law_chance, d_law_pick, d_law_mixed, d_law_lot, d_law_name, d_law_names, d_law_same, d_law_loose, d_law_nwhen, d_law_ndo, d_law_nrule, d_law_nmade, d_law_nwords, d_law_nsaid, d_law_nascending, d_law_nsplit, d_law_nwhen_fits, d_law_nstep_fits, d_law_nstep_in, d_law_nis_read, d_law_nname_fits, d_law_nfault, d_law_nline_told, d_law_nbent,
    dread_rule, drule_text, dRule_pages, dRule_steps, dRule___eq__, DR, tt⟩ := D
  have drule_fault := DR.fault
  have cRule := DR.cls
  have iRule := DR.iC
  have B := DR.B
  obtain ⟨ocN, odN, kVN, docN, pmN, anN, cdvN, ctN, oslN, efd, lkN, hcN⟩ := d_law_nline_told.F.ex
  have bN := d_law_nline_told.b
  rw [efd] at bN lkN
  have G_law_start : FnOk P w K mg base CX0 1 d_law_start.f d_law_start.fd P_law_start (spStart (K := K)) := ok_start d_law_start B.toBlt
  have G_law_nrule : FnOk P w K mg base CX0 5 d_law_nrule.f d_law_nrule.fd P_law_nrule (fun vs H Q E => ∃ i : Addr × Addr, spNRule i.1 i.2 vs H Q E) := FnOk.ex fun i => ok_nrule d_law_nrule d_law_below d_law_lot d_law_pick d_law_chance d_law_mixed d_law_names d_law_name d_law_nwhen d_law_ndo B
  have G_law_nsaid : FnOk P w K mg base CX0 2 d_law_nsaid.f d_law_nsaid.fd P_law_nsaid spNSaid := ok_nsaid d_law_nsaid d_law_nwords B
  have G_law_nmade : FnOk P w K mg base CX0 8 d_law_nmade.f d_law_nmade.fd P_law_nmade (fun vs H Q E => ∃ i : Addr × Addr, spNMade i.1 i.2 C vs H Q E) := FnOk.ex fun i => ok_nmade DR d_law_nmade d_law_below d_law_mixed d_law_loose
  have G_law_nbent : FnOk P w K mg base CX0 3 d_law_nbent.f d_law_nbent.fd P_law_nbent (fun vs H Q E => ∃ i : Addr × Addr, spNBent i.1 i.2 vs H Q E) := FnOk.ex fun i => ok_nbent d_law_nbent d_law_below d_law_pick B
  have G_law_nfault : FnOk P w K mg base CX0 4 d_law_nfault.f d_law_nfault.fd P_law_nfault spNFault := ok_nfault d_law_nfault d_law_nname_fits d_law_nascending d_law_nstep_fits d_law_nwhen_fits d_law_nsplit B
  have G_law_nis_read : FnOk P w K mg base CX0 9 d_law_nis_read.f d_law_nis_read.fd P_law_nis_read spNIsRead := ok_nisread DR d_law_nis_read dread_rule dRule_pages dRule_steps d_law_nstep_in d_law_nsplit d_law_same
  have G_law_same : FnOk P w K mg base CX0 8 d_law_same.f d_law_same.fd P_law_same (spSame 8) := ok_same d_law_same B.toBlt 8
  have GRule_pages : FnOk P w K mg base CX0 1 dRule_pages.f dRule_pages.fd PRule_pages (spRPages C) := ok_rpages cRule dRule_pages B
  have GRule_steps : FnOk P w K mg base CX0 1 dRule_steps.f dRule_steps.fd PRule_steps (spRSteps C) := ok_rsteps cRule dRule_steps B
  have GRule___eq__ : FnOk P w K mg base CX0 1 dRule___eq__.f dRule___eq__.fd PRule___eq__ (spEq (REq C)) := ok_req cRule iRule dRule___eq__ B
  have Grule_text : FnOk P w K mg base CX0 3 drule_text.f drule_text.fd Prule_text (spRuleText C) := ok_ruletext cRule iRule drule_text DR.needRule DR.stepLine DR.tripW B
  have Grule_fault : FnOk P w K mg base CX0 7 drule_fault.f drule_fault.fd Prule_fault spRuleFault := ok_rulefault drule_fault DR.linesIn DR.pagesIn DR.stepIn DR.wordsIn DR.whenIn DR.lotsIn DR.parted DR.tripIn DR.tripW DR.lotAmong DR.namesOf DR.isName B
  have Xread_rule : FnOk P w K mg base (L2.CX P w) 8 dread_rule.f dread_rule.fd Pread_rule (spReadRule C DR.ex.C) := ok_readrule DR dread_rule
  have Gread_rule : FnOk P w K mg base CX0 8 dread_rule.f dread_rule.fd Pread_rule (fun vs H Q _ => spReadRule C DR.ex.C vs H Q (fun _ _ _ => False)) := FnOk.quiet Xread_rule
  refine PS.by_ ⟨_, (ps_for PassesOwn.never rfl (pi_range1 (by rfl) B.range (pa_cons pe_int pa_nil)) (pg_name (i := 8) sclaw.nd rfl (by first | exact Or.inl rfl | exact Or.inr rfl))
      (pss_cons (ps_set (i := 10) sclaw.nd rfl (by first | exact Or.inl rfl | exact Or.inr rfl) (pe_call G_law_nbent (hr.mono (by decide)) (by rfl) d_law_nbent.g d_law_nbent.F.kp d_law_nbent.b .nil pass0 (pa_cons (pv 1) (pa_cons (pv 5) pa_nil))))
      (pss_cons (PS.by_ (t' := fun D σ H1 => ∃ sc a b n R vR i v9 bt, JA sc a b PT n R vR i v9 bt σ H1 ∧ TxOk bt ∧ R.Ok ∧ (∀ s ∈ R.steps, s.wh.length ≤ 2) ∧ ∀ bt' σ' H', TxOk bt' → JA sc a b PT n R vR i v9 bt' σ' H' → D.nx σ' H') ⟨_, (ps_if (pt_cmpR op_eq (pv 8) pe_int (nomark _)) (pss_one (ps_set (i := 10) sclaw.nd rfl (by first | exact Or.inl rfl | exact Or.inr rfl) (pe_op o_addS (pe_op o_addS (pv 5) (pe_call G_law_nsaid (hr.mono (by decide)) (by rfl) d_law_nsaid.g d_law_nsaid.F.kp d_law_nsaid.b .nil pass0 (pa_cons (pe_ix (x_list K) (pe_ix (x_list K) (pv 3) pe_int (fun _ _ => rfl)) pe_int (fun _ _ => rfl)) pa_nil))) pe_str))) pss_nil), by
          rintro D σ H1 ⟨sc, a, b, n, R, vR, i, v9, bt, ⟨⟨v2, v4, v6, v7, v11, v12, v13, rfl⟩, st, tb, dr⟩, tx, ok, wh, k⟩
          walk_at "v"
          refine ifd (fun e => ?_) (fun _ => k bt _ _ tx ⟨⟨v2, v4, v6, v7, v11, v12, v13, rfl⟩, st, tb, dr⟩)
          obtain ⟨rp, N, sp, sxs, rfl, nrp, hrp, hN, nN, hsp, nsp, dsp⟩ := rule_v dr
          walk_at "v"
          obtain ⟨s0, hs0⟩ : ∃ s0, R.steps[0]? = some s0 := ⟨_, List.getElem?_eq_getElem (by have := ok.pos; omega)⟩
          have m0 := List.mem_of_getElem? hs0
          obtain ⟨x0, hx0, d0⟩ := dsp.get (i := 0) (d := stepD s0) (by rw [List.getElem?_map, hs0]; rfl)
          obtain ⟨p0, rfl, _⟩ := step_tup d0
          refine i_ixL hsp (atI_nat (j := 0) hx0) ?_
          walk_at "v"
          refine ⟨[a, b], s0, p0, R.pages, rfl, d0, ok.pg, ok.st _ m0, by have := wh _ m0; omega, fun H2 s2 => ?_⟩
          have l1 := textR_len ok wh
          have l2 := (step_small ok.pg (ok.st s0 m0) (wh s0 m0)).2.2
          have l3 : NLN.length = 1 := by decide
          refine i_adds (small_sz (by omega)) ?_
          walk_at "v"
          refine i_adds (x := textR R ++ lineW (stepW s0)) (y := NLN) (small_sz (by rw [len_app]; omega)) ?_
          exact k _ _ _ (tx_more ok wh m0) ⟨⟨v2, v4, v6, v7, v11, v12, v13, rfl⟩, st.same s2, tabs_kp tb (Keep.of_same (S := [a, b]) s2) st.lsts, dr.same s2⟩⟩)
      (pss_cons (ps_set (i := 9) sclaw.nd rfl (by first | exact Or.inl rfl | exact Or.inr rfl) (pe_call G_law_nfault (hr.mono (by decide)) (by rfl) d_law_nfault.g d_law_nfault.F.kp d_law_nfault.b .nil pass0 (pa_cons (pv 10) pa_nil)))
      (pss_cons (ps_if (pt_not (pt_val (pe_call G_law_same (hr.mono (by decide)) (by rfl) d_law_same.g d_law_same.F.kp d_law_same.b .nil pass0 (pa_cons (pe_call Grule_fault (hr.mono (by decide)) (by rfl) drule_fault.g drule_fault.F.kp drule_fault.b .nil pass0 (pa_cons (pv 10) pa_nil)) (pa_cons (pv 9) pa_nil))))) (pss_one (ps_ret pe_bl)) pss_nil)
      (pss_cons (PS.by_ (t' := fun D σ H1 => ∃ sc a b n R vR i fo bt, JA sc a b PT n R vR i (some (numV fo)) bt σ H1 ∧ TxOk bt ∧ faultR bt = fo ∧ ∀ σ' H', JA sc a b PT n R vR i (some (numV fo)) bt σ' H' → D.nx σ' H') ⟨_, (ps_if (PW.pt (pw_and (pt_cmpR o_isN (pv 9) pe_non (nomark _)) (pw_and1 (PW.pt (pw_or (pt_not (pt_val (pe_call G_law_nis_read (hr.mono (by decide)) (by rfl) d_law_nis_read.g d_law_nis_read.F.kp d_law_nis_read.b .nil pass0 (pa_cons (pv 10) pa_nil)))) (pw_or1 (pt_not (pt_val (pe_call G_law_same (hr.mono (by decide)) (by rfl) d_law_same.g d_law_same.F.kp d_law_same.b .nil pass0 (pa_cons (pe_call Grule_text (hr.mono (by decide)) (by rfl) drule_text.g drule_text.F.kp drule_text.b .nil pass0 (pa_cons (pe_call Gread_rule (hr.mono (by decide)) (by rfl) dread_rule.g dread_rule.F.kp dread_rule.b .nil pass0 (pa_cons (pv 10) pa_nil)) pa_nil)) (pa_cons (pv 10) pa_nil))))))))))) (pss_one (ps_ret pe_bl)) pss_nil), by
          rintro D σ H1 ⟨sc, a, b, n, R, vR, i, fo, bt, ⟨⟨v2, v4, v6, v7, v11, v12, v13, rfl⟩, st, tb, dr⟩, tx, ef, k⟩
          walk_at "v"
          cases fo with
          | none =>
            refine ifd (fun _ => ?_) (fun h => absurd rfl h)
            walk_at "v"
            refine ⟨bt, rfl, tx.len, tx.ws, ef, fun H2 s2 => ?_⟩
            obtain ⟨R', ok', eln, et, _⟩ := text_toldR ef
            walk_at "v"
            refine iteF ?_
            walk_at "v"
            refine ⟨[], .str bt, .str bt, rfl, by unfold Dt; rfl, fun z' e => ?_, fun z' e _ => ?_, fun z' n e en => ?_, fun e => by cases e⟩
            · cases e; exact ⟨tx.len, tx.ws⟩
            · cases e
              refine ⟨R', ok', et, fun p5 H5 ra s5 => ?_⟩
              walk_at "v"
              refine ⟨p5, R', rfl, ra [] trk_nil, ok', fun s hs => by have := told_wh tx ok' eln s hs; omega, fun H6 s6 => ?_⟩
              rw [et]
              walk_at "v"
              refine ⟨[], [], .str bt, .str bt, .str bt, rfl, dt_s, dt_s, trivial, fun H7 s7 => ?_⟩
              have s17 := s2.trans (s5.trans (s6.trans s7))
              walk_at "v"
              refine iteF ?_
              exact k _ _ ⟨⟨v2, v4, v6, v7, v11, v12, v13, rfl⟩, st.same s17, tabs_kp tb (Keep.of_same (S := [a, b]) s17) st.lsts, dr.same s17⟩
            · cases e; rw [ef] at en; cases en
          | some nf =>
            refine ifd (fun h => by cases h) (fun _ => ?_)
            refine iteF ?_
            exact k _ _ ⟨⟨v2, v4, v6, v7, v11, v12, v13, rfl⟩, st, tb, dr⟩⟩)
      (pss_one (ps_if (PW.pt (pw_and (pt_cmpR o_notN (pv 9) pe_non (nomark _)) (pw_and1 (pt_not (pt_val (pe_call G_law_same (hr.mono (by decide)) (by rfl) d_law_same.g d_law_same.F.kp d_law_same.b .nil pass0 (pa_cons (LamX.pe_lamAt (T := TL PT) (TT := TTold DR.ex.C) (k := 9) (c := c) (P := PT) (by rfl) d_law_nline_told.g d_law_nline_told.F.kp lkN hcN bN sc_law_nline_told rfl (.inl rfl) (told_at DR.ex tt) TB rfl (List.mem_singleton.mpr rfl) (fun p hp _ => by rw [List.mem_singleton.mp hp] <;> rfl) (hr.mono (by decide)) (LamX.lamS_by (by show LamX.lamSB (defScope slaw) _ = true; decide +kernel)) rfl (fun _ _ _ _ _ => rfl) (fun A outer s H E f c' room => by exact (pe_callS Xread_rule (room.mono (by decide)) (by rfl) dread_rule.g dread_rule.F.kp dread_rule.b (fun σ => passAt (takes_of rfl rfl rfl rfl) σ) (pa_cons (pv 10) pa_nil)))) (pa_cons (pe_lst (pa_cons (pv 9) pa_nil)) pa_nil)))))))) (pss_one (ps_ret pe_bl)) pss_nil)))))))), ?_⟩
  rintro D σ H ⟨sc, a, b, n, R, vR, ⟨⟨v2, v4, v6, v7, v8, v9, v10, v11, v12, v13, rfl⟩, st, tb, dr⟩, ok, wh, ln, k⟩
  walk_at "v"
  refine w_rg1 (n := 12) (by decide) ?_
  refine for_by walk_range ⟨fun i σ H' => (∃ v2 v4 v6 v7 v8 v9 v10 v11 v12 v13 : Option V, σ = [some (.ref sc), some (.ref a), v2, some vR, v4, some (.str (textR R)), v6, v7, v8, v9, v10, v11, v12, v13]) ∧ StreamAt a b (n + 10 * i) H' ∧ Tabs (TL PT) H' ∧ Dt [a, b] H' (ruleD R) vR, ?_, fun _ _ _ _ _ => trivial, ?_, ?_⟩
  · exact ⟨⟨v2, v4, v6, v7, v8, v9, v10, v11, v12, v13, rfl⟩, st, tb, dr⟩
  · rintro i x σ H2 H1 hi ⟨⟨v2, v4, v6, v7, v8, v9, v10, v11, v12, v13, rfl⟩, st1, tb1, dr1⟩ ⟨rfl, rfl⟩
    have hi12 : i < 12 := by simpa using hi
    have l1 := textR_len ok wh
    have h8 := ok.most
    have h1 := ok.pos
    walk_at "v"
    refine ⟨(a, b), n + 10 * i, textR R, linesR R, rfl, by omega, lines_textR ok, by rw [linesR_len]; omega, by rw [linesR_len]; omega, rule_lines ok wh, st1, by omega, fun bt H3 lbt wbt st3 kp3 => ?_⟩
    have tb3 := tabs_kp tb1 kp3 st1.lsts
    have dr3 := Dt.keep kp3 _ _ dr1
    walk_at "v"
    refine ⟨sc, a, b, n + 10 * i + 10, R, vR, i, v9, bt, ⟨⟨v2, v4, v6, v7, v11, v12, v13, by simp⟩, st3, tb3, dr3⟩, ⟨lbt, wbt⟩, ok, wh, fun bt σ4 H4 tx j4 => ?_⟩
    obtain ⟨⟨w2, w4, w6, w7, w11, w12, w13, rfl⟩, st4, tb4, dr4⟩ := j4
    obtain ⟨fo, ef⟩ : ∃ fo, faultR bt = fo := ⟨_, rfl⟩
    walk_at "v"
    refine ⟨bt, rfl, tx.len, tx.ws, fun H5 s5 => ?_⟩
    rw [ef]
    walk_at "v"
    refine ⟨[], .str bt, .str bt, rfl, dt_s, fun z e => ?_, fun e => by cases e⟩
    cases e
    refine ⟨tx.len, tx.ws, fun H6 s6 => ?_⟩
    rw [ef]
    walk_at "v"
    refine ⟨[], [], nuD fo, _, _, rfl, nu_dt _, nu_dt _, nu_fit _, fun H7 s7 => ?_⟩
    walk_at "v"
    refine iteF ?_
    have s47 := s5.trans (s6.trans s7)
    walk_at "v"
    refine ⟨sc, a, b, n + 10 * i + 10, R, vR, i, fo, bt, ⟨⟨w2, w4, w6, w7, w11, w12, w13, rfl⟩, st4.same s47, tabs_kp tb4 (Keep.of_same (S := [a, b]) s47) st4.lsts, dr4.same s47⟩, tx, ef, fun σ8 H8 j8 => ?_⟩
    obtain ⟨⟨u2, u4, u6, u7, u11, u12, u13, rfl⟩, st8, tb8, dr8⟩ := j8
    walk_at "v"
    cases fo with
    | none =>
      refine ifn (fun h => absurd rfl h) (fun _ => ?_)
      refine iteF ?_
      exact ⟨⟨u2, u4, u6, u7, _, _, _, u11, u12, u13, rfl⟩, st8.mono (by omega), tb8, dr8⟩
    | some nf =>
      refine ifn (fun _ => ?_) (fun h => by cases h)
      walk_at "v"
      refine ⟨tb8, fun H9 xt T9 Ex hEx => ?_⟩
      have st9 := st8.extn xt
      have dr9 := Dt.extn xt _ _ dr8
      refine ⟨_, rfl, ?_⟩
      refine ⟨[], .str bt, .str bt, rfl, dt_s, fun z e => ?_, fun z e en => ?_, fun z n' e en dd H10 hdd s10 => ?_, fun h => by cases h⟩
      · cases e; exact ⟨tx.len, tx.ws⟩
      · cases e; rw [ef] at en; cases en
      · cases e
        obtain rfl : nf = n' := by rw [ef] at en; exact Option.some.inj en
        refine hEx _ _ _ ⟨rfl, dd, _, rfl, hdd, fun q1 hq1 => ?_⟩
        walk_at "v"
        refine ⟨show 1 ≤ sizeLine by decide, fun q2 hq2 => ?_⟩
        walk_at "v"
        have s11 := (s10.new (o := .lst [.int (nf : Nat)]) hq1).new (o := .lst [.int (nf : Nat)]) hq2
        refine ⟨[], [], .list [.int (nf : Nat)], _, _, rfl, dt_list (h_new upd_same hq2) (DtAll.cons dt_i DtAll.nil) (by simp), dt_list upd_same (DtAll.cons dt_i DtAll.nil) (by simp), ?_, fun H12 s12 => ?_⟩
        · refine ⟨by simp, fun d hd => ?_⟩
          simp only [List.mem_cons, List.not_mem_nil, or_false] at hd
          subst hd; trivial
        · walk_at "v"
          refine iteF ?_
          have s912 := s11.trans s12
          exact ⟨⟨u2, u4, u6, u7, _, _, _, u11, u12, u13, rfl⟩, (st9.same s912).mono (by omega), tabs_kp T9 (Keep.of_same (S := [a, b]) s912) st9.lsts, dr9.same s912⟩
  · rintro σ H1 ⟨⟨v2, v4, v6, v7, v8, v9, v10, v11, v12, v13, rfl⟩, st1, tb1, dr1⟩
    exact k _ _ ⟨⟨_, _, _, _, _, _, _, _, _, _, rfl⟩, st1, tb1, dr1⟩
end Lr
set_option Elab.async false
set_option linter.all false
set_option maxRecDepth 100000
set_option maxHeartbeats 16000000
namespace Lr
open PySem PySem.Spec PyProof.Rows L2 TL
open C8 (InsC call_isC)
open LamX (GivesAt CodeO Tabs TabS TabB ExtN)
local macro_rules | `(tactic| walk_at "ne") => `(tactic| (first | assumption | (refine ne_sym ?_; assumption) | (exact ne_of_none (by assumption) (by assumption)) | (exact ne_sym (ne_of_none (by assumption) (by assumption)))))
local macro_rules | `(tactic| walk_at "h") => `(tactic| (first | assumption | exact upd_same | (refine h_new ?_ (by assumption); walk_at "h") | (refine h_ne (by walk_at "ne") ?_; walk_at "h")))
local macro_rules | `(tactic| walk_at "v1") => `(tactic| (with_reducible first
  | refine i_seq ?_ | refine i_asg ?_ | refine i_ret ?_ | refine i_next ?_ | refine i_drop ?_ | refine i_ifS ?_ | refine i_if ?_ | refine i_and ?_ | refine i_or ?_ | refine i_not ?_ | refine i_test ?_ | refine i_tB ?_ | refine i_bl ?_ | refine i_yes ?_
  | refine i_op ?_ | refine i_un ?_ | refine i_chain ?_ | refine i_andV ?_ | refine i_orV ?_ | refine i_notV ?_ | refine i_cb ?_ | refine i_cons ?_ | refine i_nil ?_ | refine i_bm ?_ | refine i_bm0 ?_ | refine i_c ?_ | refine i_name ?_ | refine i_sub ?_
  | refine i_call ?_ | refine i_lst ?_ | refine i_tup ?_ | refine i_par ?_ | refine i_par2 ?_ | refine i_sl ?_ | refine i_np ?_ | refine i_pt ?_ | refine i_int ?_ | refine i_m0 ?_ | refine i_m1 ?_ | refine i_isS ?_
  | refine i_rI0 ?_ | refine i_inSign ?_ | refine i_notInSign ?_ | refine i_int1 ?_ | refine i_tru ?_ | refine i_isN ?_ | refine i_notN ?_ | refine iteT ?_ | refine iteF ?_ | refine i_brk ?_ | refine i_rt ?_ | refine i_nx ?_ | refine i_bk ?_ | refine i_ct ?_ | refine i_for ?_ | refine i_lc ?_ | refine i_dc ?_ | refine i_iL ?_ | refine i_iT ?_ | refine i_iR1 ?_ | refine i_iR2 ?_ | refine i_iS ?_ | refine i_iE ?_ | refine i_iEK ?_ | refine i_iEQ ?_ | refine i_iZS ?_ | refine i_dget ?_ | refine i_fld ?_ | refine i_sfld ?_ | refine i_dput ?_ | refine i_meth ?_ | refine i_rU ?_ | refine i_cont ?_ | refine i_make ?_))
local macro_rules | `(tactic| walk_at "v2") => `(tactic| (first
  | ((with_reducible refine' i_var ?k1 ?_); (case k1 => exact rfl))
  | ((with_reducible refine' i_eq ?k1 ?_); (case k1 => exact rfl))
  | ((with_reducible refine' i_ne ?k1 ?_); (case k1 => exact rfl))
  | ((with_reducible refine' i_ixL ?k1 ?k2 ?_); (case k1 => walk_at "h"); (case k2 => exact rfl))
  | ((with_reducible refine' i_ixT ?k1 ?k2 ?_); (case k1 => walk_at "h"); (case k2 => exact rfl))
  | ((with_reducible refine' i_lenL ?k1 ?_); (case k1 => walk_at "h"))
  | ((with_reducible refine' i_lenT ?k1 ?_); (case k1 => walk_at "h"))
  | (refine i_wipe (show wipe _ _ = wipe _ _ from rfl) ?_)
  | ((with_reducible refine' i_setL ?k1 ?k2 ?_); (case k1 => walk_at "h"); (case k2 => exact rfl))
  | ((with_reducible refine' i_tyl ?k1 ?_); (case k1 => walk_at "h"))))
local macro_rules | `(tactic| walk_at "v") => `(tactic| repeat (first | walk_at "v1" | walk_at "v2"))

variable {P : Program} {w : World} {K :
      PySem.W.Frag} {mg : Str → Option Value} {base : Heap}
theorem fault_nil : faultR ("" : Str) = some 0 := by
  have e : lines ("" : Str) = [] ++ [("" : Str)] := by decide +kernel
  rw [faultR_of e]
  unfold faultL
  rw [if_pos rfl]
theorem tx_nil : TxOk ("" : Str) := ⟨by decide, by decide +kernel⟩
/-- a thing that is no text of a rule, and not even the begin of one -/
def OddD (d : PyData) : Prop := isK "str" d = false ∨ d = .str ("" : Str)
def spOddFault : Sp := fun vs H Q _ => ∃ (d : PyData) (v : V), vs = [v] ∧ Dt [] H d v ∧ OddD d ∧ ∀ H', Same H H' → Q (.int 0) H'
def spOddRead (CE : Addr) : Sp := fun vs H _ E => ∃ (d : PyData) (v : V), vs = [v] ∧ Dt [] H d v ∧ OddD d ∧ ∀ dd H', H' dd = some (.xd [(("line" : Str), .int 0)]) → Same H H' → E (.ref CE) (some dd) H'
theorem odd_fault {vs : List V} {H : Hp} {Q : VK} {E : XK} (h : spOddFault vs H Q E) : spRuleFault vs H Q E := by
  obtain ⟨d, v, rfl, dt, o, k⟩ := h
  refine ⟨[], d, v, rfl, dt, fun z e => ?_, fun _ => k⟩
  rcases o with o | o
  · rw [e] at o; cases o
  · rw [e] at o; cases o
    refine ⟨tx_nil.len, tx_nil.ws, fun H' s => ?_⟩
    rw [fault_nil]; exact k H' s
theorem odd_read {C CE : Addr} {vs : List V} {H : Hp} {Q : VK} {E : XK} (h : spOddRead CE vs H Q E) : spReadRule C CE vs H Q E := by
  obtain ⟨d, v, rfl, dt, o, k⟩ := h
  refine ⟨[], d, v, rfl, dt, fun z e => ?_, fun z e en => ?_, fun z n e en dd H' hdd s => ?_, fun _ => k⟩
  · rcases o with o | o
    · rw [e] at o; cases o
    · rw [e] at o; cases o
      exact ⟨tx_nil.len, tx_nil.ws⟩
  · rcases o with o | o
    · rw [e] at o; cases o
    · rw [e] at o; cases o
      rw [fault_nil] at en; cases en
  · rcases o with o | o
    · rw [e] at o; cases o
    · rw [e] at o; cases o
      rw [fault_nil] at en; cases en
      exact k dd H' hdd s
def tOdd (C PT : Addr) : TS := fun D σ H => ∃ (sc a b : Addr) (n : Nat) (R : RG) (vR : V), Mid sc a b PT n R vR σ H ∧ ∀ σ' H', Mid sc a b PT n R vR σ' H' → D.nx σ' H'
theorem odd_ok {C c PT f : Addr} (D : LDefs K mg C) (TB : TabB base mg c PT) {A : Around} {outer : List Env} {s : Shared} {H : Hp} {E : XK} (hr : Room 11 (A.deeper (envOfC "law" (defScope slaw) s.heap.objs.size f (.ref c)))) :
    PS (cxOf CX0 P w K mg base Nlaw "law" (defScope slaw) f (.ref c) A outer s H E).nox (lawS 8) (tOdd C PT) := by
  obtain ⟨d_law_start, d_law_below, d_law_chance, d_law_pick, d_law_mixed, d_law_lot, d_law_name, d_law_names, d_law_same, d_law_loose, d_law_nwhen, d_law_ndo, d_law_nrule, d_law_nmade, d_law_nwords, d_law_nsaid, d_law_nascending, d_law_nsplit, d_law_nwhen_fits, d_law_nstep_fits, d_law_nstep_in, d_law_nis_read, d_law_nname_fits, d_law_nfault, d_law_nline_told, d_law_nbent,
    dread_rule, drule_text, dRule_pages, dRule_steps, dRule___eq__, DR, tt⟩ := D
  have drule_fault := DR.fault
  have cRule := DR.cls
  have iRule := DR.iC
  have B := DR.B
  obtain ⟨ocN, odN, kVN, docN, pmN, anN, cdvN, ctN, oslN, efd, lkN, hcN⟩ := d_law_nline_told.F.ex
  have bN := d_law_nline_told.b
  rw [efd] at bN lkN
  have G_law_start : FnOk P w K mg base CX0 1 d_law_start.f d_law_start.fd P_law_start (spStart (K := K)) := ok_start d_law_start B.toBlt
  have G_law_nrule : FnOk P w K mg base CX0 5 d_law_nrule.f d_law_nrule.fd P_law_nrule (fun vs H Q E => ∃ i : Addr × Addr, spNRule i.1 i.2 vs H Q E) := FnOk.ex fun i => ok_nrule d_law_nrule d_law_below d_law_lot d_law_pick d_law_chance d_law_mixed d_law_names d_law_name d_law_nwhen d_law_ndo B
  have G_law_nsaid : FnOk P w K mg base CX0 2 d_law_nsaid.f d_law_nsaid.fd P_law_nsaid spNSaid := ok_nsaid d_law_nsaid d_law_nwords B
  have G_law_nmade : FnOk P w K mg base CX0 8 d_law_nmade.f d_law_nmade.fd P_law_nmade (fun vs H Q E => ∃ i : Addr × Addr, spNMade i.1 i.2 C vs H Q E) := FnOk.ex fun i => ok_nmade DR d_law_nmade d_law_below d_law_mixed d_law_loose
  have G_law_nbent : FnOk P w K mg base CX0 3 d_law_nbent.f d_law_nbent.fd P_law_nbent (fun vs H Q E => ∃ i : Addr × Addr, spNBent i.1 i.2 vs H Q E) := FnOk.ex fun i => ok_nbent d_law_nbent d_law_below d_law_pick B
  have G_law_nfault : FnOk P w K mg base CX0 4 d_law_nfault.f d_law_nfault.fd P_law_nfault spNFault := ok_nfault d_law_nfault d_law_nname_fits d_law_nascending d_law_nstep_fits d_law_nwhen_fits d_law_nsplit B
  have G_law_nis_read : FnOk P w K mg base CX0 9 d_law_nis_read.f d_law_nis_read.fd P_law_nis_read spNIsRead := ok_nisread DR d_law_nis_read dread_rule dRule_pages dRule_steps d_law_nstep_in d_law_nsplit d_law_same
  have G_law_same : FnOk P w K mg base CX0 8 d_law_same.f d_law_same.fd P_law_same (spSame 8) := ok_same d_law_same B.toBlt 8
  have GRule_pages : FnOk P w K mg base CX0 1 dRule_pages.f dRule_pages.fd PRule_pages (spRPages C) := ok_rpages cRule dRule_pages B
  have GRule_steps : FnOk P w K mg base CX0 1 dRule_steps.f dRule_steps.fd PRule_steps (spRSteps C) := ok_rsteps cRule dRule_steps B
  have GRule___eq__ : FnOk P w K mg base CX0 1 dRule___eq__.f dRule___eq__.fd PRule___eq__ (spEq (REq C)) := ok_req cRule iRule dRule___eq__ B
  have Grule_text : FnOk P w K mg base CX0 3 drule_text.f drule_text.fd Prule_text (spRuleText C) := ok_ruletext cRule iRule drule_text DR.needRule DR.stepLine DR.tripW B
  have Grule_fault : FnOk P w K mg base CX0 7 drule_fault.f drule_fault.fd Prule_fault spRuleFault := ok_rulefault drule_fault DR.linesIn DR.pagesIn DR.stepIn DR.wordsIn DR.whenIn DR.lotsIn DR.parted DR.tripIn DR.tripW DR.lotAmong DR.namesOf DR.isName B
  have Xread_rule : FnOk P w K mg base (L2.CX P w) 8 dread_rule.f dread_rule.fd Pread_rule (spReadRule C DR.ex.C) := ok_readrule DR dread_rule
  have Gread_rule : FnOk P w K mg base CX0 8 dread_rule.f dread_rule.fd Pread_rule (fun vs H Q _ => spReadRule C DR.ex.C vs H Q (fun _ _ _ => False)) := FnOk.quiet Xread_rule
  have Grule_fault : FnOk P w K mg base CX0 7 drule_fault.f drule_fault.fd Prule_fault spOddFault := FnOk.imp Grule_fault (fun _ _ _ _ h => odd_fault h)
  have Xread_rule : FnOk P w K mg base (L2.CX P w) 8 dread_rule.f dread_rule.fd Pread_rule (spOddRead DR.ex.C) := FnOk.imp Xread_rule (fun _ _ _ _ h => odd_read h)
  refine PS.by_ ⟨_, (ps_for PassesOwn.never rfl (w_list K (pe_lst (pa_cons pe_non (pa_cons pe_int (pa_cons (pe_lst (pa_cons (pv 5) pa_nil)) (pa_cons pe_str pa_nil)))))) (pg_name (i := 11) sclaw.nd rfl (by first | exact Or.inl rfl | exact Or.inr rfl))
      (pss_one (ps_if (PW.pt (pw_or (pt_not (pt_val (pe_call G_law_same (hr.mono (by decide)) (by rfl) d_law_same.g d_law_same.F.kp d_law_same.b .nil pass0 (pa_cons (pe_call Grule_fault (hr.mono (by decide)) (by rfl) drule_fault.g drule_fault.F.kp drule_fault.b .nil pass0 (pa_cons (pv 11) pa_nil)) (pa_cons pe_int pa_nil))))) (pw_or1 (pt_not (pt_val (pe_call G_law_same (hr.mono (by decide)) (by rfl) d_law_same.g d_law_same.F.kp d_law_same.b .nil pass0 (pa_cons (LamX.pe_lamAt (T := TL PT) (TT := TTold DR.ex.C) (k := 9) (c := c) (P := PT) (by rfl) d_law_nline_told.g d_law_nline_told.F.kp lkN hcN bN sc_law_nline_told rfl (.inl rfl) (told_at DR.ex tt) TB rfl (List.mem_singleton.mpr rfl) (fun p hp _ => by rw [List.mem_singleton.mp hp] <;> rfl) (hr.mono (by decide)) (LamX.lamS_by (by show LamX.lamSB (defScope slaw) _ = true; decide +kernel)) rfl (fun _ _ _ _ _ => rfl) (fun A outer s H E f c' room => by exact (pe_callS Xread_rule (room.mono (by decide)) (by rfl) dread_rule.g dread_rule.F.kp dread_rule.b (fun σ => passAt (takes_of rfl rfl rfl rfl) σ) (pa_cons (pv 11) pa_nil)))) (pa_cons (pe_lst (pa_cons pe_int pa_nil)) pa_nil)))))))) (pss_one (ps_ret pe_bl)) pss_nil))), ?_⟩
  rintro D σ H ⟨sc, a, b, n, R, vR, ⟨⟨v2, v4, v6, v7, v8, v9, v10, v11, v12, v13, rfl⟩, st, tb, dr⟩, k⟩
  walk_at "v"
  refine ⟨show 1 ≤ sizeLine by decide, fun p1 hp1 => ?_⟩
  walk_at "v"
  refine ⟨show 4 ≤ sizeLine by decide, fun p2 hp2 => ?_⟩
  have s2 := ((Same.refl H).new (o := .lst [.str (textR R)]) hp1).new (o := .lst [V.non, V.int 5, V.ref p1, V.str ("" : Str)]) hp2
  obtain ⟨H2, e2⟩ : ∃ H2, H2 = upd (upd H p1 (.lst [.str (textR R)])) p2 (.lst [V.non, V.int 5, V.ref p1, V.str ("" : Str)]) := ⟨_, rfl⟩
  have h1 : H2 p1 = some (.lst [.str (textR R)]) := by rw [e2]; exact h_new upd_same hp2
  have h2 : H2 p2 = some (.lst [V.non, V.int 5, V.ref p1, V.str ("" : Str)]) := by rw [e2]; exact upd_same
  rw [← e2] at s2 ⊢
  clear e2
  refine w_lst h2 ?_
  refine for_by (walk_list (xs := [V.non, V.int 5, V.ref p1, V.str ("" : Str)])) ⟨fun i σ H' => (∃ v2 v4 v6 v7 v8 v9 v10 v11 v12 v13 : Option V, σ = [some (.ref sc), some (.ref a), v2, some vR, v4, some (.str (textR R)), v6, v7, v8, v9, v10, v11, v12, v13]) ∧
    StreamAt a b n H' ∧ Tabs (TL PT) H' ∧ Dt [a, b] H' (ruleD R) vR ∧ H' p1 = some (.lst [.str (textR R)]) ∧ H' p2 = some (.lst [V.non, V.int 5, V.ref p1, V.str ("" : Str)]), ?_, fun i σ H' _ ⟨_, _, _, _, _, z⟩ => SqL.of z, ?_, ?_⟩
  · exact ⟨⟨v2, v4, v6, v7, v8, v9, v10, v11, v12, v13, rfl⟩, st.same s2, tabs_kp tb (Keep.of_same (S := [a, b]) s2) st.lsts, dr.same s2, h1, h2⟩
  · rintro i x σ H4 H3 hi ⟨⟨v2, v4, v6, v7, v8, v9, v10, v11, v12, v13, rfl⟩, st3, tb3, dr3, g1, g2⟩ ⟨rfl, hx⟩
    obtain ⟨dx, ddx, cdx⟩ : ∃ dx, Dt [] H3 dx x ∧ (isK "str" dx = false ∨ (dx = .str ("" : Str))) := by
      have hm := List.mem_of_getElem? hx
      simp only [List.mem_cons,
            List.not_mem_nil, or_false] at hm
      rcases hm with
            rfl | rfl | rfl | rfl
      · exact ⟨.none, dt_n, .inl rfl⟩
      · exact ⟨.int 5, dt_i, .inl rfl⟩
      · exact ⟨.list ([textR R].map .str), dt_strs g1, .inl rfl⟩
      · exact ⟨.str "", dt_s, .inr rfl⟩
    walk_at "v"
    refine ⟨dx, x, rfl, ddx, cdx, fun H5 s5 => ?_⟩
    walk_at "v"
    refine ⟨[], [], .int 0, .int 0, .int 0, rfl, dt_i, dt_i, trivial, fun H6 s6 => ?_⟩
    have s36 := s5.trans s6
    have st6 := st3.same s36
    have tb6 := tabs_kp tb3 (Keep.of_same (S := [a, b]) s36) st3.lsts
    walk_at "v"
    refine iteF ?_
    walk_at "v"
    refine ⟨tb6, fun H7 xt T7 Ex hEx => ?_⟩
    have st7 := st6.extn xt
    have dr7 := Dt.extn xt _ _ (dr3.same s36)
    have g17 := xt _ _ (s36 _ _ g1) (fun _ e => nomatch e)
    have g27 := xt _ _ (s36 _ _ g2) (fun _ e => nomatch e)
    refine ⟨_, rfl, ?_⟩
    refine ⟨dx, x, rfl, Dt.extn xt _ _ (ddx.same s36), cdx, fun dd H8 hdd s8 => ?_⟩
    refine hEx _ _ _ ⟨rfl, dd, _, rfl, hdd, fun q1 hq1 => ?_⟩
    walk_at "v"
    refine ⟨show 1 ≤ sizeLine by decide, fun q2 hq2 => ?_⟩
    walk_at "v"
    have s9 := (s8.new (o := .lst [.int 0]) hq1).new (o := .lst [.int 0]) hq2
    refine ⟨[], [], .list [.int 0], _, _, rfl, dt_list (h_new upd_same hq2) (DtAll.cons dt_i DtAll.nil) (by simp), dt_list upd_same (DtAll.cons dt_i DtAll.nil) (by simp), ?_, fun H10 s10 => ?_⟩
    · refine ⟨by simp, fun d hd => ?_⟩
      simp only [List.mem_cons, List.not_mem_nil, or_false] at hd
      subst hd; trivial
    · walk_at "v"
      refine iteF ?_
      walk_at "v"
      have s710 := s9.trans s10
      exact ⟨⟨v2, v4, v6, v7, v8, v9, v10, _, v12, v13, rfl⟩, st7.same s710, tabs_kp T7 (Keep.of_same (S := [a, b]) s710) st7.lsts, dr7.same s710, s710 _ _ g17, s710 _ _ g27⟩
  · rintro σ H3 ⟨⟨v2, v4, v6, v7, v8, v9, v10, v11, v12, v13, rfl⟩, st3, tb3, dr3, _, _⟩
    exact k _ _ ⟨⟨v2, v4, v6, v7, v8, v9, v10, v11, v12, v13, rfl⟩, st3, tb3, dr3⟩
end Lr
set_option Elab.async false
set_option linter.all false
set_option maxRecDepth 100000
set_option maxHeartbeats 16000000
namespace Lr
open PySem PySem.Spec PyProof.Rows L2 TL
open C8 (InsC call_isC)
open LamX (GivesAt CodeO Tabs TabS TabB ExtN)
local macro_rules | `(tactic| walk_at "ne") => `(tactic| (first | assumption | (refine ne_sym ?_; assumption) | (exact ne_of_none (by assumption) (by assumption)) | (exact ne_sym (ne_of_none (by assumption) (by assumption)))))
local macro_rules | `(tactic| walk_at "h") => `(tactic| (first | assumption | exact upd_same | (refine h_new ?_ (by assumption); walk_at "h") | (refine h_ne (by walk_at "ne") ?_; walk_at "h")))
local macro_rules | `(tactic| walk_at "v1") => `(tactic| (with_reducible first
  | refine i_seq ?_ | refine i_asg ?_ | refine i_ret ?_ | refine i_next ?_ | refine i_drop ?_ | refine i_ifS ?_ | refine i_if ?_ | refine i_and ?_ | refine i_or ?_ | refine i_not ?_ | refine i_test ?_ | refine i_tB ?_ | refine i_bl ?_ | refine i_yes ?_
  | refine i_op ?_ | refine i_un ?_ | refine i_chain ?_ | refine i_andV ?_ | refine i_orV ?_ | refine i_notV ?_ | refine i_cb ?_ | refine i_cons ?_ | refine i_nil ?_ | refine i_bm ?_ | refine i_bm0 ?_ | refine i_c ?_ | refine i_name ?_ | refine i_sub ?_
  | refine i_call ?_ | refine i_lst ?_ | refine i_tup ?_ | refine i_par ?_ | refine i_par2 ?_ | refine i_sl ?_ | refine i_np ?_ | refine i_pt ?_ | refine i_int ?_ | refine i_m0 ?_ | refine i_m1 ?_ | refine i_isS ?_
  | refine i_rI0 ?_ | refine i_inSign ?_ | refine i_notInSign ?_ | refine i_int1 ?_ | refine i_tru ?_ | refine i_isN ?_ | refine i_notN ?_ | refine iteT ?_ | refine iteF ?_ | refine i_brk ?_ | refine i_rt ?_ | refine i_nx ?_ | refine i_bk ?_ | refine i_ct ?_ | refine i_for ?_ | refine i_lc ?_ | refine i_dc ?_ | refine i_iL ?_ | refine i_iT ?_ | refine i_iR1 ?_ | refine i_iR2 ?_ | refine i_iS ?_ | refine i_iE ?_ | refine i_iEK ?_ | refine i_iEQ ?_ | refine i_iZS ?_ | refine i_dget ?_ | refine i_fld ?_ | refine i_sfld ?_ | refine i_dput ?_ | refine i_meth ?_ | refine i_rU ?_ | refine i_cont ?_ | refine i_make ?_))
local macro_rules | `(tactic| walk_at "v2") => `(tactic| (first
  | ((with_reducible refine' i_var ?k1 ?_); (case k1 => exact rfl))
  | ((with_reducible refine' i_eq ?k1 ?_); (case k1 => exact rfl))
  | ((with_reducible refine' i_ne ?k1 ?_); (case k1 => exact rfl))
  | ((with_reducible refine' i_ixL ?k1 ?k2 ?_); (case k1 => walk_at "h"); (case k2 => exact rfl))
  | ((with_reducible refine' i_ixT ?k1 ?k2 ?_); (case k1 => walk_at "h"); (case k2 => exact rfl))
  | ((with_reducible refine' i_lenL ?k1 ?_); (case k1 => walk_at "h"))
  | ((with_reducible refine' i_lenT ?k1 ?_); (case k1 => walk_at "h"))
  | (refine i_wipe (show wipe _ _ = wipe _ _ from rfl) ?_)
  | ((with_reducible refine' i_setL ?k1 ?k2 ?_); (case k1 => walk_at "h"); (case k2 => exact rfl))
  | ((with_reducible refine' i_tyl ?k1 ?_); (case k1 => walk_at "h"))))
local macro_rules | `(tactic| walk_at "v") => `(tactic| repeat (first | walk_at "v1" | walk_at "v2"))

variable {P : Program} {w : World} {K :
      PySem.W.Frag} {mg : Str → Option Value} {base : Heap}
theorem pages_line {pg : List Str} (h : pg ≠ []) : ("pages " : Str) ++ Txt.join SPC pg = lineW (sPG :: pg) := by
  have e : tl ("pages " : Str) = tl sPG ++ [32] := by decide +kernel
  refine ext_tl ?_
  rw [tl_append, e, tl_lineW]
  show _ ++ tl (lineW pg) = _
  rw [tl_lineW]
  cases pg with
  | nil => exact absurd rfl h
  | cons x r =>
    show tl sPG ++ [32] ++ _ = tl sPG ++ ([32] ++ joinL [32] ((x :: r).map tl))
    rw [List.append_assoc]
theorem RuleAt.kp {S : List Addr} {C : Addr} {H H' : Hp} {p : Addr} {R : RG} (r : RuleAt S C H p R) (k : Keep S H H') : RuleAt S C H' p R := by
  obtain ⟨np, dx, tn, lr, h1, h2, h3⟩ := r
  exact ⟨np, dx, tn, lr, k _ _ np h1, Dt.keep k _ _ h2, Dt.keep k _ _ h3⟩
theorem RuleAt.none {S : List Addr} {C : Addr} {H : Hp} {p : Addr} {R : RG} (r : RuleAt S C H p R) : RuleAt [] C H p R := by
  obtain ⟨np, dx, tn, lr, h1, h2, h3⟩ := r
  exact ⟨by simp, dx, tn, lr, h1, Dt.mono (by simp) _ _ h2, Dt.mono (by simp) _ _ h3⟩
theorem RuleAt.ins {S : List Addr} {C : Addr} {H : Hp} {p : Addr} {R : RG} (r : RuleAt S C H p R) : ∃ dx fs, H p = some (.ins C dx fs) := by
  obtain ⟨np, dx, tn, lr, h1, h2, h3⟩ := r
  exact ⟨dx, _, h1⟩
theorem ok_law {C c PT f : Addr} {oc kV doc pm ct : Value} {od an : Option Addr} {osl : Array (Option Value)} (lk : K.lookup f = some ⟨oc, od, .func (PySem.W.fnOf "law" "law" (defArgs slaw) (defBody slaw) (defScope slaw) .none kV doc pm an (.ref c) ct), osl⟩) (hcd : PySem.W.codeIn K (.ref c) "law" = true)
    (D : LDefs K mg C) (TB : TabB base mg c PT) : FnOk P w K mg base CX0 12 f (PySem.W.fnOf "law" "law" (defArgs slaw) (defBody slaw) (defScope slaw) .none kV doc pm an (.ref c) ct) Plaw (spLaw (K := K) PT) := by
  have D' := D
  obtain ⟨d_law_start, d_law_below, d_law_chance, d_law_pick, d_law_mixed, d_law_lot, d_law_name, d_law_names, d_law_same, d_law_loose, d_law_nwhen, d_law_ndo, d_law_nrule, d_law_nmade, d_law_nwords, d_law_nsaid, d_law_nascending, d_law_nsplit, d_law_nwhen_fits, d_law_nstep_fits, d_law_nstep_in, d_law_nis_read, d_law_nname_fits, d_law_nfault, d_law_nline_told, d_law_nbent,
    dread_rule, drule_text, dRule_pages, dRule_steps, dRule___eq__, DR, tt⟩ := D
  have drule_fault := DR.fault
  have cRule := DR.cls
  have iRule := DR.iC
  have B := DR.B
  obtain ⟨ocN, odN, kVN, docN, pmN, anN, cdvN, ctN, oslN, efd, lkN, hcN⟩ := d_law_nline_told.F.ex
  have bN := d_law_nline_told.b
  rw [efd] at bN lkN
  have G_law_start : FnOk P w K mg base CX0 1 d_law_start.f d_law_start.fd P_law_start (spStart (K := K)) := ok_start d_law_start B.toBlt
  have G_law_nrule : FnOk P w K mg base CX0 5 d_law_nrule.f d_law_nrule.fd P_law_nrule (fun vs H Q E => ∃ i : Addr × Addr, spNRule i.1 i.2 vs H Q E) := FnOk.ex fun i => ok_nrule d_law_nrule d_law_below d_law_lot d_law_pick d_law_chance d_law_mixed d_law_names d_law_name d_law_nwhen d_law_ndo B
  have G_law_nsaid : FnOk P w K mg base CX0 2 d_law_nsaid.f d_law_nsaid.fd P_law_nsaid spNSaid := ok_nsaid d_law_nsaid d_law_nwords B
  have G_law_nmade : FnOk P w K mg base CX0 8 d_law_nmade.f d_law_nmade.fd P_law_nmade (fun vs H Q E => ∃ i : Addr × Addr, spNMade i.1 i.2 C vs H Q E) := FnOk.ex fun i => ok_nmade DR d_law_nmade d_law_below d_law_mixed d_law_loose
  have G_law_nbent : FnOk P w K mg base CX0 3 d_law_nbent.f d_law_nbent.fd P_law_nbent (fun vs H Q E => ∃ i : Addr × Addr, spNBent i.1 i.2 vs H Q E) := FnOk.ex fun i => ok_nbent d_law_nbent d_law_below d_law_pick B
  have G_law_nfault : FnOk P w K mg base CX0 4 d_law_nfault.f d_law_nfault.fd P_law_nfault spNFault := ok_nfault d_law_nfault d_law_nname_fits d_law_nascending d_law_nstep_fits d_law_nwhen_fits d_law_nsplit B
  have G_law_nis_read : FnOk P w K mg base CX0 9 d_law_nis_read.f d_law_nis_read.fd P_law_nis_read spNIsRead := ok_nisread DR d_law_nis_read dread_rule dRule_pages dRule_steps d_law_nstep_in d_law_nsplit d_law_same
  have G_law_same : FnOk P w K mg base CX0 8 d_law_same.f d_law_same.fd P_law_same (spSame 8) := ok_same d_law_same B.toBlt 8
  have GRule_pages : FnOk P w K mg base CX0 1 dRule_pages.f dRule_pages.fd PRule_pages (spRPages C) := ok_rpages cRule dRule_pages B
  have GRule_steps : FnOk P w K mg base CX0 1 dRule_steps.f dRule_steps.fd PRule_steps (spRSteps C) := ok_rsteps cRule dRule_steps B
  have GRule___eq__ : FnOk P w K mg base CX0 1 dRule___eq__.f dRule___eq__.fd PRule___eq__ (spEq (REq C)) := ok_req cRule iRule dRule___eq__ B
  have Grule_text : FnOk P w K mg base CX0 3 drule_text.f drule_text.fd Prule_text (spRuleText C) := ok_ruletext cRule iRule drule_text DR.needRule DR.stepLine DR.tripW B
  have Grule_fault : FnOk P w K mg base CX0 7 drule_fault.f drule_fault.fd Prule_fault spRuleFault := ok_rulefault drule_fault DR.linesIn DR.pagesIn DR.stepIn DR.wordsIn DR.whenIn DR.lotsIn DR.parted DR.tripIn DR.tripW DR.lotAmong DR.namesOf DR.isName B
  have Xread_rule : FnOk P w K mg base (L2.CX P w) 8 dread_rule.f dread_rule.fd Pread_rule (spReadRule C DR.ex.C) := ok_readrule DR dread_rule
  have Gread_rule : FnOk P w K mg base CX0 8 dread_rule.f dread_rule.fd Pread_rule (fun vs H Q _ => spReadRule C DR.ex.C vs H Q (fun _ _ _ => False)) := FnOk.quiet Xread_rule
  refine okC lk hcd sclaw (fun vs H Q E h => ?_) (fun A outer s H vs Q E hr h => ?_)
  · obtain ⟨a, ns, rfl, _⟩ := h
    rfl
  · obtain ⟨sc, ns, rfl, hs, hl, hT, k⟩ := h
    refine ⟨_, (pss_cons (ps_set (i := 1) sclaw.nd rfl (by first | exact Or.inl rfl | exact Or.inr rfl) (pe_call G_law_start (hr.mono (by decide)) (by rfl) d_law_start.g d_law_start.F.kp d_law_start.b .nil pass0 (pa_cons (pv 0) pa_nil)))
      (pss_cons (ps_for PassesOwn.never rfl (pi_range1 (by rfl) B.range (pa_cons pe_int pa_nil)) (pg_name (i := 2) sclaw.nd rfl (by first | exact Or.inl rfl | exact Or.inr rfl))
      (pss_cons (ps_set (i := 3) sclaw.nd rfl (by first | exact Or.inl rfl | exact Or.inr rfl) (pe_call G_law_nrule (hr.mono (by decide)) (by rfl) d_law_nrule.g d_law_nrule.F.kp d_law_nrule.b .nil pass0 (pa_cons (pv 1) pa_nil)))
      (pss_cons (ps_set (i := 4) sclaw.nd rfl (by first | exact Or.inl rfl | exact Or.inr rfl) (pe_op op_cat (pe_lst (pa_cons (pe_op o_addS pe_str (pe_m1 PySem.F.slot_str_join PySem.F.type_str_join (m_join K) pe_str (pe_ix (x_list K) (pv 3) pe_int (fun _ _ => rfl)))) pa_nil)) (pe_lc (own := [("step", 12)]) (g := gName 12) (tt := tYes) rfl sclaw.nd (w_list K (pe_ix (x_list K) (pv 3) pe_int (fun _ _ => rfl))) (blkOk_by (own := [("step", 12)]) (N := Nlaw) (sc := defScope slaw) (by decide +kernel)) (fun _ _ _ _ _ => by exact (pg_name (i := 12) sclaw.nd rfl (by first | exact Or.inl rfl | exact Or.inr rfl))) (fun _ _ _ _ _ => pts_nil) (fun _ _ _ _ _ => by exact (pe_call G_law_nsaid (hr.mono (by decide)) (by rfl) d_law_nsaid.g d_law_nsaid.F.kp d_law_nsaid.b .nil pass0 (pa_cons (pv 12) pa_nil))))))
      (pss_cons (ps_set (i := 5) sclaw.nd rfl (by first | exact Or.inl rfl | exact Or.inr rfl) (pe_m1 PySem.F.slot_str_join PySem.F.type_str_join (m_join K) pe_str (pe_lc (own := [("line", 13)]) (g := gName 13) (tt := tYes) rfl sclaw.nd (w_list K (pv 4)) (blkOk_by (own := [("line", 13)]) (N := Nlaw) (sc := defScope slaw) (by decide +kernel)) (fun _ _ _ _ _ => by exact (pg_name (i := 13) sclaw.nd rfl (by first | exact Or.inl rfl | exact Or.inr rfl))) (fun _ _ _ _ _ => pts_nil) (fun _ _ _ _ _ => by exact (pe_op o_addS (pv 13) pe_str)))))
      (pss_cons (ps_set (i := 6) sclaw.nd rfl (by first | exact Or.inl rfl | exact Or.inr rfl) (pe_call Gread_rule (hr.mono (by decide)) (by rfl) dread_rule.g dread_rule.F.kp dread_rule.b .nil pass0 (pa_cons (pv 5) pa_nil)))
      (pss_cons (ps_if (pt_not (pt_val (pe_call G_law_same (hr.mono (by decide)) (by rfl) d_law_same.g d_law_same.F.kp d_law_same.b .nil pass0 (pa_cons (pe_lst (pa_cons (pe_meth0 (pv 6) cRule.cl dRule_pages.m GRule_pages (hr.mono (by decide)) dRule_pages.b .nil pass0) (pa_cons (pe_meth0 (pv 6) cRule.cl dRule_steps.m GRule_steps (hr.mono (by decide)) dRule_steps.b .nil pass0) pa_nil))) (pa_cons (pe_lst (pa_cons (pe_callTy (c_list K) (by rfl) B.list (by decide +kernel) (pa_cons (pe_ix (x_list K) (pv 3) pe_int (fun _ _ => rfl)) pa_nil)) (pa_cons (pe_callTy (c_list K) (by rfl) B.list (by decide +kernel) (pa_cons (pe_ix (x_list K) (pv 3) pe_int (fun _ _ => rfl)) pa_nil)) pa_nil))) pa_nil))))) (pss_one (ps_ret pe_bl)) pss_nil)
      (pss_cons (ps_set (i := 7) sclaw.nd rfl (by first | exact Or.inl rfl | exact Or.inr rfl) (pe_call G_law_nmade (hr.mono (by decide)) (by rfl) d_law_nmade.g d_law_nmade.F.kp d_law_nmade.b .nil pass0 (pa_cons (pv 1) (pa_cons (pv 3) pa_nil))))
      (pss_cons (ps_if (PW.pt (pw_or (pt_not (pt_val (pe_call G_law_same (hr.mono (by decide)) (by rfl) d_law_same.g d_law_same.F.kp d_law_same.b .nil pass0 (pa_cons (pe_call Grule_text (hr.mono (by decide)) (by rfl) drule_text.g drule_text.F.kp drule_text.b .nil pass0 (pa_cons (pv 7) pa_nil)) (pa_cons (pv 5) pa_nil))))) (pw_or (pt_cmpR o_notN (pe_call Grule_fault (hr.mono (by decide)) (by rfl) drule_fault.g drule_fault.F.kp drule_fault.b .nil pass0 (pa_cons (pv 5) pa_nil)) pe_non (nomark _)) (pw_or1 (pt_not (pt_cmpR (op_eqG (rcG_ins GRule___eq__ dRule___eq__.m.at_ dRule___eq__.m.fn dRule___eq__.b pass0) (hr.mono (by decide))) (pv 6) (pv 7) (nomark _))))))) (pss_one (ps_ret pe_bl)) pss_nil)
      (pss_cons (again_ok D' TB hr)
      (pss_one (odd_ok D' TB hr)))))))))))
      (pss_one (ps_ret
            pe_bl)))), ?_⟩
    walk_at "v"
    refine ⟨sc, ns, rfl, hs, hl, fun a b H1 ha hb st s1 => ?_⟩
    have T1 : Tabs (TL PT) H1 := fun p hp => by
      rw [List.mem_singleton.mp hp]
      exact TabS.nil (s1 _ _ hT)
    walk_at "v"
    refine w_rg1 (n := 3) (by decide) ?_
    refine for_by walk_range ⟨fun i σ H' => (∃ v2 v3 v4 v5 v6 v7 v8 v9 v10 v11 v12 v13 : Option V, σ = [some (.ref sc), some (.ref a), v2, v3, v4, v5, v6, v7, v8, v9, v10, v11, v12, v13]) ∧ StreamAt a b (10000 * i) H' ∧ Tabs (TL PT) H', ?_, fun _ _ _ _ _ => trivial, ?_, ?_⟩
    · exact ⟨⟨_, _, _, _, _, _, _, _, _, _, _, _, rfl⟩, st, T1⟩
    · rintro turn x σ H3 H2 hturn ⟨⟨v2, v3, v4, v5, v6, v7, v8, v9, v10, v11, v12, v13, rfl⟩, st2, T2⟩ ⟨rfl, rfl⟩
      have ht3 : turn < 3 := by simpa using hturn
      walk_at "v"
      refine ⟨(a, b), 10000 * turn, rfl, st2, by omega, fun R vR H4 ok wh nr st4 kp4 => ?_⟩
      have T4 := tabs_kp T2 kp4 st2.lsts
      have dr4 : Dt [a, b] H4 (ruleD R) vR := nr _ st2.trk (fun m h => h)
      clear nr
      obtain ⟨rp, N, sp, sxs, rfl, nrp, hrp, hN, nN, hsp, nsp, dsp⟩ := rule_v dr4
      have lsx : sxs.length = R.steps.length := by rw [dsp.length, List.length_map]
      have h8 := ok.most
      have l3 := ok.pg.most
      have pne : R.pages ≠ [] := fun e => by have := ok.pg.pos; rw [e] at this; simp at this
      have nl : NLN.length = 1 := by decide
      have l0 : ("" : Str).length = 0 := by decide
      have e1 : SPC.length = 1 := by decide
      have e6 : ("pages " : Str).length = 6 := by decide
      walk_at "v"
      have hsum := sum_le (n := 9) (fun x hx => (pages_small ok.pg).2 x (List.mem_cons_of_mem _ hx))
      refine i_join hN (by show _ + _ * SPC.length ≤ _; rw [e1]; omega) ?_
      have hj := join_len SPC R.pages
      rw [e1] at hj
      refine i_adds (x := ("pages " : Str)) (y := Txt.join SPC R.pages) (small_sz (by rw [e6]; omega)) ?_
      rw [pages_line pne]
      walk_at "v"
      refine ⟨show 1 ≤ sizeLine by decide, fun p1 hp1 => ?_⟩
      have s5 : Same H4 (upd H4 p1 (.lst [.str (lineW (sPG :: R.pages))])) := (Same.refl _).new hp1
      have g5 : upd H4 p1 (.lst [.str (lineW (sPG :: R.pages))]) p1 = some (.lst [.str (lineW (sPG :: R.pages))]) := upd_same
      generalize upd H4 p1 (.lst [.str (lineW (sPG :: R.pages))]) = H5 at s5 g5
      walk_at "v"
      refine i_ixL (s5 _ _ hrp) (atI_nat (j := 1) rfl) ?_
      refine ⟨sp, rfl, ⟨_, SqL.of (s5 _ _ hsp)⟩, ?_⟩
      have dsp5 := DtAll.keep (Keep.of_same (S := [a, b]) s5) _ _ dsp
      refine lc_by (walk_list (xs := sxs)) fun D1 hD1 => ⟨fun i H' => H' D1 = some (.lst (((R.steps.take i).map fun s => lineW (stepW s)).map V.str)) ∧ Same H5 H', ⟨upd_same, (Same.refl _).new hD1⟩, fun i H' _ ⟨_, s⟩ => SqL.of (s _ _ (s5 _ _ hsp)), ?_, ?_⟩
      · rintro i x H7 H6 hi ⟨hD6, s6⟩ ⟨rfl, hx⟩
        obtain ⟨di, hdi, hdx⟩ := dsp5.get' hx
        rw [List.getElem?_map] at hdi
        obtain ⟨si, hsi, rfl⟩ := Option.map_eq_some_iff.mp hdi
        have ms := List.mem_of_getElem? hsi
        obtain ⟨pi, rfl, _⟩ := step_tup hdx
        walk_at "v"
        refine ⟨[a, b], si, pi, R.pages, rfl, hdx.same s6, ok.pg, ok.st _ ms, by have := wh _ ms; omega, fun H8 s8 => ?_⟩
        refine ⟨_, s8 _ _ hD6, by simp only [List.length_map, List.length_take]; exact small1000 (by omega), ?_, (s6.trans s8).put hD1⟩
        rw [List.take_succ, hsi]
        simpa using upd_same
      · rintro H6 ⟨hD6, s6⟩
        rw [lsx, List.take_length] at hD6
        walk_at "v"
        refine i_catN (s6 _ _ g5) hD6 (by simp; omega) (fun p7 H7 n7 s7 h7 => ?_)
        have h7' : H7 p7 = some (.lst ((linesR R).map V.str)) := h7
        have s47 := s5.trans (s6.trans s7)
        walk_at "v"
        refine w_lst h7' ?_
        have ll := linesR_len R
        refine lc_by (walk_list (xs := (linesR R).map V.str)) fun D2 hD2 => ⟨fun i H' => H' D2 = some (.lst ((((linesR R).take i).map fun l => l ++ NLN).map V.str)) ∧ Same H7 H', ⟨upd_same, (Same.refl _).new hD2⟩, fun i H' _ ⟨_, s⟩ => SqL.of (s _ _ h7'), ?_, ?_⟩
        · rintro i x H9 H8 hi ⟨hD8, s8⟩ ⟨rfl, hx⟩
          rw [List.getElem?_map] at hx
          obtain ⟨y, hy, rfl⟩ := Option.map_eq_some_iff.mp hx
          walk_at "v"
          have ly := (rule_lines ok wh y (List.mem_of_getElem? hy)).1
          refine i_adds (x := y) (y := NLN) (small_sz (by rw [nl]; omega)) ?_
          refine ⟨_, hD8, by simp only [List.length_map, List.length_take]; exact small1000 (by omega), ?_, s8.put hD2⟩
          rw [List.take_succ, hy]
          simpa using upd_same
        · rintro H8 ⟨hD8, s8⟩
          rw [show ((linesR R).map V.str).length = (linesR R).length by simp, List.take_length] at hD8
          have sums : ∀ x ∈ (linesR R).map (fun l => l ++ NLN), x.length ≤ 331 := fun x hx => by
            obtain ⟨y, hy, rfl⟩
                  := List.mem_map.mp hx
            have := (rule_lines ok wh y hy).1
            rw [len_app, nl]; omega
          have hsm := sum_le sums
          simp only [List.length_map] at hsm
          walk_at "v"
          refine i_join hD8 (by rw [l0]; simp only [List.length_map]; omega) ?_
          rw [show Txt.join ("" : Str) ((linesR R).map fun l => l ++ NLN) = textR R from rfl]
          have s48 := s47.trans s8
          have tx := txR ok wh
          have ef := fault_textR ok
          have st8 := st4.same s48
          have T8 := tabs_kp T4 (Keep.of_same (S := [a, b]) s48) st4.lsts
          have dr8 := dr4.same s48
          walk_at "v"
          refine ⟨[], .str (textR R), .str (textR R), rfl, dt_s, fun z' e => ?_, fun z' e _ => ?_, fun z' n e en => ?_, fun e => by cases e⟩
          · cases e; exact ⟨tx.len, tx.ws⟩
          · cases e
            refine ⟨R, ok, rfl, fun p9 H9 ra s9 => ?_⟩
            have ra9 := ra [] trk_nil
            have raS := ra [a, b] st8.trk
            clear ra
            have s49 := s48.trans s9
            obtain ⟨_, dx, tn, lr, hp9, _, _⟩ := id ra9
            walk_at "v"
            refine ⟨p9, dx, _, rfl, hp9, ruleF_none _ _ (by decide) (by decide), ?_⟩
            refine ⟨p9, R, rfl, ra9, fun q7 G7 n7 t7 => ?_⟩
            have d7 : Dt [] G7 (lstS R.pages) (.ref q7) := n7 [] trk_nil
            have ra10 := ra9.same t7
            walk_at "v"
            refine ⟨p9, dx, _, rfl, t7 _ _ hp9, ruleF_none _ _ (by decide) (by decide), ?_⟩
            refine ⟨p9, R, rfl, ra10, fun q8 G8 d8 t8 => ?_⟩
            walk_at "v"
            refine ⟨show 2 ≤ sizeLine by decide, fun F hF => ?_⟩
            have t9 : Same G8 (upd G8 F (.lst [.ref q7, .ref q8])) := (Same.refl _).new hF
            have h9 : upd G8 F (.lst [.ref q7, .ref q8]) F = some (.lst [.ref q7, .ref q8]) := upd_same
            generalize upd G8 F (.lst [.ref q7, .ref q8]) = G9 at t9 h9
            have dF : Dt [] G9 (ruleD R) (.ref F) := dt_list h9 (DtAll.cons (d7.same (t8.trans t9)) (DtAll.cons (d8.same t9) DtAll.nil)) (by simp)
            have t99 := t7.trans (t8.trans t9)
            have s4g := s49.trans t99
            walk_at "v"
            refine i_ixL (s4g _ _ hrp) (atI_nat (j := 0) rfl) ?_
            walk_at "v"
            refine i_listL (s4g _ _ hN) (fun q10 hq10 => ?_)
            have t10 : Same G9 (upd G9 q10 (.lst (R.pages.map V.str))) := (Same.refl _).new hq10
            have h10 : upd G9 q10 (.lst (R.pages.map V.str)) q10 = some (.lst (R.pages.map V.str)) := upd_same
            generalize upd G9 q10 (.lst (R.pages.map V.str)) = G10 at t10 h10
            walk_at "v"
            refine i_ixL (t10 _ _ (s4g _ _ hrp)) (atI_nat (j := 1) rfl) ?_
            walk_at "v"
            refine i_listL (t10 _ _ (s4g _ _ hsp)) (fun q11 hq11 => ?_)
            have t11 : Same G10 (upd G10 q11 (.lst sxs)) := (Same.refl _).new hq11
            have h11 : upd G10 q11 (.lst sxs) q11 = some (.lst sxs) := upd_same
            generalize upd G10 q11 (.lst sxs) = G11 at t11 h11
            walk_at "v"
            refine ⟨show 2 ≤ sizeLine by decide, fun q12 hq12 => ?_⟩
            have t12 : Same G11 (upd G11 q12 (.lst [.ref q10, .ref q11])) := (Same.refl _).new hq12
            have h12 : upd G11 q12 (.lst [.ref q10, .ref q11]) q12 = some (.lst [.ref q10, .ref q11]) := upd_same
            generalize upd G11 q12 (.lst [.ref q10, .ref q11]) = G12 at t12 h12
            have t912 := t10.trans (t11.trans t12)
            have d10 : Dt [] G12 (.list (R.pages.map .str)) (.ref q10) := dt_strs ((t11.trans t12) _ _ h10)
            have d11 : Dt [] G12 (stepsD R.steps) (.ref q11) := dt_list (t12 _ _ h11) (DtAll.mono (by simp) _ _ (DtAll.keep (Keep.of_same (s4g.trans t912)) _ _ dsp)) (by simp)
            have d12 : Dt [] G12 (ruleD R) (.ref q12) := dt_list h12 (DtAll.cons d10 (DtAll.cons d11 DtAll.nil)) (by simp)
            walk_at "v"
            refine ⟨[], [], ruleD R, .ref F, .ref q12, rfl, dF.same t912, d12, fit_rule ok (fun s hs => by have := wh s hs; omega), fun G13 t13 => ?_⟩
            have t913 := t912.trans t13
            have s4x := s4g.trans t913
            have st13 := st4.same s4x
            have T13 := tabs_kp T4 (Keep.of_same (S := [a, b]) s4x) st4.lsts
            have dr13 := dr4.same s4x
            have ra13 := raS.kp (Keep.of_same (t99.trans t913))
            clear t10 t11 t12 t913 t912 h10 h11 h12 d10 d11 d12 dF d8 d7 n7 ra10 ra9 t7 t8 t9 s4x s4g h9 hD8 hD6 st8 T8 dr8 s48 s47
            walk_at "v"
            refine iteF ?_
            walk_at "v"
            refine ⟨(a, b), 10000 * turn + 1000, R, .ref rp, rfl, dr13, ok, wh, st13, by omega, fun pm G14 rm st14 kp14 => ?_⟩
            have rm14 := rm [] trk_nil
            have ra14 := ra13.kp kp14
            have T14 := tabs_kp T13 kp14 st13.lsts
            have dr14 := Dt.keep kp14 _ _ dr13
            walk_at "v"
            refine ⟨pm, R, rfl, rm14, ok, fun s hs => by have := wh s hs; omega, fun G15 t15 => ?_⟩
            walk_at "v"
            refine ⟨[], [], .str (textR R), .str (textR R), .str (textR R), rfl, dt_s, dt_s, trivial, fun G16 t16 => ?_⟩
            walk_at "v"
            refine iteF ?_
            walk_at "v"
            refine ⟨[], .str (textR R), .str (textR R), rfl, dt_s, fun z e => ?_, fun e => by cases e⟩
            cases e
            refine ⟨tx.len, tx.ws, fun G17 t17 => ?_⟩
            rw [ef]
            walk_at "v"
            refine ifn (fun h => absurd rfl h) (fun _ => ?_)
            walk_at "v"
            have t147 := t15.trans (t16.trans t17)
            have ra17 := (ra14.kp (Keep.of_same t147)).none
            have rm17 := rm14.kp (Keep.of_same t147)
            obtain ⟨dx1, fs1, i1⟩ := ra17.ins
            obtain ⟨dx2, fs2, i2⟩ := rm17.ins
            refine ⟨⟨p9, pm, dx1, dx2, fs1, fs2, rfl, rfl, i1, i2, R, ra17, rm17⟩, fun G18 t18 => ?_⟩
            have t148 : Same G14 G18 := t147.trans t18
            walk_at "v"
            refine iteF ?_
            walk_at "v"
            refine ⟨sc, a, b, 10000 * turn + 2000, R, .ref rp, ⟨⟨_, _, _, _, _, _, _, _, _, _, rfl⟩, (st14.same t148).mono (by omega), tabs_kp T14 (Keep.of_same (S := [a, b]) t148) st14.lsts, dr14.same t148⟩, ok, wh, by omega, fun σ1 G19 m19 => ?_⟩
            walk_at "v"
            refine ⟨sc, a, b, _, R, .ref rp, m19, fun σ2 G20 m20 => ?_⟩
            obtain ⟨⟨w2, w4, w6, w7, w8, w9, w10, w11, w12, w13, rfl⟩, st20, T20, _⟩ := m20
            exact ⟨⟨_, _, _, _, _, _, _, _, _, _, _, _, rfl⟩, st20.mono (by omega), T20⟩
          · cases e; rw [ef] at en; cases en
    · rintro σ H2 ⟨⟨v2, v3, v4, v5, v6, v7, v8, v9, v10, v11, v12, v13, rfl⟩, st2, T2⟩
      walk_at "v"
      exact k _
end Lr
set_option Elab.async false
set_option linter.all false
set_option maxRecDepth 100000
set_option maxHeartbeats 4000000
/-! Hc: the head's facts as the texts want them. -/
namespace Lr
open PySem PySem.Spec
      PyProof.Rows L2
theorem fun_of {K : PySem.W.Frag} {x q : Str} {st : Stmt} {f : Addr} {fd : FuncData} (F : FunD K x q (defArgs st) (defBody st) (defScope st) [] [] f fd) : Fun K x q st f fd := by
  obtain ⟨oc, od, dV, kV, doc, pm, an, cdv, ct, osl, rfl, lk, hc, hD, _⟩ := F.ex
  rcases hD with ⟨_, rfl⟩ | ⟨h, _⟩
  · exact ⟨⟨oc, od, kV, doc, pm, an, cdv, ct, osl, rfl, lk, hc⟩, F.kp⟩
  · exact absurd rfl h
/-- an own error's class: over ValueError, with fields -/
def oexB (K : PySem.W.Frag) (C : Addr) : Bool :=
  (match K.lookup C with
    | some ob => (match ob.cls, ob.data with
      | .type t, .cls cd => decide (t = "type") && ((match cd.mro, ob.slots.toList with
        | .ref z :: bm, [_, _, _, _, some (.builtin n), _] => decide (z = C) && (decide (n = "ValueError.__new__") && (!cd.hasDel && (cd.hasDict && PySem.HandSPX.refsVE bm)))
        | _, _ => false))
      | _, _ => false)
    | none => false) &&
  (decide (PySem.W.findIn K (.ref C) "__setattr__" = some (some (.builtin "object.__setattr__"))) && (decide (PySem.W.subIn K (.ref C) (.type "BaseException") = some true) && (decide (PySem.W.typeIn K (.ref C) = some (.type "type")) && PySem.W.keepIn K (.ref C))))
theorem oexB_ok {K : PySem.W.Frag} {C : Addr} (h : oexB K C = true) : OexC K C := by
  unfold oexB at h
  obtain ⟨h1, h⟩
        := Bool.and_eq_true_iff.mp h
  obtain ⟨h2, h⟩
        := Bool.and_eq_true_iff.mp h
  obtain ⟨h3, h⟩ := Bool.and_eq_true_iff.mp h
  obtain ⟨h4, h5⟩ := Bool.and_eq_true_iff.mp h
  refine ⟨?_, of_decide_eq_true h2, of_decide_eq_true h3, of_decide_eq_true h4, h5⟩
  cases hl : K.lookup C with
  | none => rw [hl] at h1; cases h1
  | some ob =>
    rw [hl] at h1
    obtain ⟨oc, od, dt, sl⟩ := ob
    cases oc with
    | type t =>
      cases dt with
      | cls cd =>
        dsimp only at h1
        obtain ⟨ht, g1⟩ := Bool.and_eq_true_iff.mp h1
        clear h1
        obtain rfl := of_decide_eq_true ht
        split at g1
        · rename_i z bm k0 k1 k2 k3 n k5 hm hs
          obtain ⟨z1, g2⟩ := Bool.and_eq_true_iff.mp g1
          obtain ⟨z2, g3⟩ := Bool.and_eq_true_iff.mp g2
          obtain ⟨z3, g4⟩ := Bool.and_eq_true_iff.mp g3
          obtain ⟨z4, z5⟩ := Bool.and_eq_true_iff.mp g4
          have e1 := of_decide_eq_true z1
          have e2 := of_decide_eq_true z2
          obtain ⟨nm, bs, mro, ns, qn,
                hd, sn, sub, ab, col, del⟩ := cd
          have z3' : del = false := by
            cases del
            · rfl
            · cases z3
          have z4' : hd = true := z4
          have hm' : mro = .ref z :: bm := hm
          subst hm' z3' z4' e1 e2
          obtain ⟨l⟩ := sl
          dsimp only at hs
          subst hs
          exact ⟨nm, qn, ns, bs, bm, sn, sub, ab, col, od, k0, k1, k2, k3, k5, rfl, z5⟩
        · cases g1
      | _ => cases h1
    | _ => cases dt <;> cases h1
/-- a class whose instances isinstance knows -/
def insB (K : PySem.W.Frag) (C : Addr) : Bool := decide (PySem.W.findIn K (.ref C) "__class__" = some (some (.builtin "object.__class__"))) && (decide (PySem.W.specialIn K (.builtin "object.__class__") "__get__" = some (some (.builtin "getset_descriptor.__get__"))) &&
  (decide (PySem.W.takesIn K (.builtin "object.__class__") = some true) && (decide (PySem.W.mroIn K C (.type "object") = some true) && decide (PySem.W.kitOne K (.ref C) (.ref C) = some true))))
theorem insB_ok {K : PySem.W.Frag} {C : Addr} (cl : Cls K C) (h : insB K C = true) : C8.InsC K C := by
  unfold insB at h
  obtain ⟨h1, h⟩
        := Bool.and_eq_true_iff.mp h
  obtain ⟨h2, h⟩
        := Bool.and_eq_true_iff.mp h
  obtain ⟨h3, h⟩ := Bool.and_eq_true_iff.mp h
  obtain ⟨h4, h5⟩ := Bool.and_eq_true_iff.mp h
  exact ⟨cl, of_decide_eq_true h1, of_decide_eq_true h2, of_decide_eq_true h3, of_decide_eq_true h4, of_decide_eq_true h5⟩
end Lr
set_option Elab.async false
set_option linter.all false
set_option maxRecDepth 100000
set_option maxHeartbeats 4000000
/-! Ht: a module's constant that is a tuple of texts. -/
namespace Lr
open PySem PySem.Spec
      PyProof.Rows L2
def strsB : List Value → List Str → Bool
  | [], [] => true
  | .str y _ :: r, x :: l => decide (y = x) && strsB r l
  | _, _ => false
theorem strsB_ok : ∀ {vs : List Value} {l : List Str}, strsB vs l = true → Vals (l.map V.str) vs
  | [], [], _ => .nil
  | [], _ :: _, h => by simp [strsB] at h
  | v :: vs, [], h => by cases v <;> simp [strsB] at h
  | v :: vs, x :: l, h => by
    cases v with
    | str y t =>
      unfold strsB at h
      obtain ⟨h1, h2⟩ := Bool.and_eq_true_iff.mp h
      obtain rfl := of_decide_eq_true h1
      exact .cons ⟨t, rfl⟩ (strsB_ok h2)
    | _ => simp [strsB] at h
def tupB (K : PySem.W.Frag) (a : Addr) (l : List Str) : Bool :=
  match K.lookup a with
  | some ob => (match ob.cls, ob.data with
    | .type t, .seq its _ => decide (t = "tuple") && (decide (its.size ≤ 100) && strsB its.toList l)
    | _, _ => false)
  | none => false
theorem tupB_ok {K : PySem.W.Frag} {a : Addr} {l : List Str} (h : tupB K a l = true) (H : Hp) : SqT K H a (l.map V.str) := by
  unfold tupB at h
  cases hl : K.lookup a with
  | none => rw [hl]
        at h; cases h
  | some ob =>
    rw [hl] at h
    dsimp only at h
    split at h
    · rename_i t its n hc hd
      obtain ⟨h1, h⟩
            := Bool.and_eq_true_iff.mp h
      obtain ⟨h2, h3⟩ := Bool.and_eq_true_iff.mp h
      obtain rfl := of_decide_eq_true h1
      exact .inr ⟨ob, its, n, hl, hc, hd, Nat.le_trans (of_decide_eq_true h2) (by decide), strsB_ok h3⟩
    · cases h
end Lr
set_option Elab.async false
set_option linter.all false
set_option maxRecDepth 100000
set_option maxHeartbeats 0
namespace Lr
open PySem PySem.Spec
      PyProof.Rows L2
namespace Hd
def top (i : Nat) : Stmt := PySem.Challenge.pw_leastredo_k81_whole_rule_texts.main.body.getD i (.Pass ⟨0, 0, 0, 0⟩)
/-! ### the head:
      facts by names, the run -/
def fn0 : List He.DefD := [⟨("BadPages", some "__init__"), "__init__", "BadPages.__init__", defArgs (inClass (top 2) 0), defBody (inClass (top 2) 0), defScope (inClass (top 2) 0), [], []⟩, ⟨("BadRule", some "__init__"), "__init__", "BadRule.__init__", defArgs (inClass (top 3) 0), defBody (inClass (top 3) 0), defScope (inClass (top 3) 0), [], []⟩, ⟨("BadSteps", some "__init__"), "__init__", "BadSteps.__init__", defArgs (inClass (top 4) 0), defBody (inClass (top 4) 0), defScope (inClass (top 4) 0), [], []⟩, ⟨("BadText", some "__init__"), "__init__", "BadText.__init__", defArgs (inClass (top 5) 0), defBody (inClass (top 5) 0), defScope (inClass (top 5) 0), [], []⟩, ⟨("is_name", none), "is_name", "is_name", defArgs (top 9), defBody (top 9), defScope (top 9), [], []⟩, ⟨("names_of", none), "names_of", "names_of", defArgs (top 10), defBody (top 10), defScope (top 10), [], []⟩, ⟨("lot_among", none), "lot_among", "lot_among", defArgs (top 11), defBody (top 11), defScope (top 11), [], []⟩, ⟨("words_in", none), "words_in", "words_in", defArgs (top 12), defBody (top 12), defScope (top 12), [], []⟩, ⟨("lines_in", none), "lines_in", "lines_in", defArgs (top 13), defBody (top 13), defScope (top 13), [], []⟩, ⟨("when_of", none), "when_of", "when_of", defArgs (top 16), defBody (top 16), defScope (top 16), [], []⟩, ⟨("step_of", none), "step_of", "step_of", defArgs (top 17), defBody (top 17), defScope (top 17), [], []⟩, ⟨("Rule", some "__init__"), "__init__", "Rule.__init__", defArgs (inClass (top 18) 0), defBody (inClass (top 18) 0), defScope (inClass (top 18) 0), [], []⟩, ⟨("Rule", some "__eq__"), "__eq__", "Rule.__eq__", defArgs (inClass (top 18) 1), defBody (inClass (top 18) 1), defScope (inClass (top 18) 1), [], []⟩, ⟨("Rule", some "pages"), "pages", "Rule.pages", defArgs (inClass (top 18) 2), defBody (inClass (top 18) 2), defScope (inClass (top 18) 2), [], []⟩, ⟨("Rule", some "steps"), "steps", "Rule.steps", defArgs (inClass (top 18) 3), defBody (inClass (top 18) 3), defScope (inClass (top 18) 3), [], []⟩, ⟨("need_rule", none), "need_rule", "need_rule", defArgs (top 19), defBody (top 19), defScope (top 19), [], []⟩, ⟨("triple_words", none), "triple_words", "triple_words", defArgs (top 22), defBody (top 22), defScope (top 22), [], []⟩, ⟨("step_line", none), "step_line", "step_line", defArgs (top 23), defBody (top 23), defScope (top 23), [], []⟩, ⟨("rule_text", none), "rule_text", "rule_text", defArgs (top 24), defBody (top 24), defScope (top 24), [], []⟩, ⟨("parted", none), "parted", "parted", defArgs (top 25), defBody (top 25), defScope (top 25), [], []⟩]
def fn1 : List He.DefD := [⟨("triple_in", none), "triple_in", "triple_in", defArgs (top 26), defBody (top 26), defScope (top 26), [], []⟩, ⟨("when_in", none), "when_in", "when_in", defArgs (top 27), defBody (top 27), defScope (top 27), [], []⟩, ⟨("lots_in", none), "lots_in", "lots_in", defArgs (top 28), defBody (top 28), defScope (top 28), [], []⟩, ⟨("step_in", none), "step_in", "step_in", defArgs (top 29), defBody (top 29), defScope (top 29), [], []⟩, ⟨("pages_in", none), "pages_in", "pages_in", defArgs (top 30), defBody (top 30), defScope (top 30), [], []⟩, ⟨("rule_fault", none), "rule_fault", "rule_fault", defArgs (top 31), defBody (top 31), defScope (top 31), [], []⟩, ⟨("read_rule", none), "read_rule", "read_rule", defArgs (top 32), defBody (top 32), defScope (top 32), [], []⟩, ⟨("_law_nwhen", none), "_law_nwhen", "_law_nwhen", defArgs (top 34), defBody (top 34), defScope (top 34), [], []⟩, ⟨("_law_ndo", none), "_law_ndo", "_law_ndo", defArgs (top 35), defBody (top 35), defScope (top 35), [], []⟩, ⟨("_law_nrule", none), "_law_nrule", "_law_nrule", defArgs (top 36), defBody (top 36), defScope (top 36), [], []⟩, ⟨("_law_nmade", none), "_law_nmade", "_law_nmade", defArgs (top 37), defBody (top 37), defScope (top 37), [], []⟩, ⟨("_law_start", none), "_law_start", "_law_start", defArgs (top 38), defBody (top 38), defScope (top 38), [], []⟩, ⟨("_law_below", none), "_law_below", "_law_below", defArgs (top 39), defBody (top 39), defScope (top 39), [], []⟩, ⟨("_law_chance", none), "_law_chance", "_law_chance", defArgs (top 40), defBody (top 40), defScope (top 40), [], []⟩, ⟨("_law_pick", none), "_law_pick", "_law_pick", defArgs (top 41), defBody (top 41), defScope (top 41), [], []⟩, ⟨("_law_mixed", none), "_law_mixed", "_law_mixed", defArgs (top 42), defBody (top 42), defScope (top 42), [], []⟩, ⟨("_law_lot", none), "_law_lot", "_law_lot", defArgs (top 43), defBody (top 43), defScope (top 43), [], []⟩, ⟨("_law_same", none), "_law_same", "_law_same", defArgs (top 44), defBody (top 44), defScope (top 44), [], []⟩, ⟨("_law_loose", none), "_law_loose", "_law_loose", defArgs (top 45), defBody (top 45), defScope (top 45), [], []⟩, ⟨("_law_name", none), "_law_name", "_law_name", defArgs (top 46), defBody (top 46), defScope (top 46), [], []⟩]
def fn2 : List He.DefD := [⟨("_law_names", none), "_law_names", "_law_names", defArgs (top 47), defBody (top 47), defScope (top 47), [], []⟩, ⟨("_law_nwords", none), "_law_nwords", "_law_nwords", defArgs (top 48), defBody (top 48), defScope (top 48), [], []⟩, ⟨("_law_nsaid", none), "_law_nsaid", "_law_nsaid", defArgs (top 49), defBody (top 49), defScope (top 49), [], []⟩, ⟨("_law_nascending", none), "_law_nascending", "_law_nascending", defArgs (top 50), defBody (top 50), defScope (top 50), [], []⟩, ⟨("_law_nsplit", none), "_law_nsplit", "_law_nsplit", defArgs (top 51), defBody (top 51), defScope (top 51), [], []⟩, ⟨("_law_nwhen_fits", none), "_law_nwhen_fits", "_law_nwhen_fits", defArgs (top 52), defBody (top 52), defScope (top 52), [], []⟩, ⟨("_law_nstep_fits", none), "_law_nstep_fits", "_law_nstep_fits", defArgs (top 53), defBody (top 53), defScope (top 53), [], []⟩, ⟨("_law_nstep_in", none), "_law_nstep_in", "_law_nstep_in", defArgs (top 54), defBody (top 54), defScope (top 54), [], []⟩, ⟨("_law_nis_read", none), "_law_nis_read", "_law_nis_read", defArgs (top 55), defBody (top 55), defScope (top 55), [], []⟩, ⟨("_law_nname_fits", none), "_law_nname_fits", "_law_nname_fits", defArgs (top 56), defBody (top 56), defScope (top 56), [], []⟩, ⟨("_law_nfault", none), "_law_nfault", "_law_nfault", defArgs (top 57), defBody (top 57), defScope (top 57), [], []⟩, ⟨("_law_nline_told", none), "_law_nline_told", "_law_nline_told", defArgs (top 58), defBody (top 58), defScope (top 58), [], []⟩, ⟨("_law_nbent", none), "_law_nbent", "_law_nbent", defArgs (top 59), defBody (top 59), defScope (top 59), [], []⟩, ⟨("law", none), "law", "law", defArgs (top 60), defBody (top 60), defScope (top 60), [], []⟩]
def fn : List He.DefD := fn0 ++ fn1 ++ fn2
def fa0 : List He.Fa := [.glo "is_name", .glo "names_of", .glo "lot_among", .glo "words_in", .glo "lines_in", .glo "when_of", .glo "step_of", .glo "need_rule", .glo "triple_words", .glo "step_line", .glo "rule_text", .glo "parted", .glo "triple_in", .glo "when_in", .glo "lots_in", .glo "step_in", .glo "pages_in", .glo "rule_fault", .glo "read_rule", .glo "_law_nwhen"]
def fa1 : List He.Fa := [.glo "_law_ndo", .glo "_law_nrule", .glo "_law_nmade", .glo "_law_start", .glo "_law_below", .glo "_law_chance", .glo "_law_pick", .glo "_law_mixed", .glo "_law_lot", .glo "_law_same", .glo "_law_loose", .glo "_law_name", .glo "_law_names", .glo "_law_nwords", .glo "_law_nsaid", .glo "_law_nascending", .glo "_law_nsplit", .glo "_law_nwhen_fits", .glo "_law_nstep_fits", .glo "_law_nstep_in"]
def fa2 : List He.Fa := [.glo "_law_nis_read", .glo "_law_nname_fits", .glo "_law_nfault", .glo "_law_nline_told", .glo "_law_nbent", .glo "law", .glo "RedoError", .glo "BadPages", .glo "BadRule", .glo "BadSteps", .glo "BadText", .glo "Rule", .free "all", .free "bool", .free "dict", .free "enumerate", .free "int", .free "isinstance", .free "len", .free "list"]
def fa3 : List He.Fa := [.free "range", .free "sorted", .free "str", .free "tuple", .free "zip", .str "LETTERS" "abcdefghijklmnopqrstuvwxyz", .str "FIGURES" "0123456789", .glo "ALONE", .str "SIGNS" "=+!", .meth "BadPages" "__init__", .noat "BadPages" "thing", .meth "BadRule" "__init__", .noat "BadRule" "thing", .meth "BadSteps" "__init__", .noat "BadSteps" "index", .meth "BadText" "__init__", .noat "BadText" "line", .cls "Rule", .mkr "Rule", .meth "Rule" "__init__"]
def fa4 : List He.Fa := [.meth "Rule" "__eq__", .meth "Rule" "pages", .meth "Rule" "steps", .noat "Rule" "names", .noat "Rule" "rows"]
def fa : List He.Fa := fa0 ++ fa1 ++ fa2 ++ fa3 ++ fa4
def tf : List He.Defn := [("law", none)]
def lz : List (List Str) := [["RedoError", "BadPages", "BadRule", "BadSteps", "BadText", "LETTERS", "FIGURES", "is_name", "names_of", "lot_among", "words_in", "lines_in", "ALONE", "when_of", "step_of", "Rule", "need_rule", "SIGNS", "triple_words", "step_line"], ["rule_text", "parted", "triple_in", "when_in", "lots_in", "step_in", "pages_in", "rule_fault", "read_rule", "_law_nwhen", "_law_ndo", "_law_nrule", "_law_nmade", "_law_start", "_law_below", "_law_chance", "_law_pick", "_law_mixed", "_law_lot", "_law_same"], ["_law_loose", "_law_name", "_law_names", "_law_nwords", "_law_nsaid", "_law_nascending", "_law_nsplit", "_law_nwhen_fits", "_law_nstep_fits", "_law_nstep_in", "_law_nis_read", "_law_nname_fits", "_law_nfault", "_law_nline_told", "_law_nbent"]]
def loose : List Str := lz.flatten
def lawI : Nat := 60

/-- the facts that the list of facts has no word for -/
def ex (K : PySem.W.Frag) : Bool := oexB K (He.ga K "BadText") && (xfB K (He.ga K "BadText") && (decide (PySem.W.typeIn K (.ref (He.ma K (He.ga K "BadText") "__init__")) = some (.type "function")) && (insB K (He.ga K "Rule") && (decide (PySem.W.exmOne K (.ref (He.ga K "BadText")) (.ref (He.ga K "BadText")) = some true) && (tupB K (He.ga K "ALONE") [("force" : Str), ("mark" : Str), ("cut" : Str)] && (true))))))
abbrev R : PySem.W.OpenRow := PySem.W.OpenLaw.row PySem.Challenge.rw_leastredo_k81_whole_rule_texts
abbrev hk : PySem.W.Hook := He.hookX 5 fa fn [] tf ex
def ob (s : PySem.W.SharedT) : He.AlX := He.obsX 5 fa fn [] tf ex (HandSHeadRun.getT s)
theorem ob_eq (s : PySem.W.SharedT) : ob s = hk.obs s.abs := He.obsX_eq (HandSHeadRun.getT_eq s)
theorem run (w : World) : HandSHeadRun.RunEq R (PySem.W.view R.prog [60]) hk ob 6000 loose w := by
  intro os
  kernel_rfl
end Hd
end Lr
set_option Elab.async false
set_option linter.all false
set_option maxRecDepth 100000
set_option maxHeartbeats 0
namespace Lr
open PySem PySem.Spec
      PyProof.Rows L2
open LamX (TabB LawAtS)
theorem law_at (w : World) (mg : Str → Option Value) (fa : Addr) (h : Heap) (Y : Hd.hk.says w h) (hns : h.Ns mainGlobals mg) (hmg : mg ("law" : Str) = some (.ref fa)) :
    ∃ K : PySem.W.Frag, K.In h ∧ LawAtS PySem.Challenge.rw_leastredo_k81_whole_rule_texts w K CX0 12 63 "script" mg fa h := by
  obtain ⟨K, X, c⟩ := Y
  have cd := c.t.d
  have hex := c.more
  unfold Hd.ex at hex
  obtain ⟨e0, hex⟩ := Bool.and_eq_true_iff.mp hex
  obtain ⟨e1, hex⟩ := Bool.and_eq_true_iff.mp hex
  obtain ⟨e2, hex⟩ := Bool.and_eq_true_iff.mp hex
  obtain ⟨e3, hex⟩ := Bool.and_eq_true_iff.mp hex
  obtain ⟨e4, hex⟩ := Bool.and_eq_true_iff.mp hex
  obtain ⟨e5, hex⟩ := Bool.and_eq_true_iff.mp hex
  obtain ⟨fd3, F3⟩ := cd.def_ 3 rfl
  obtain ⟨fd4, F4⟩ := cd.def_ 4 rfl
  obtain ⟨fd5, F5⟩ := cd.def_ 5 rfl
  obtain ⟨fd6, F6⟩ := cd.def_ 6 rfl
  obtain ⟨fd7, F7⟩ := cd.def_ 7 rfl
  obtain ⟨fd8, F8⟩ := cd.def_ 8 rfl
  obtain ⟨fd9, F9⟩ := cd.def_ 9 rfl
  obtain ⟨fd10, F10⟩ := cd.def_ 10 rfl
  obtain ⟨fd11, F11⟩ := cd.def_ 11 rfl
  obtain ⟨fd12, F12⟩ := cd.def_ 12 rfl
  obtain ⟨fd13, F13⟩ := cd.def_ 13 rfl
  obtain ⟨fd14, F14⟩ := cd.def_ 14 rfl
  obtain ⟨fd15, F15⟩ := cd.def_ 15 rfl
  obtain ⟨fd16, F16⟩ := cd.def_ 16 rfl
  obtain ⟨fd17, F17⟩ := cd.def_ 17 rfl
  obtain ⟨fd18, F18⟩ := cd.def_ 18 rfl
  obtain ⟨fd19, F19⟩ := cd.def_ 19 rfl
  obtain ⟨fd20, F20⟩ := cd.def_ 20 rfl
  obtain ⟨fd21, F21⟩ := cd.def_ 21 rfl
  obtain ⟨fd22, F22⟩ := cd.def_ 22 rfl
  obtain ⟨fd23, F23⟩ := cd.def_ 23 rfl
  obtain ⟨fd24, F24⟩ := cd.def_ 24 rfl
  obtain ⟨fd25, F25⟩ := cd.def_ 25 rfl
  obtain ⟨fd26, F26⟩ := cd.def_ 26 rfl
  obtain ⟨fd27, F27⟩ := cd.def_ 27 rfl
  obtain ⟨fd28, F28⟩ := cd.def_ 28 rfl
  obtain ⟨fd29, F29⟩ := cd.def_ 29 rfl
  obtain ⟨fd30, F30⟩ := cd.def_ 30 rfl
  obtain ⟨fd31, F31⟩ := cd.def_ 31 rfl
  obtain ⟨fd32, F32⟩ := cd.def_ 32 rfl
  obtain ⟨fd33, F33⟩ := cd.def_ 33 rfl
  obtain ⟨fd34, F34⟩ := cd.def_ 34 rfl
  obtain ⟨fd35, F35⟩ := cd.def_ 35 rfl
  obtain ⟨fd36, F36⟩ := cd.def_ 36 rfl
  obtain ⟨fd37, F37⟩ := cd.def_ 37 rfl
  obtain ⟨fd38, F38⟩ := cd.def_ 38 rfl
  obtain ⟨fd39, F39⟩ := cd.def_ 39 rfl
  obtain ⟨fd40, F40⟩ := cd.def_ 40 rfl
  obtain ⟨fd41, F41⟩ := cd.def_ 41 rfl
  obtain ⟨fd42, F42⟩ := cd.def_ 42 rfl
  obtain ⟨fd43, F43⟩ := cd.def_ 43 rfl
  obtain ⟨fd44, F44⟩ := cd.def_ 44 rfl
  obtain ⟨fd45, F45⟩ := cd.def_ 45 rfl
  obtain ⟨fd46, F46⟩ := cd.def_ 46 rfl
  obtain ⟨fd47, F47⟩ := cd.def_ 47 rfl
  obtain ⟨fd48, F48⟩ := cd.def_ 48 rfl
  obtain ⟨fd49, F49⟩ := cd.def_ 49 rfl
  obtain ⟨fd50, F50⟩ := cd.def_ 50 rfl
  obtain ⟨fd51, F51⟩ := cd.def_ 51 rfl
  obtain ⟨fd52, F52⟩ := cd.def_ 52 rfl
  obtain ⟨fd53, F53⟩ := cd.def_ 53 rfl
  have B : Blt2 K mg := {
    len := He.free_ok X hns (cd.fact 58 rfl)
    list := He.free_ok X hns (cd.fact 59 rfl)
    tuple := He.free_ok X hns (cd.fact 63 rfl)
    dict := He.free_ok X hns (cd.fact 54 rfl)
    int := He.free_ok X hns (cd.fact 56 rfl)
    str := He.free_ok X hns (cd.fact 62 rfl)
    bool := He.free_ok X hns (cd.fact 53 rfl)
    range := He.free_ok X hns (cd.fact 60 rfl)
    enumerate := He.free_ok X hns (cd.fact 55 rfl)
    zip := He.free_ok X hns (cd.fact 64 rfl)
    sorted := He.free_ok X hns (cd.fact 61 rfl)
    all := He.free_ok X hns (cd.fact 52 rfl)
    isinstance := He.free_ok X hns (cd.fact 57 rfl)
    gLETTERS := by
      obtain ⟨t, e⟩ := He.str_ok X hns (cd.fact 65 rfl)
      exact ⟨_, e, t, rfl⟩
    gFIGURES := by
      obtain ⟨t, e⟩ := He.str_ok X hns (cd.fact 66 rfl)
      exact ⟨_, e, t, rfl⟩
    gSIGNS := by
      obtain ⟨t, e⟩ := He.str_ok X hns (cd.fact 68 rfl)
      exact ⟨_, e, t, rfl⟩
    }
  have cRule : RuleCls K mg (He.ga K "Rule") := ⟨(He.cls_ok (cd.fact 77 rfl)), (He.noat_ok (cd.fact 83 rfl)), (He.noat_ok (cd.fact 84 rfl)), (He.glo_ok X hns (cd.fact 51 rfl))⟩
  let DR : RDefs K mg (He.ga K "Rule") := {
    fault := ⟨_, fd25, fun_of F25, (He.glo_ok X hns (cd.fact 17 rfl)), F25.bindsN (fun _ _ _ _ _ _ us hl => match us, hl with | [_], _ => rfl)⟩
    linesIn := ⟨_, fd8, fun_of F8, (He.glo_ok X hns (cd.fact 4 rfl)), F8.bindsN (fun _ _ _ _ _ _ us hl => match us, hl with | [_], _ => rfl)⟩
    pagesIn := ⟨_, fd24, fun_of F24, (He.glo_ok X hns (cd.fact 16 rfl)), F24.bindsN (fun _ _ _ _ _ _ us hl => match us, hl with | [_], _ => rfl)⟩
    stepIn := ⟨_, fd23, fun_of F23, (He.glo_ok X hns (cd.fact 15 rfl)), F23.bindsN (fun _ _ _ _ _ _ us hl => match us, hl with | [_, _], _ => rfl)⟩
    wordsIn := ⟨_, fd7, fun_of F7, (He.glo_ok X hns (cd.fact 3 rfl)), F7.bindsN (fun _ _ _ _ _ _ us hl => match us, hl with | [_], _ => rfl)⟩
    whenIn := ⟨_, fd21, fun_of F21, (He.glo_ok X hns (cd.fact 13 rfl)), F21.bindsN (fun _ _ _ _ _ _ us hl => match us, hl with | [_, _], _ => rfl)⟩
    lotsIn := ⟨_, fd22, fun_of F22, (He.glo_ok X hns (cd.fact 14 rfl)), F22.bindsN (fun _ _ _ _ _ _ us hl => match us, hl with | [_, _], _ => rfl)⟩
    parted := ⟨_, fd19, fun_of F19, (He.glo_ok X hns (cd.fact 11 rfl)), F19.bindsN (fun _ _ _ _ _ _ us hl => match us, hl with | [_, _], _ => rfl)⟩
    tripIn := ⟨_, fd20, fun_of F20, (He.glo_ok X hns (cd.fact 12 rfl)), F20.bindsN (fun _ _ _ _ _ _ us hl => match us, hl with | [_, _], _ => rfl)⟩
    tripW := ⟨_, fd16, fun_of F16, (He.glo_ok X hns (cd.fact 8 rfl)), F16.bindsN (fun _ _ _ _ _ _ us hl => match us, hl with | [_], _ => rfl)⟩
    lotAmong := ⟨_, fd6, fun_of F6, (He.glo_ok X hns (cd.fact 2 rfl)), F6.bindsN (fun _ _ _ _ _ _ us hl => match us, hl with | [_, _], _ => rfl)⟩
    namesOf := ⟨_, fd5, fun_of F5, (He.glo_ok X hns (cd.fact 1 rfl)), F5.bindsN (fun _ _ _ _ _ _ us hl => match us, hl with | [_], _ => rfl)⟩
    isName := ⟨_, fd4, fun_of F4, (He.glo_ok X hns (cd.fact 0 rfl)), F4.bindsN (fun _ _ _ _ _ _ us hl => match us, hl with | [_], _ => rfl)⟩
    stepOf := ⟨_, fd10, fun_of F10, (He.glo_ok X hns (cd.fact 6 rfl)), F10.bindsN (fun _ _ _ _ _ _ us hl => match us, hl with | [_, _], _ => rfl)⟩
    whenOf := ⟨_, fd9, fun_of F9, (He.glo_ok X hns (cd.fact 5 rfl)), F9.bindsN (fun _ _ _ _ _ _ us hl => match us, hl with | [_, _], _ => rfl)⟩
    init := ⟨_, fd11, fun_of F11, He.meth_ok (cd.fact 79 rfl), F11.bindsN (fun _ _ _ _ _ _ us hl => match us, hl with | [_, _, _], _ => rfl)⟩
    mkR := (He.mkr_ok (cd.fact 78 rfl))
    needRule := ⟨_, fd15, fun_of F15, (He.glo_ok X hns (cd.fact 7 rfl)), F15.bindsN (fun _ _ _ _ _ _ us hl => match us, hl with | [_], _ => rfl)⟩
    stepLine := ⟨_, fd17, fun_of F17, (He.glo_ok X hns (cd.fact 9 rfl)), F17.bindsN (fun _ _ _ _ _ _ us hl => match us, hl with | [_], _ => rfl)⟩
    cls := cRule
    iC := (insB_ok (He.cls_ok (cd.fact 77 rfl)) e3)
    al := ⟨_, ⟨_, (He.glo_ok X hns (cd.fact 67 rfl)), rfl⟩, fun H => tupB_ok e5 H⟩
    ex := ⟨_, _, fd3, oexB_ok e0, (He.glo_ok X hns (cd.fact 50 rfl)), (He.meth_ok (cd.fact 75 rfl)).at_, of_decide_eq_true e2, fun_of F3, F3.bindsN (fun _ _ _ _ _ _ us hl => match us, hl with | [_, _], _ => rfl), He.noat_ok (cd.fact 76 rfl), xfB_ok e1⟩
    B := B }
  let D : LDefs K mg (He.ga K "Rule") := {
    start := ⟨_, fd31, fun_of F31, (He.glo_ok X hns (cd.fact 23 rfl)), F31.bindsN (fun _ _ _ _ _ _ us hl => match us, hl with | [_], _ => rfl)⟩
    below := ⟨_, fd32, fun_of F32, (He.glo_ok X hns (cd.fact 24 rfl)), F32.bindsN (fun _ _ _ _ _ _ us hl => match us, hl with | [_, _], _ => rfl)⟩
    chance := ⟨_, fd33, fun_of F33, (He.glo_ok X hns (cd.fact 25 rfl)), F33.bindsN (fun _ _ _ _ _ _ us hl => match us, hl with | [_, _], _ => rfl)⟩
    pick := ⟨_, fd34, fun_of F34, (He.glo_ok X hns (cd.fact 26 rfl)), F34.bindsN (fun _ _ _ _ _ _ us hl => match us, hl with | [_, _], _ => rfl)⟩
    mixed := ⟨_, fd35, fun_of F35, (He.glo_ok X hns (cd.fact 27 rfl)), F35.bindsN (fun _ _ _ _ _ _ us hl => match us, hl with | [_, _], _ => rfl)⟩
    lot := ⟨_, fd36, fun_of F36, (He.glo_ok X hns (cd.fact 28 rfl)), F36.bindsN (fun _ _ _ _ _ _ us hl => match us, hl with | [_, _, _], _ => rfl)⟩
    name := ⟨_, fd39, fun_of F39, (He.glo_ok X hns (cd.fact 31 rfl)), F39.bindsN (fun _ _ _ _ _ _ us hl => match us, hl with | [_], _ => rfl)⟩
    names := ⟨_, fd40, fun_of F40, (He.glo_ok X hns (cd.fact 32 rfl)), F40.bindsN (fun _ _ _ _ _ _ us hl => match us, hl with | [_, _], _ => rfl)⟩
    same := ⟨_, fd37, fun_of F37, (He.glo_ok X hns (cd.fact 29 rfl)), F37.bindsN (fun _ _ _ _ _ _ us hl => match us, hl with | [_, _], _ => rfl)⟩
    loose := ⟨_, fd38, fun_of F38, (He.glo_ok X hns (cd.fact 30 rfl)), F38.bindsN (fun _ _ _ _ _ _ us hl => match us, hl with | [_, _], _ => rfl)⟩
    nwhen := ⟨_, fd27, fun_of F27, (He.glo_ok X hns (cd.fact 19 rfl)), F27.bindsN (fun _ _ _ _ _ _ us hl => match us, hl with | [_, _, _], _ => rfl)⟩
    ndo := ⟨_, fd28, fun_of F28, (He.glo_ok X hns (cd.fact 20 rfl)), F28.bindsN (fun _ _ _ _ _ _ us hl => match us, hl with | [_, _], _ => rfl)⟩
    nrule := ⟨_, fd29, fun_of F29, (He.glo_ok X hns (cd.fact 21 rfl)), F29.bindsN (fun _ _ _ _ _ _ us hl => match us, hl with | [_], _ => rfl)⟩
    nmade := ⟨_, fd30, fun_of F30, (He.glo_ok X hns (cd.fact 22 rfl)), F30.bindsN (fun _ _ _ _ _ _ us hl => match us, hl with | [_, _], _ => rfl)⟩
    nwords := ⟨_, fd41, fun_of F41, (He.glo_ok X hns (cd.fact 33 rfl)), F41.bindsN (fun _ _ _ _ _ _ us hl => match us, hl with | [_], _ => rfl)⟩
    nsaid := ⟨_, fd42, fun_of F42, (He.glo_ok X hns (cd.fact 34 rfl)), F42.bindsN (fun _ _ _ _ _ _ us hl => match us, hl with | [_], _ => rfl)⟩
    nasc := ⟨_, fd43, fun_of F43, (He.glo_ok X hns (cd.fact 35 rfl)), F43.bindsN (fun _ _ _ _ _ _ us hl => match us, hl with | [_, _], _ => rfl)⟩
    nsplit := ⟨_, fd44, fun_of F44, (He.glo_ok X hns (cd.fact 36 rfl)), F44.bindsN (fun _ _ _ _ _ _ us hl => match us, hl with | [_, _], _ => rfl)⟩
    nwhenFits := ⟨_, fd45, fun_of F45, (He.glo_ok X hns (cd.fact 37 rfl)), F45.bindsN (fun _ _ _ _ _ _ us hl => match us, hl with | [_, _], _ => rfl)⟩
    nstepFits := ⟨_, fd46, fun_of F46, (He.glo_ok X hns (cd.fact 38 rfl)), F46.bindsN (fun _ _ _ _ _ _ us hl => match us, hl with | [_, _], _ => rfl)⟩
    nstepIn := ⟨_, fd47, fun_of F47, (He.glo_ok X hns (cd.fact 39 rfl)), F47.bindsN (fun _ _ _ _ _ _ us hl => match us, hl with | [_, _], _ => rfl)⟩
    nisRead := ⟨_, fd48, fun_of F48, (He.glo_ok X hns (cd.fact 40 rfl)), F48.bindsN (fun _ _ _ _ _ _ us hl => match us, hl with | [_], _ => rfl)⟩
    nnameFits := ⟨_, fd49, fun_of F49, (He.glo_ok X hns (cd.fact 41 rfl)), F49.bindsN (fun _ _ _ _ _ _ us hl => match us, hl with | [_], _ => rfl)⟩
    nfault := ⟨_, fd50, fun_of F50, (He.glo_ok X hns (cd.fact 42 rfl)), F50.bindsN (fun _ _ _ _ _ _ us hl => match us, hl with | [_], _ => rfl)⟩
    told := ⟨_, fd51, fun_of F51, (He.glo_ok X hns (cd.fact 43 rfl)), F51.bindsN (fun _ _ _ _ _ _ us hl => match us, hl with | [_], _ => rfl)⟩
    nbent := ⟨_, fd52, fun_of F52, (He.glo_ok X hns (cd.fact 44 rfl)), F52.bindsN (fun _ _ _ _ _ _ us hl => match us, hl with | [_, _], _ => rfl)⟩
    readRule := ⟨_, fd26, fun_of F26, (He.glo_ok X hns (cd.fact 18 rfl)), F26.bindsN (fun _ _ _ _ _ _ us hl => match us, hl with | [_], _ => rfl)⟩
    ruleText := ⟨_, fd18, fun_of F18, (He.glo_ok X hns (cd.fact 10 rfl)), F18.bindsN (fun _ _ _ _ _ _ us hl => match us, hl with | [_], _ => rfl)⟩
    pages := ⟨_, fd13, fun_of F13, He.meth_ok (cd.fact 81 rfl), F13.bindsN (fun _ _ _ _ _ _ us hl => match us, hl with | [_], _ => rfl)⟩
    steps := ⟨_, fd14, fun_of F14, He.meth_ok (cd.fact 82 rfl), F14.bindsN (fun _ _ _ _ _ _ us hl => match us, hl with | [_], _ => rfl)⟩
    eq := ⟨_, fd12, fun_of F12, He.meth_ok (cd.fact 80 rfl), F12.bindsN (fun _ _ _ _ _ _ us hl => match us, hl with | [_, _], _ => rfl)⟩
    R := DR
    tt := (of_decide_eq_true e4) }
  have e := hmg.symm.trans (He.glo_ok X hns (cd.fact 45 rfl))
  obtain rfl : fa = He.ga K "law" := by cases e; rfl
  obtain ⟨oc, od, dV, kV, doc, pm, an, cdv, ct, osl, efd, lk, hcd, hD, _⟩ := F53.ex
  have b := FunD.bindsA (ps := ["script"]) F53 (fun _ _ _ _ _ _ us hl => match us, hl with | [_], _ => rfl)
  obtain rfl : dV = .none := by
    rcases hD with ⟨_, e⟩ | ⟨e, _⟩
    · exact e
    · exact absurd rfl e
  obtain ⟨co, rfl⟩ := He.codeIn_ref hcd
  subst efd
  have eco : He.codeOf K ("law", none) = co := He.codeOf_eq lk rfl
  have mem : He.cT K ("law", none) ∈ [He.cT K ("law", none)] := List.mem_singleton.mpr rfl
  have mem2 : (("law", none) : He.Defn) ∈ Hd.tf := List.mem_singleton.mpr rfl
  refine ⟨K, X, _, [He.cT K ("law", none)], spLaw (K := K) (He.cT K ("law", none)).2, ?_, ?_, ?_, fun s v => b s [v] rfl, ?_, ?_⟩
  · intro p hp; rw [List.mem_singleton.mp hp]; exact c.empty _ mem2
  · intro p hp; rw [List.mem_singleton.mp hp]; exact c.out _ mem2
  · intro p hp; rw [List.mem_singleton.mp hp]; exact PySem.W.codeHd_of_K X (c.hd _ mem2)
  · intro H a ns hl _ hT hS
    exact ⟨a, ns, rfl, hS, by omega, hT _ mem, fun _ => rfl⟩
  · intro base _ _ TB
    have TB1 := TB _ mem
    have e1 : (He.cT K ("law", none)).1 = co := eco
    rw [e1] at TB1
    exact ok_law lk hcd D TB1
end Lr
open PySem PySem.W
      PySem.Calls PyProof.Rows
theorem PySem.Challenge.cw_leastredo_k81_whole_rule_texts_holds : PySem.Challenge.rw_leastredo_k81_whole_rule_texts.Holds := by
  w_on; o_law
  refine HandSHeadRun.head_any (r := OpenLaw.row PySem.Challenge.rw_leastredo_k81_whole_rule_texts) (q := view (OpenLaw.row PySem.Challenge.rw_leastredo_k81_whole_rule_texts).prog [60]) (H := Lr.Hd.hk) (ob := Lr.Hd.ob) (M := 6000) (loose := Lr.Hd.loose) (d := HandSHeadRun.topDef (OpenLaw.row PySem.Challenge.rw_leastredo_k81_whole_rule_texts).prog 60) (kwd := []) Lr.Hd.ob_eq
    (by kernel_rfl) (fun s => by kernel_rfl) Lr.Hd.run (by kernel_rfl) (by kernel_rfl) (by kernel_rfl) (by rfl) (by first | assumption | decide +kernel) (by decide +kernel) ⟨rfl, rfl, rfl, rfl, rfl, by decide +kernel⟩ ?hw ?hc
  case hw => w_witness2
  case hc =>
    refine LamX.walk_ofTsE (l := PySem.Challenge.rw_leastredo_k81_whole_rule_texts) (n := 63) (k := 12) (x := "script") (CX := fun _ => L2.CX0) rfl (by decide) (by kernel_rfl) ⟨rfl, by decide, by decide⟩ ?F (fun _ _ _ _ _ z => z)
    intro w mg fa h Y hns hmg0
    have hmg : mg ("law" : PySem.Str)
          = some (.ref fa) := by
      have e : (HandSHeadRun.topDef (OpenLaw.row PySem.Challenge.rw_leastredo_k81_whole_rule_texts).prog 60).name = ("law" : PySem.Str) := by kernel_rfl
      rw [← e]
      exact hmg0
    exact Lr.law_at w mg fa h Y hns hmg
