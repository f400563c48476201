import PyProof.Rows.All
import Wide.All
import OpenK.AllK
import Wide.FinOn
import HandS.ForMost
import HandS.ForExc
import HandS.Walk
import HandS.IsInst
import HandS.DictComp
import HandS.Deep
import HandS.Lambda
import HandS.ExcInit
import HandS.ExcField
import HandS.TryMany
import HandS.Conv
import HandS.NoneIn
import HandS.Zip
import HandS.RaiseMore
import HandS.CallSlots
import HandS.Flow
import HandS.Defaults
import KE.KEqSeq
import KE.GoesEnumKw
import PyProof.Rows.CallKw2
import KE.DataFind
import HandS.Codes
import HandS.TryOnly
import PyProof.ListStr
import HandS.Head0
import HandS.Head1
import HandS.Head2
import HandS.HeadEnd
import HandS.HeadHook1
import HandS.HeadHook2
import HandS.HeadHook3
import HandS.HeadHook4
import HandS.EndTab
import HandS.HeadWalk
import HandS.NestedK
import PySem.Challenge.RW_leastredo_k78_whole_rows_as_texts
set_option Elab.async false
set_option linter.all false
set_option maxRecDepth 100000
set_option maxHeartbeats 4000000
/-! Lb: what all laws of this log share: heaps kept but for the stream, data trees over the heap, a def's facts in one bundle. -/
namespace Lr
open PySem PySem.Spec
      PyProof.Rows L2

/-- what was tracked outside S is as it was; what was tracked is -/
structure Keep (S : List Addr) (H H' : Hp) : Prop where
  at_ : ∀ q o, q ∉ S → H q = some o → H' q = some o
  tr : ∀ q o, H q = some o → ∃ o', H' q = some o'
instance {S : List Addr} {H H' : Hp} : CoeFun (Keep S H H') (fun _ => ∀ q o, q ∉ S → H q = some o → H' q = some o) := ⟨Keep.at_⟩
theorem Keep.refl (S : List Addr) (H : Hp) : Keep S H H := ⟨fun _ _ _ h => h, fun _ o h => ⟨o, h⟩⟩
theorem Keep.trans {S : List Addr} {H H1 H2 : Hp} (a : Keep S H H1) (b : Keep S H1 H2) : Keep S H H2 :=
  ⟨fun q o n h => b q o n (a q o n h), fun q o h => let ⟨o1, h1⟩ := a.tr q o h; b.tr q o1 h1⟩
theorem tr_upd {H1 : Hp} {p : Addr} {o : HO} {q : Addr} (h : ∃ o', H1 q = some o') : ∃ o', upd H1 p o q = some o' := by
  by_cases e : q = p
  · subst e; exact ⟨o, upd_same⟩
  · obtain ⟨o', z⟩ := h
    exact ⟨o', by rw [upd_ne e]; exact z⟩
theorem Keep.new {S : List Addr} {H H1 : Hp} {p : Addr} {o : HO} (k : Keep S H H1) (h : H1 p = none) : Keep S H (upd H1 p o) := ⟨fun q u n e => by
  have z := k q u n e
  rw [upd_ne (ne_of_none z h)]
  exact z, fun q u e => tr_upd (k.tr q u e)⟩
theorem Keep.new' {S : List Addr} {H H1 : Hp} {p : Addr} {o : HO} (k : Keep S H H1) (h : H p = none) : Keep S H (upd H1 p o) := ⟨fun q u n e => by
  rw [upd_ne (ne_of_none e h)]
  exact k q u n e, fun q u e => tr_upd (k.tr q u e)⟩
theorem Keep.put {S : List Addr} {H H1 : Hp} {p : Addr} {o : HO} (k : Keep S H H1) (h : p ∈ S) : Keep S H (upd H1 p o) := ⟨fun q u n e => by
  rw [upd_ne (show q ≠ p from fun z => n (by rw [z]; exact h))]
  exact k q u n e, fun q u e => tr_upd (k.tr q u e)⟩
theorem Keep.free {S : List Addr} {H H1 : Hp} {p : Addr} (k : Keep S H H1) (h : H1 p = none) : H p = none := by
  cases e : H p with
  | none => rfl
  | some o =>
    obtain ⟨o', z⟩ := k.tr p o e
    rw [z] at h; cases h
theorem Keep.of_cons {S : List Addr} {H H1 : Hp} {p : Addr} (k : Keep (p :: S) H H1) (h : H p = none) : Keep S H H1 := ⟨fun q u n e => k q u (fun z => by
  rcases List.mem_cons.mp
        z with z | z
  · rw [z, h] at e; cases e
  · exact n z) e, k.tr⟩
theorem Keep.mono {S T : List Addr} {H H1 : Hp} (k : Keep S H H1) (h : ∀ x ∈ S, x ∈ T) : Keep T H H1 := ⟨fun q u n e => k q u (fun z => n (h q z)) e, k.tr⟩
theorem Keep.of_same {S : List Addr} {H H1 : Hp} (k : Same H H1) : Keep S H H1 := ⟨fun q u _ e => k q u e, fun q u e => ⟨u, k q u e⟩⟩
theorem Keep.same {H H1 : Hp} (k : Keep [] H H1) : Same H H1 := fun q u e => k q u (by simp) e

/-! ### data over the heap, none of it in S -/
mutual
def Dt (S : List Addr) (H : Hp) : PyData → V → Prop
  | .none, v => v = .non
  | .bool b, v => v = .bl b
  | .int i, v => v = .int i
  | .str x, v => v = .str x
  | .list ds, v => ∃ a xs, v = .ref a ∧ a ∉ S ∧ H a = some (.lst xs) ∧ DtAll S H ds xs
  | .tuple ds, v => ∃ a xs, v = .ref a ∧ a ∉ S ∧ H a = some (.tup xs) ∧ DtAll S H ds xs
  | .dict _, _ => False
def DtAll (S : List Addr) (H : Hp) : List PyData → List V → Prop
  | [], xs => xs = []
  | d :: ds, xs => ∃ x r, xs = x :: r ∧ Dt S H d x ∧ DtAll S H ds r
end
section
variable {S : List Addr} {H H' : Hp}
mutual
theorem Dt.keep (k : Keep S H H') : ∀ (d : PyData) (v : V), Dt S H d v → Dt S H' d v
  | .none, _, h => by unfold Dt at *; exact h
  | .bool b, _, h => by unfold Dt at *; exact h
  | .int i, _, h => by unfold Dt at *; exact h
  | .str x, _, h => by unfold Dt at *; exact h
  | .list ds, _, h => by
    unfold Dt at *
    obtain ⟨a, xs, e, n, q, z⟩ := h
    exact ⟨a, xs, e, n, k a _ n q, DtAll.keep k ds xs z⟩
  | .tuple ds, _, h => by
    unfold Dt at *
    obtain ⟨a, xs, e, n, q, z⟩ := h
    exact ⟨a, xs, e, n, k a _ n q, DtAll.keep k ds xs z⟩
  | .dict _, _, h => by unfold Dt at h; exact h.elim
theorem DtAll.keep (k : Keep S H H') : ∀ (ds : List PyData) (xs : List V), DtAll S H ds xs → DtAll S H' ds xs
  | [], _, h => by unfold DtAll at *; exact h
  | d :: ds, _, h => by
    unfold DtAll at *
    obtain ⟨x, r, e, h1, h2⟩ := h
    exact ⟨x, r, e, Dt.keep k d x h1, DtAll.keep k ds r h2⟩
end
mutual
theorem Dt.dp {K : PySem.W.Frag} : ∀ (d : PyData) (v : V), Dt S H d v → Dp K H v d
  | .none, _, h => by unfold Dt at h; subst h; exact .non
  | .bool b, _, h => by unfold Dt at h; subst h; exact .bl b
  | .int i, _, h => by unfold Dt at h; subst h; exact .int i
  | .str x, _, h => by unfold Dt at h; subst h; exact .str x
  | .list ds, _, h => by
    unfold Dt at h
    obtain ⟨a, xs, rfl, n, q, z⟩ := h
    exact .lst (SqL.of q) (DtAll.dp ds xs z)
  | .tuple ds, _, h => by
    unfold Dt at h
    obtain ⟨a, xs, rfl, n, q, z⟩ := h
    exact .tup (SqT.of q) (DtAll.dp ds xs z)
  | .dict _, _, h => by unfold Dt at h; exact h.elim
theorem DtAll.dp {K : PySem.W.Frag} : ∀ (ds : List PyData) (xs : List V), DtAll S H ds xs → DpAll K H xs ds
  | [], _, h => by unfold DtAll at h; subst h; exact .nil
  | d :: ds, _, h => by
    unfold DtAll at h
    obtain ⟨x, r, rfl, h1, h2⟩ := h
    exact .cons (Dt.dp d x h1) (DtAll.dp ds r h2)
end
theorem DtAll.length : ∀ {ds : List PyData} {xs : List V}, DtAll S H ds xs → xs.length = ds.length
  | [], _, h => by unfold DtAll at h; subst h; rfl
  | d :: ds, _, h => by
    unfold DtAll at h
    obtain ⟨x, r, rfl, _, h2⟩ := h
    simp [DtAll.length h2]
theorem DtAll.get : ∀ {ds : List PyData} {xs : List V}, DtAll S H ds xs → ∀ {i : Nat} {d : PyData}, ds[i]? = some d → ∃ x, xs[i]? = some x ∧ Dt S H d x
  | [], _, _, i, d, e => by simp at e
  | d :: ds, _, h, 0, d', e => by
    unfold DtAll at h
    obtain ⟨x, r, rfl, h1, _⟩ := h
    simp at e; subst e
    exact ⟨x, rfl, h1⟩
  | d :: ds, _, h, i + 1, d', e => by
    unfold DtAll at h
    obtain ⟨x, r, rfl, _, h2⟩ := h
    obtain ⟨y, q, z⟩ := DtAll.get h2 (i := i) (d := d') (by simpa using e)
    exact ⟨y, by simpa using q, z⟩
theorem DtAll.get' : ∀ {ds : List PyData} {xs : List V}, DtAll S H ds xs → ∀ {i : Nat} {x : V}, xs[i]? = some x → ∃ d, ds[i]? = some d ∧ Dt S H d x := by
  intro ds xs h i x e
  have hi := (List.getElem?_eq_some_iff.mp e).1
  have hl := h.length
  obtain ⟨y, q, z⟩ := h.get (i := i) (d := ds[i]'(by omega)) (by simp)
  rw [e] at q; cases q
  exact ⟨_, by simp, z⟩
theorem DtAll.append : ∀ {ds es : List PyData} {xs ys : List V}, DtAll S H ds xs → DtAll S H es ys → DtAll S H (ds ++ es) (xs ++ ys)
  | [], es, xs, ys, h, h' => by unfold DtAll at h; subst h; simpa using h'
  | d :: ds, es, _, ys, h, h' => by
    unfold DtAll at h
    obtain ⟨x, r, rfl, h1, h2⟩ := h
    show DtAll S H (d :: (ds ++ es)) _
    unfold DtAll
    exact ⟨x, r ++ ys, rfl, h1, DtAll.append h2 h'⟩
theorem DtAll.one {d : PyData} {x : V} (h : Dt S H d x) : DtAll S H [d] [x] := by
  unfold DtAll; exact ⟨x, [], rfl, h, by unfold DtAll; rfl⟩
theorem DtAll.nil : DtAll S H [] [] := by unfold DtAll; rfl
theorem DtAll.cons {d : PyData} {x : V} {ds : List PyData} {xs : List V} (h : Dt S H d x) (t : DtAll S H ds xs) : DtAll S H (d :: ds) (x :: xs) := by
  unfold DtAll; exact ⟨x, xs, rfl, h, t⟩
/-- texts, ints -/
theorem DtAll.strs : ∀ (l : List Str), DtAll S H (l.map PyData.str) (l.map V.str)
  | [] => DtAll.nil
  | x :: r => DtAll.cons (by unfold Dt; rfl) (DtAll.strs r)
theorem DtAll.ints : ∀ (l : List Int), DtAll S H (l.map PyData.int) (l.map V.int)
  | [] => DtAll.nil
  | x :: r => DtAll.cons (by unfold Dt; rfl) (DtAll.ints r)
theorem DtAll.of_strs : ∀ {l : List Str} {xs : List V}, DtAll S H (l.map PyData.str) xs → xs = l.map V.str
  | [], _, h => by unfold DtAll at h; exact h
  | x :: r, _, h => by
    unfold DtAll at h
    obtain ⟨y, t, rfl, h1, h2⟩ := h
    unfold Dt at h1
    rw [h1, DtAll.of_strs h2]; rfl
end

/-- all of S is tracked: nothing new is in it -/
def Trk (S : List Addr) (H : Hp) : Prop := ∀ s ∈ S, ∃ o, H s = some o
theorem Trk.nm {S : List Addr} {H : Hp} {p : Addr} (t : Trk S H) (h : H p = none) : p ∉ S := fun z => by
  obtain ⟨o, e⟩ := t p z
  rw [h] at e; cases e
theorem Trk.same {S : List Addr} {H H' : Hp} (t : Trk S H) (k : Same H H') : Trk S H' := fun s hs => let ⟨o, e⟩ := t s hs; ⟨o, k _ _ e⟩
theorem _root_.L2.Same.new {H H1 : Hp} {p : Addr} {o : HO} (k : Same H H1) (h : H1 p = none) : Same H (upd H1 p o) := fun q u e => by
  rw [upd_ne (ne_of_none (k _ _ e) h)]; exact k _ _ e
theorem _root_.L2.Same.put {H H1 : Hp} {p : Addr} {o : HO} (k : Same H H1) (h : H p = none) : Same H (upd H1 p o) := fun q u e => by
  rw [upd_ne (ne_of_none e h)]; exact k _ _ e
/-- data made anew since H -/
def New (H H' : Hp) (d : PyData) (v : V) : Prop := ∀ S, Trk S H → Dt S H' d v
theorem New.same {H H' H2 : Hp} {d : PyData} {v : V} (n : New H H' d v) (k : Same H' H2) : New H H2 d v := fun S t => Dt.keep (Keep.of_same k) _ _ (n S t)
theorem New.flat {H H' : Hp} {x : Str} : New H H' (.str x) (.str x) := fun S t => by unfold Dt; rfl
theorem DtAll.cons_iff {S : List Addr} {H : Hp} {d : PyData} {ds : List PyData} {xs : List V} : DtAll S H (d :: ds) xs ↔ ∃ x r, xs = x :: r ∧ Dt S H d x ∧ DtAll S H ds r := by
  constructor
  · intro h; unfold DtAll at h; exact h
  · intro h; unfold DtAll; exact h
theorem DtAll.nil_iff {S : List Addr} {H : Hp} {xs : List V} : DtAll S H [] xs ↔ xs = [] := by
  constructor
  · intro h; unfold DtAll at h; exact h
  · intro h; unfold DtAll; exact h
/-- a datum none of whose parts is in T, as these are not tracked -/
theorem Dt.avoid {S T : List Addr} {H : Hp} (hT : ∀ t ∈ T, H t = none) : ∀ (d : PyData) (v : V), Dt S H d v → Dt (T ++ S) H d v := by
  have key : ∀ (n : Nat) (d : PyData), sizeOf d ≤ n → (∀ v, Dt S H d v → Dt (T ++ S) H d v) := by
    intro n
    induction n with
    | zero => intro d hd; cases d <;> simp at hd
    | succ n ih =>
      have all : ∀ (ds : List PyData), sizeOf ds ≤ n → ∀ xs, DtAll S H ds xs → DtAll (T ++ S) H ds xs := by
        intro ds
        induction ds with
        | nil => intro _ xs h; rw [DtAll.nil_iff] at h ⊢; exact h
        | cons d ds ihd =>
          intro hs xs h
          simp at hs
          rw [DtAll.cons_iff] at h ⊢
          obtain ⟨x, r, e, h1, h2⟩ := h
          exact ⟨x, r, e, ih d (by omega) x h1, ihd (by omega) r h2⟩
      intro d hd v h
      have nin : ∀ a o, a ∉ S → H a = some o → a ∉ T ++ S := fun a o n e z => by
        rcases List.mem_append.mp z with z | z
        · rw [hT a z] at e; cases e
        · exact n z
      cases d with
      | list ds =>
        unfold Dt at *
        obtain ⟨a, xs, e, n, q, z⟩ := h
        exact ⟨a, xs, e, nin a _ n q, q, all ds (by simp at hd; omega) xs z⟩
      | tuple ds =>
        unfold Dt at *
        obtain ⟨a, xs, e, n, q, z⟩ := h
        exact ⟨a, xs, e, nin a _ n q, q, all ds (by simp at hd; omega) xs z⟩
      | _ => unfold Dt at *; exact h
  exact fun d v h => key _ d (Nat.le_refl _) v h

theorem Trk.keep {S T : List Addr} {H H' : Hp} (t : Trk S H) (k : Keep T H H') : Trk S H' := fun s hs => let ⟨o, e⟩ := t s hs; k.tr s o e
mutual
theorem Dt.mono {S T : List Addr} {H : Hp} (h : ∀ x ∈ S, x ∈ T) : ∀ (d : PyData) (v : V), Dt T H d v → Dt S H d v
  | .none, _, z => by unfold Dt at *; exact z
  | .bool b, _, z => by unfold Dt at *; exact z
  | .int i, _, z => by unfold Dt at *; exact z
  | .str x, _, z => by unfold Dt at *; exact z
  | .list ds, _, z => by
    unfold Dt at *
    obtain ⟨a, xs, e, n, q, r⟩ := z
    exact ⟨a, xs, e, fun m => n (h a m), q, DtAll.mono h ds xs r⟩
  | .tuple ds, _, z => by
    unfold Dt at *
    obtain ⟨a, xs, e, n, q, r⟩ := z
    exact ⟨a, xs, e, fun m => n (h a m), q, DtAll.mono h ds xs r⟩
  | .dict _, _, z => by unfold Dt at z; exact z.elim
theorem DtAll.mono {S T : List Addr} {H : Hp} (h : ∀ x ∈ S, x ∈ T) : ∀ (ds : List PyData) (xs : List V), DtAll T H ds xs → DtAll S H ds xs
  | [], _, z => by unfold DtAll at *; exact z
  | d :: ds, _, z => by
    unfold DtAll at *
    obtain ⟨x, r, e, h1, h2⟩ := z
    exact ⟨x, r, e, Dt.mono h d x h1, DtAll.mono h ds r h2⟩
end
/-- data made anew since H, where M may have changed -/
def NewM (M : List Addr) (H H' : Hp) (d : PyData) (v : V) : Prop := ∀ S, Trk S H → (∀ m ∈ M, m ∈ S) → Dt S H' d v
theorem New.toM {M : List Addr} {H H' : Hp} {d : PyData} {v : V} (n : New H H' d v) : NewM M H H' d v := fun S t _ => n S t
theorem NewM.toN {H H' : Hp} {d : PyData} {v : V} (n : NewM [] H H' d v) : New H H' d v := fun S t => n S t (fun _ h => nomatch h)
theorem NewM.keep {M : List Addr} {H H' H2 : Hp} {d : PyData} {v : V} (n : NewM M H H' d v) (k : Keep M H' H2) : NewM M H H2 d v := fun S t h => Dt.keep (k.mono h) _ _ (n S t h)
theorem NewM.pre {M : List Addr} {H0 H H' : Hp} {d : PyData} {v : V} (n : NewM M H H' d v) (k : Keep M H0 H) : NewM M H0 H' d v := fun S t h => n S (t.keep k) h
/-- a list at D that a loop fills with data made anew -/
structure Acc (M : List Addr) (H0 H' : Hp) (D : Addr) (ds : List PyData) : Prop where
  ex : ∃ acc, H' D = some (.lst acc) ∧ acc.length = ds.length ∧ ∀ S, Trk S H0 → (∀ m ∈ M, m ∈ S) → DtAll (D :: S) H' ds acc
  kp : Keep M H0 H'
  fr : H0 D = none
theorem Acc.start {M : List Addr} {H0 H1 : Hp} {D : Addr} (k : Keep M H0 H1) (h : H1 D = none) : Acc M H0 (upd H1 D (.lst [])) D [] :=
  ⟨⟨[], upd_same, rfl, fun S _ _ => DtAll.nil⟩, k.new h, k.free h⟩
theorem Acc.step {M : List Addr} {H0 H' H2 : Hp} {D : Addr} {ds : List PyData} {acc : List V} {d : PyData} {v : V} (a : Acc M H0 H' D ds) (tM : Trk M H0) (e : H' D = some (.lst acc)) (n : NewM M H' H2 d v) (k : Keep M H' H2) :
    H2 D = some (.lst acc) ∧ Acc M H0 (upd H2 D (.lst (acc ++ [v]))) D (ds ++ [d]) := by
  obtain ⟨acc', e', l, z⟩ := a.ex
  rw [e] at e'; cases e'
  have nDM : D ∉ M := tM.nm a.fr
  refine ⟨k _ _ nDM e, ⟨⟨acc ++ [v], upd_same, by simp [l], fun S t h => ?_⟩, (a.kp.trans k).new' a.fr, a.fr⟩⟩
  have nD : D ∉ S := t.nm a.fr
  have tS : Trk (D :: S) H' := fun s hs => by
    rcases List.mem_cons.mp
          hs with rfl | hs
    · exact ⟨_, e⟩
    · exact (t.keep a.kp) s hs
  have kM : Keep (D :: S) H' (upd H2 D (.lst (acc ++ [v]))) := (k.mono (fun m hm => List.mem_cons_of_mem _ (h m hm))).put (by simp)
  refine DtAll.append (DtAll.keep kM _ _ (z S t h)) (DtAll.one ?_)
  exact Dt.keep ((Keep.refl (D :: S) H2).put (by simp)) _ _ (n (D :: S) tS (fun m hm => List.mem_cons_of_mem _ (h m hm)))
theorem Acc.skip {M : List Addr} {H0 H' H2 : Hp} {D : Addr} {ds : List PyData} (a : Acc M H0 H' D ds) (tM : Trk M H0) (k : Keep M H' H2) : Acc M H0 H2 D ds := by
  obtain ⟨acc, e, l, z⟩ := a.ex
  have nDM : D ∉ M := tM.nm a.fr
  exact ⟨⟨acc, k _ _ nDM e, l, fun S t h => DtAll.keep (k.mono (fun m hm => List.mem_cons_of_mem _ (h m hm))) _ _ (z S t h)⟩, a.kp.trans k, a.fr⟩
theorem Acc.done {M : List Addr} {H0 H' : Hp} {D : Addr} {ds : List PyData} (a : Acc M H0 H' D ds) : NewM M H0 H' (.list ds) (.ref D) := fun S t h => by
  obtain ⟨acc, e, l, z⟩ := a.ex
  unfold Dt
  exact ⟨D, acc, rfl, t.nm a.fr, e, DtAll.mono (fun x hx => List.mem_cons_of_mem _ hx) _ _ (z S t h)⟩
/-- what is made anew: a tuple of data made anew -/
theorem NewM.tup {M : List Addr} {H0 H1 : Hp} {p : Addr} {ds : List PyData} {xs : List V} (k : Keep M H0 H1) (h : H1 p = none) (z : ∀ S, Trk S H0 → (∀ m ∈ M, m ∈ S) → DtAll S H1 ds xs) : NewM M H0 (upd H1 p (.tup xs)) (.tuple ds) (.ref p) := fun S t hm => by
  unfold Dt
  exact ⟨p, xs, rfl, t.nm (k.free h), upd_same, DtAll.keep ((Keep.refl S H1).new h) _ _ (z S t hm)⟩
theorem NewM.lst {M : List Addr} {H0 H1 : Hp} {p : Addr} {ds : List PyData} {xs : List V} (k : Keep M H0 H1) (h : H1 p = none) (z : ∀ S, Trk S H0 → (∀ m ∈ M, m ∈ S) → DtAll S H1 ds xs) : NewM M H0 (upd H1 p (.lst xs)) (.list ds) (.ref p) := fun S t hm => by
  unfold Dt
  exact ⟨p, xs, rfl, t.nm (k.free h), upd_same, DtAll.keep ((Keep.refl S H1).new h) _ _ (z S t hm)⟩

/-! ### a def of the module, in one bundle -/
structure Fd (K : PySem.W.Frag) (mg : Str → Option Value) (x : Str) (st : Stmt) (ps : List Str) where
  f : Addr
  fd : FuncData
  F : Fun K x x st f fd
  g : mg x = some (.ref f)
  b : Binds K fd ps []

/-- what a module's name holds -/
def GV (mg : Str → Option Value) (x : Str) (v : V) : Prop := ∃ u, mg x = some u ∧ RelV v u
/-- the built-ins' names stand as they were -/
structure Blt (mg : Str → Option Value) : Prop where
  len : mg "len" = none
  list : mg "list" = none
  tuple : mg "tuple" = none
  dict : mg "dict" = none
  int : mg "int" = none
  str : mg "str" = none
  bool : mg "bool" = none
  range : mg "range" = none
  enumerate : mg "enumerate" = none
  zip : mg "zip" = none
  sorted : mg "sorted" = none
  all : mg "all" = none
  isinstance : mg "isinstance" = none
  gLETTERS : GV mg "LETTERS" (.str ("abcdefghijklmnopqrstuvwxyz" : Str))
  gFIGURES : GV mg "FIGURES" (.str ("0123456789" : Str))

/-! ### the stream of draws: a list at a that holds the cells' list at b, and three ints; n bounds how many were drawn -/
structure StreamAt (a b : Addr) (n : Nat) (H : Hp) : Prop where
  ne : a ≠ b
  ex : ∃ (cells : List Int) (x c m : Int), H a = some (.lst [.ref b, .int x, .int c, .int m]) ∧ H b = some (.lst (cells.map V.int)) ∧ 0 ≤ x ∧ 0 ≤ c ∧ c ≤ n ∧ 0 ≤ m ∧ m < 2147483647 ∧ cells.length ≤ 1000
theorem StreamAt.mono {a b : Addr} {n m : Nat} {H : Hp} (s : StreamAt a b n H) (h : n ≤ m) : StreamAt a b m H := by
  obtain ⟨ne, cells, x, c, k, h1, h2, h3, h4, h5, h6⟩ := s
  exact ⟨ne, cells, x, c, k, h1, h2, h3, h4, by omega, h6⟩
theorem StreamAt.new {a b : Addr} {n : Nat} {H : Hp} {p : Addr} {o : HO} (s : StreamAt a b n H) (h : H p = none) : StreamAt a b n (upd H p o) := by
  obtain ⟨ne, cells, x, c, k, h1, h2, r⟩ := s
  exact ⟨ne, cells, x, c, k, by rw [upd_ne (ne_of_none h1 h)]; exact h1, by rw [upd_ne (ne_of_none h2 h)]; exact h2, r⟩
theorem StreamAt.put {a b : Addr} {n : Nat} {H : Hp} {p : Addr} {o : HO} (s : StreamAt a b n H) (ha : p ≠ a) (hb : p ≠ b) : StreamAt a b n (upd H p o) := by
  obtain ⟨ne, cells, x, c, k, h1, h2, r⟩ := s
  exact ⟨ne, cells, x, c, k, by rw [upd_ne ha.symm]; exact h1, by rw [upd_ne hb.symm]; exact h2, r⟩
theorem StreamAt.na {a b : Addr} {n : Nat} {H : Hp} {p : Addr} (s : StreamAt a b n H) (h : H p = none) : p ≠ a ∧ p ≠ b := by
  obtain ⟨ne, cells, x, c, k, h1, h2, r⟩ := s
  exact ⟨(ne_of_none h1 h).symm, (ne_of_none h2 h).symm⟩
theorem StreamAt.nm {a b : Addr} {n : Nat} {H : Hp} {p : Addr} (s : StreamAt a b n H) (h : H p = none) : p ∉ [a, b] := by
  have := s.na h
  simp [this.1, this.2]
end Lr
set_option Elab.async false
set_option linter.all false
set_option maxRecDepth 100000
set_option maxHeartbeats 4000000
/-! Vr: the layer's rules with the written part named: so their readings can stand within a comprehension's block, too. -/
namespace Lr
open PySem PySem.Spec
      PyProof.Rows L2
section
variable {X : Cx} (K : PySem.W.Frag)
theorem x_list (hK : X.K = K := by rfl) : IxR X (rIxL K) := by subst hK; exact ix_list
theorem x_seq (hK : X.K = K := by rfl) : IxR X (rIx K) := by subst hK; exact ix_seq
theorem x_tup (hK : X.K = K := by rfl) : IxR X (rIxT K) := by subst hK; exact ix_tup
theorem o_eqD (hu : X.A.units + 64 < cLine) (hK : X.K = K := by rfl) : OpR X (compareOp .Eq) (rEqD K) := by subst hK; exact op_eqD hu
theorem o_neD (hu : X.A.units + 64 < cLine) (hK : X.K = K := by rfl) : OpR X (compareOp .NotEq) (rNeD K) := by subst hK; exact op_neD hu
theorem o_in (hK : X.K = K := by rfl) : OpR X (compareOp .In) (rIn K false) := by subst hK; exact op_in_seq
theorem o_notIn (hK : X.K = K := by rfl) : OpR X (compareOp .NotIn) (rIn K true) := by subst hK; exact op_notIn_seq
theorem o_catT (hK : X.K = K := by rfl) : OpR X (binaryOp .Add) (rCatT K) := by subst hK; exact op_catT
theorem s_list (hK : X.K = K := by rfl) : SlR X (rSlL K) := by subst hK; exact sl_list
theorem s_tup (hK : X.K = K := by rfl) : SlR X (rSlT K) := by subst hK; exact sl_tup
def rLen (K : PySem.W.Frag) : List V → Hp → VK → Prop := fun xs H Q => ∃ p ys, xs = [V.ref p] ∧ (SqL K H p ys ∨ SqT K H p ys) ∧ Q (.int ys.length) H
theorem c_len (hK : X.K = K := by rfl) : CallR X (.builtin "len") (rLen K) := by subst hK; exact call_len_seq
def rLenS : List V → Hp → VK → Prop := fun xs H Q => ∃ z,
      xs = [.str z] ∧ z.length ≤ sizeLine ∧ Q (.int z.length) H
theorem c_lenS : CallR X (.builtin "len") rLenS := call_len_str
def rList (K : PySem.W.Frag) : List V → Hp → VK → Prop := fun xs H Q => ∃ p ys, xs = [.ref p] ∧ (SqL K H p ys ∨ SqT K H p ys) ∧ ∀ l, H l = none → Q (.ref l) (upd H l (.lst ys))
theorem c_list (hK : X.K = K := by rfl) : CallR X (.type "list") (rList K) := by subst hK; exact call_list_of
def rTuple (K : PySem.W.Frag) : List V → Hp → VK → Prop := fun xs H Q => ∃ p ys, xs = [.ref p] ∧ ((SqL K H p ys ∧ ∀ l, H l = none → Q (.ref l) (upd H l (.tup ys))) ∨ (SqT K H p ys ∧ Q (.ref p) H))
theorem c_tuple (hK : X.K = K := by rfl) : CallR X (.type "tuple") (rTuple K) := by subst hK; exact call_tuple_of
def rInt1 : List V → Hp → VK → Prop := fun xs H Q => (∃ i, xs = [.int i] ∧ Q (.int i) H) ∨ ∃ k, xs = [.bl k] ∧ Q (.int (if k then 1 else 0)) H
theorem c_int1 : CallR X (.type "int") rInt1 := call_int1
def rIntS : List V → Hp → VK → Prop := fun xs H Q => ∃ a n, xs = [.str a] ∧ PySem.intText? a = some n ∧ a.length ≤ 640 ∧ Q (.int n) H
theorem c_intS : CallR X (.type "int") rIntS := call_int_str
def rStrI : List V → Hp → VK → Prop := fun xs H Q => ∃ i : Int, xs = [.int i] ∧ i.natAbs.log2 < 1920 ∧ Q (.str (toString i)) H
theorem c_strI : CallR X (.type "str") rStrI := call_str_int
theorem c_sortS (hK : X.K = K := by rfl) : CallR X (.builtin "sorted") (rSortedS K) := by subst hK; exact cr_sortedS
theorem c_all (hc : X.calm = true) (hK : X.K = K := by rfl) : CallR X (.builtin "all") (rAll K) := by subst hK; exact cr_all hc
theorem c_any (hc : X.calm = true) (hK : X.K = K := by rfl) : CallR X (.builtin "any") (rAny K) := by subst hK; exact cr_any hc
def rDictP (K : PySem.W.Frag) : List V → Hp → VK → Prop := fun xs H Q => ∃ (a : Addr) (ps : List Addr) (kvs : List (Key × V)), xs = [.ref a] ∧ SqL K H a (ps.map V.ref) ∧ Paired (fun p kv => SqT K H p [kV kv.1, kv.2]) ps kvs ∧ ∀ p, H p = none → Q (.ref p) (upd H p (.dK (mergeK [] kvs)))
theorem c_dictP (hc : X.calm = true) (hK : X.K = K := by rfl) : CallR X (.type "dict") (rDictP K) := by subst hK; exact call_dictP hc
theorem c_isi (hK : X.K = K := by rfl) : CallR X (.builtin "isinstance") (rIsi K) := by subst hK; exact call_isi
theorem c_isiT (hK : X.K = K := by rfl) : CallR X (.builtin "isinstance") (rIsiT K) := by subst hK; exact call_isiT
def rAddS : R2 := fun x y H Q => ∃ i j, x = .str i ∧ y = .str j ∧ i.length + j.length ≤ sizeLine ∧ Q (.str (i ++ j)) H
theorem o_addS : OpR X (binaryOp .Add) rAddS := op_add_str
def rLtS : R2 := fun x y H Q => ∃ i j, x = .str i ∧ y = .str j ∧ Q (.bl (decide (i.cps.toList < j.cps.toList))) H
theorem o_ltS : OpR X (compareOp .Lt) rLtS := op_lt_str
def rInSign : R2 := fun x y H Q => ∃ (c : Nat) (z : Str), x = .str ⟨#[c]⟩ ∧ y = .str z ∧ Q (.bl (decide (c ∈ z.cps.toList))) H
theorem o_inSign : OpR X (compareOp .In) rInSign := op_in_sign
def rNotInSign : R2 := fun x y H Q => ∃ (c : Nat) (z : Str), x = .str ⟨#[c]⟩ ∧ y = .str z ∧ Q (.bl (!decide (c ∈ z.cps.toList))) H
theorem o_notInSign : OpR X (compareOp .NotIn) rNotInSign := op_notIn_sign
def rIsN : R2 := fun x y H Q => y =
      .non ∧ Q (.bl (decide (x = .non))) H
theorem o_isN : OpR X (compareOp .Is) rIsN := op_isN
def rNotN : R2 := fun x y H Q => y =
      .non ∧ Q (.bl (!decide (x = .non))) H
theorem o_notN : OpR X (compareOp .IsNot) rNotN := op_notN
def rJoin (K : PySem.W.Frag) : V → List V → Hp → VK → Prop := fun x xs H Q => ∃ a p, ∃ ys : List Str, x = .str a ∧ xs = [.ref p] ∧ (SqL K H p (ys.map V.str) ∨ SqT K H p (ys.map V.str)) ∧ (ys.map (·.length)).sum + ys.length * a.length ≤ 16777216 ∧ Q (.str (Txt.join a ys)) H
theorem m_join (hK : X.K = K := by rfl) : MtR X "str.join" (rJoin K) := by subst hK; exact mt_join
def rSplit : V → List V → Hp → VK → Prop := fun x xs H Q => ∃ a b, x = .str a ∧ xs = [.str b] ∧ (b.length == 0) = false ∧ a.length + 2 ≤ sizeLine ∧ rNewStrs (Txt.split a b) H Q
theorem m_split : MtR X "str.split" rSplit := mt_split
section
variable {o e : Expr} {es : List Expr} {to te : TE} {t : TA} {name : Str} {apos cpos pos : Pos} {T id : String} {r : V → List V → Hp → VK → Prop}
theorem e_bm (pa : PlainAttrs T) (slot : Slot T name id) (hty : typeOf (.builtin id) = pure (.type "method_descriptor")) (hm : MtR X id r) (ho : PE X o to) (ha : PA X (e :: es) t)
    (hbase : attributeBase o name X.env
          (eval o X.env) = eval o X.env := by rfl)
    (hpl : (((((backTo cpos (starEach (e :: es) X.env)).all fun x => !x.fst) && (backToKw cpos (keywordEach [] X.env)).all fun x => x.fst.isSome) && decide (((e :: es).length + ([] : List Keyword).length + if ([] : List Keyword).isEmpty = true then 0 else 1) < 30)) = true) := by rfl)
    (hline : (apos.endLine == cpos.line) = true := by rfl) (he : starEach (e :: es) X.env = (false, eval e X.env) :: starEach es X.env := by rfl) (hpl2 : (backTo cpos (starEach es X.env)).any (·.1) = false := by rfl)
    (hK : X.K = K := by rfl) : PE X (.Call (.Attribute o name apos) (e :: es) [] cpos) (tBM K T r to t) := by subst hK; exact pe_bm pa slot hty hm ho ha (hbase := hbase) (hfew := hpl) (hline := hline) (hs := he) (hplain := hpl2)
theorem e_bm0 (pa : PlainAttrs T) (slot : Slot T name id) (hty : typeOf (.builtin id) = pure (.type "method_descriptor")) (hm : MtR X id r) (ho : PE X o to)
    (hbase : attributeBase o name X.env (eval o X.env) = eval o X.env := by rfl) (hline : (apos.endLine == cpos.line) = true := by rfl) (hK : X.K = K := by rfl) : PE X (.Call (.Attribute o name apos) [] [] cpos) (tBM0 K T r to) := by subst hK; exact pe_bm0 pa slot hty hm ho hbase hline
theorem e_glob {x : Str} {v : V} (h : GV X.mg x v) (hg : Gl X x := by rfl) (hd : (x == ("__debug__" : Str)) = false := by decide) : PE X (.Name x pos) (tC v) := by
  obtain ⟨u, hm, r⟩ := h
  exact pe_glob hg hm r (hd := hd)
theorem e_ty (n : String) {x : Str} (hm : X.mg x = none) (hv : bootBuiltins x = some (.type n)) (hg : Gl X x := by rfl) (hn : x ≠ "__name__" := by decide) (hd : (x == ("__debug__" : Str)) = false := by decide) : PE X (.Name x pos) (tC (.ty n)) := by
  exact pe_bltn hg hm hv (show RelV (.ty n) (.type n) from rfl) (hn := hn) (hd := hd)
theorem e_fld {f : Str} (he : PE X e te) (hb : attributeBase e f X.env (eval e X.env) = eval e X.env := by rfl) (hK : X.K = K := by rfl) : PE X (.Attribute e f pos) (tFld K te f) := by subst hK; exact pe_fld he hb
theorem s_fld {f : Str} {pos' : Pos} (ha : PE X o to) (hv : PE X e te) (hs : swapsWith e (some (.Attribute o f pos')) pos.line X.env = pure false := by rfl) (hK : X.K = K := by rfl) : PS X (.Assign [.Attribute o f pos'] e pos) (sFld K to te f) := by subst hK; exact ps_fld ha hv hs
theorem w_list {tg : Expr} (hl : PE X e te) (hK : X.K = K := by rfl) : PI X tg e (iList K te) := by subst hK; exact pi_list hl
theorem w_tup {tg : Expr} (hl : PE X e te) (hK : X.K = K := by rfl) : PI X tg e (iTup K te) := by subst hK; exact pi_tup hl
theorem w_enum {p tpos : Pos} {elts : List Expr} {kk : Nat} (hg : Gl X "enumerate") (hm : X.mg "enumerate" = none) (ha : PA X [e] t) (hs : starEach [e] X.env = [(false, eval e X.env)] := by rfl) (hK : X.K = K := by rfl) :
    PI X (.Tuple elts kk tpos) (.Call (.Name "enumerate" p) [e] [] pos) (iEnum K t) := by subst hK; exact pi_enum hg hm ha hs
theorem w_zip {e2 : Expr} {p tpos : Pos} {elts : List Expr} {kk : Nat} (hg : Gl X "zip") (hm : X.mg "zip" = none) (ha : PA X [e, e2] t)
    (hs : starEach [e, e2] X.env = (false, eval e X.env) :: starEach [e2] X.env := by rfl) (hpl : (backTo pos (starEach [e2] X.env)).any (·.1) = false := by rfl) (hK : X.K = K := by rfl) :
    PI X (.Tuple elts kk tpos) (.Call (.Name "zip" p) [e, e2] [] pos) (RZ.iZipA K t) := by subst hK; exact RZ.pi_zipA hg hm ha hs hpl
theorem g_tup {k : Nat} {t : TGs} {n : Nat} (hc : X.calm = true) (h : PGs X es t)
    (hn : (assignEach es X.env).length = n := by rfl) (hst : (assignEach es X.env).findIdx? (·.1) = none := by rfl) (hK : X.K = K := by rfl) : PG X (.Tuple es k pos) (gTup K n t) := by subst hK; exact pg_tup hc h hn hst
def tTru (K : PySem.W.Frag) (ta : TE) : TT := fun σ
      H Q => ta σ H fun x H' => ∃ k, TruV K x H' k ∧ Q k H'
theorem t_truth (ha : PE X e te) (he : ∀ whole, isTrue e X.env whole = (do let v ← whole; standAt e.pos; holding [v] (truthy v)) := by intro _; rfl) (hK : X.K = K := by rfl) : PT X e (tTru K te) := by subst hK; exact pt_truth ha he
end
end
end Lr
set_option Elab.async false
set_option linter.all false
set_option maxRecDepth 100000
set_option maxHeartbeats 4000000
/-! Vc: a reading is walked by its head: one lemma a form, each says what is left. -/
namespace Lr
open PySem PySem.Spec
      PyProof.Rows L2
section
variable {K : PySem.W.Frag} {σ : L2.St} {H : Hp} {Q : VK} {D : Ends} {ta tb tc : TE} {A B : TS} {u v : V}
theorem i_seq (h : A { D with nx := B D } σ H) : tSeq A B D σ H := h
theorem i_asg {g : TG} (h : ta σ H fun x H1 => g x σ H1 D.nx) : tAsg ta g D σ H := h
theorem i_ret (h : ta σ H D.rt) : tRet ta D σ H := h
theorem i_next (h : D.nx σ H) : tNext D σ H := h
theorem i_brk (h : D.bk σ H) : tBreak D σ H := h
theorem i_cont (h : D.ct σ H) : tCont D σ H := h
theorem i_drop (h : ta σ H fun _ H1 => D.nx σ H1) : tDrop ta D σ H := h
theorem i_ifS {c : TT} (h : c σ H fun b H1 => if b = true then A D σ H1 else B D σ H1) : tIfS c A B D σ H := h
theorem i_if {c : TT} (h : c σ H fun b H1 => if b = true then ta σ H1 Q else tb σ H1 Q) : tIf c ta tb σ H Q := h
theorem i_and {c d : TT} {Q : Bool → Hp → Prop} (h : c σ H fun b H1 => if b = true then d σ H1 Q else Q false H1) : tAnd c d σ H Q := h
theorem i_or {c d : TT} {Q : Bool → Hp → Prop} (h : c σ H fun b H1 => if b = true then Q true H1 else d σ H1 Q) : tOr c d σ H Q := h
theorem i_not {c : TT} {Q : Bool → Hp → Prop} (h : c σ H fun b H1 => Q (!b) H1) : tNot c σ H Q := h
theorem i_test {Q : Bool → Hp → Prop} (h : ta σ H fun x H' => ∃ k, x = .bl k ∧ Q k H') : tTest ta σ H Q := h
theorem i_tB {Q : Bool → Hp → Prop} (h : ta σ H fun x H' => ∃ k, x = .bl k ∧ Q k H') : tB ta σ H Q := h
theorem i_bl {b : Bool} {R : Bool → Prop} (h : R b) : ∃ k, V.bl b = V.bl k ∧ R k := ⟨b, rfl, h⟩
theorem i_yes {Q : Bool → Hp → Prop} (h : Q true H) : tYes σ H Q := h
theorem i_op {r : R2} (h : ta σ H fun x H1 => tb σ H1 fun y H2 => r x y H2 Q) : tOp r ta tb σ H Q := h
theorem i_un {r : V → Hp → VK → Prop} (h : ta σ H fun x H1 => r x H1 Q) : tUn r ta σ H Q := h
theorem i_chain {r r' : R2} (h : ta σ H fun x H1 => tb σ H1 fun y H2 => r x y H2 fun z H3 => ∃ k, z = .bl k ∧ (if k = true then tc σ H3 fun w' H4 => r' y w' H4 Q else Q (.bl false) H3)) : tChain r r' ta tb tc σ H Q := h
theorem i_andV (h : ta σ H fun x H1 => ∃ c, x = .bl c ∧ if c = true then tb σ H1 Q else Q (.bl false) H1) : tAndV ta tb σ H Q := h
theorem i_orV (h : ta σ H fun x H1 => ∃ c, x = .bl c ∧ if c = true then Q (.bl true) H1 else tb σ H1 Q) : tOrV ta tb σ H Q := h
theorem i_notV (h : ta σ H fun x H1 => ∃ c, x = .bl c ∧ Q (.bl (!c)) H1) : tNotV ta σ H Q := h
theorem i_cb {r : List V → Hp → VK → Prop} {t : TA} (h : t σ H fun vs H1 => r vs H1 Q) : tCB r t σ H Q := h
theorem i_cons {t : TA} {R : List V → Hp → Prop} (h : ta σ H fun x H1 => t σ H1 fun xs H2 => R (x :: xs) H2) : tCons ta t σ H R := h
theorem i_nil {R : List V → Hp → Prop} (h : R [] H) : tNil σ H R := h
theorem i_bm {T : String} {r : V → List V → Hp → VK → Prop} {t : TA} (h : ta σ H fun x H1 => tyV K T x H1 ∧ t σ H1 fun xs H2 => r x xs H2 Q) : tBM K T r ta t σ H Q := h
theorem i_bm0 {T : String} {r : V → List V → Hp → VK → Prop} (h : ta σ H fun x H1 => tyV K T x H1 ∧ r x [] H1 Q) : tBM0 K T r ta σ H Q := h
theorem i_tyl {a : Addr} {xs : List V} {R : Prop} (h : H a = some (.lst xs)) (q : R) : tyV K "list" (.ref a) H ∧ R := ⟨.inl ⟨rfl, _, SqL.of h⟩, q⟩
theorem i_var {i : Nat} (e : σ[i]? = some (some v)) (h : Q v H) : tVar i σ H Q := ⟨v, e, h⟩
theorem i_c (h : Q v H) : tC v σ H Q := h
theorem i_name {i : Nat} {R : L2.St → Hp → Prop} (h : R (σ.set i (some v)) H) : gName i v σ H R := h
theorem i_sub {t : TSet} {R : L2.St → Hp → Prop} (h : ta σ H fun o H1 => tb σ H1 fun i H2 => t o i v H2 fun H3 => R σ H3) : gSub ta tb t v σ H R := h
theorem i_call {sp : Sp} {dvs : List V} {E : XK} {t : TA} (h : t σ H fun vs H1 => sp (vs ++ dvs) H1 Q E) : tCall sp dvs E t σ H Q := h
theorem i_lst {t : TA} (h : t σ H fun xs H1 => xs.length ≤ sizeLine ∧ ∀ p, H1 p = none → Q (.ref p) (upd H1 p (.lst xs))) : tLst t σ H Q := h
theorem i_tup {t : TA} (h : t σ H fun xs H1 => xs.length ≤ sizeLine ∧ ∀ p, H1 p = none → Q (.ref p) (upd H1 p (.tup xs))) : tTup t σ H Q := h
theorem i_par {i j : Nat} {t : TA} (h : t σ H fun vs H1 => ∃ v w, vs = [v, w] ∧ D.nx ((σ.set i (some v)).set j (some w)) H1) : tPar i j t D σ H := h
theorem i_par2 {R : V → V → Prop} (h : R u v) : ∃ a b, [u, v] = [a, b] ∧ R a b := ⟨u, v, rfl, h⟩
theorem i_sl {r : V → Option Int → Option Int → Hp → VK → Prop} {tl th : TO} (h : ta σ H fun x H1 => tl σ H1 fun l H2 => th σ H2 fun u H3 => r x l u H3 Q) : L2.tSl r ta tl th σ H Q := h
theorem i_np {R : Option Int → Hp → Prop} (h : R none H) : tNoPart σ H R := h
theorem i_pt {R : Option Int → Hp → Prop} (h : ta σ H fun x H1 => ∃ i, x = .int i ∧ R (some i) H1) : tPart ta σ H R := h
theorem i_int {i : Int} {R : Int → Prop} (h : R i) : ∃ k, V.int i = V.int k ∧ R k := ⟨i, rfl, h⟩
theorem i_m0 {r : V → List V → Hp → VK → Prop} (h : ta σ H fun x H1 => (∃ a, x = .str a) ∧ r x [] H1 Q) : tM0 r ta σ H Q := h
theorem i_m1 {r : V → List V → Hp → VK → Prop} (h : ta σ H fun x H1 => (∃ a, x = .str a) ∧ tb σ H1 fun y H2 => r x [y] H2 Q) : tM1 r ta tb σ H Q := h
theorem i_isS {z : Str} {R : Prop} (h : R) : (∃ a, V.str z = V.str a) ∧ R := ⟨⟨z, rfl⟩, h⟩
-- operators on known kinds
theorem i_rI0 {g : Int → Int → V} {i j : Int} (h : Q (g i j) H) : rI0 g (.int i) (.int j) H Q := ⟨i, j, rfl, rfl, h⟩
theorem i_rI {C : Int → Int → Prop} {g : Int → Int → V} {i j : Int} (c : C i j) (h : Q (g i j) H) : rI C g (.int i) (.int j) H Q := ⟨i, j, rfl, rfl, c, h⟩
theorem i_mod {i j : Int} (c : j ≠ 0) (q : Q (.int (i.fmod j)) H) : rI (fun _ j => j ≠ 0) (fun i j => V.int (i.fmod j)) (.int i) (.int j) H Q := ⟨i, j, rfl, rfl, c, q⟩
theorem i_fdiv {i j : Int} (c : j ≠ 0) (d : j.natAbs < 1073741824) (q : Q (.int (i.fdiv j)) H) : rI CDivN (fun i j => V.int (i.fdiv j)) (.int i) (.int j) H Q := ⟨i, j, rfl, rfl, ⟨c, d⟩, q⟩
theorem i_mulL {i j : Int} (c : -(2 ^ 64) < i) (d : i < 2 ^ 64) (q : Q (.int (i * j)) H) : rI CMul (fun i j => V.int (i * j)) (.int i) (.int j) H Q := ⟨i, j, rfl, rfl, .inl ⟨c, d⟩, q⟩
theorem i_mulR {i j : Int} (c : -(2 ^ 64) < j) (d : j < 2 ^ 64) (q : Q (.int (i * j)) H) : rI CMul (fun i j => V.int (i * j)) (.int i) (.int j) H Q := ⟨i, j, rfl, rfl, .inr ⟨c, d⟩, q⟩
theorem i_pow {i j : Int} (c : 0 ≤ j) (d : j ≤ 1000000) (z : i.natAbs < 2 ^ 64) (q : Q (.int (i ^ j.toNat)) H) : rI CPow (fun i j => V.int (i ^ j.toNat)) (.int i) (.int j) H Q := ⟨i, j, rfl, rfl, ⟨c, d, z⟩, q⟩
theorem i_eqI {i j : Int} (h : Q (.bl (decide (V.int i = V.int j))) H) : rEq (.int i) (.int j) H Q := ⟨rfl, h⟩
theorem i_eq {x y : V} (s : scal x y = true) (h : Q (.bl (decide (x = y))) H) : rEq x y H Q := ⟨s, h⟩
theorem i_ne {x y : V} (s : scal x y = true) (h : Q (.bl (!decide (x = y))) H) : rNe x y H Q := ⟨s, h⟩
theorem i_ixL {p : Addr} {xs : List V} {i : Int} (h : H p = some (.lst xs)) (e : atI xs i = some v) (q : Q v H) : rIxL K (.ref p) (.int i) H Q := ⟨p, xs, i, v, rfl, rfl, SqL.of h, e, q⟩
theorem i_ixT {p : Addr} {xs : List V} {i : Int} (h : H p = some (.tup xs)) (e : atI xs i = some v) (q : Q v H) : rIxT K (.ref p) (.int i) H Q := ⟨p, xs, i, v, rfl, rfl, SqT.of h, e, q⟩
theorem i_setL {p : Addr} {xs : List V} {i : Int} {j : Nat} {R : Hp → Prop} (h : H p = some (.lst xs)) (e : ixN xs.length i = some j) (q : R (upd H p (.lst (xs.set j v)))) : rSetL (.ref p) (.int i) v H R := ⟨p, xs, i, j, rfl, rfl, h, e, q⟩
theorem i_app {l : Addr} {xs : List V} {y : V} (h : H l = some (.lst xs)) (z : xs.length < sizeLine) (q : Q .non (upd H l (.lst (xs ++ [y])))) : rAppend (.ref l) [y] H Q := ⟨l, xs, y, rfl, rfl, h, z, q⟩
theorem i_lenL {p : Addr} {xs : List V} (h : H p = some (.lst xs)) (q : Q (.int xs.length) H) : rLen K [V.ref p] H Q := ⟨p, xs, rfl, .inl (SqL.of h), q⟩
theorem i_lenT {p : Addr} {xs : List V} (h : H p = some (.tup xs)) (q : Q (.int xs.length) H) : rLen K [V.ref p] H Q := ⟨p, xs, rfl, .inr (SqT.of h), q⟩
theorem i_listL {p : Addr} {xs : List V} (h : H p = some (.lst xs)) (q : ∀ l, H l = none → Q (.ref l) (upd H l (.lst xs))) : rList K [V.ref p] H Q := ⟨p, xs, rfl, .inl (SqL.of h), q⟩
theorem i_listT {p : Addr} {xs : List V} (h : H p = some (.tup xs)) (q : ∀ l, H l = none → Q (.ref l) (upd H l (.lst xs))) : rList K [V.ref p] H Q := ⟨p, xs, rfl, .inr (SqT.of h), q⟩
theorem i_tupleL {p : Addr} {xs : List V} (h : H p = some (.lst xs)) (q : ∀ l, H l = none → Q (.ref l) (upd H l (.tup xs))) : rTuple K [V.ref p] H Q := ⟨p, xs, rfl, .inl ⟨SqL.of h, q⟩⟩
theorem i_tupleT {p : Addr} {xs : List V} (h : H p = some (.tup xs)) (q : Q (.ref p) H) : rTuple K [V.ref p] H Q := ⟨p, xs, rfl, .inr ⟨SqT.of h, q⟩⟩
theorem i_join {a : Str} {p : Addr} {ys : List Str} (h : H p = some (.lst (ys.map V.str))) (z : (ys.map (·.length)).sum + ys.length * a.length ≤ 16777216) (q : Q (.str (Txt.join a ys)) H) : rJoin K (.str a) [V.ref p] H Q := ⟨a, p, ys, rfl, rfl, .inl (SqL.of h), z, q⟩
theorem i_split {a b : Str} (h : (b.length == 0) = false) (z : a.length + 2 ≤ sizeLine) (q : ∀ p, H p = none → Q (.ref p) (upd H p (.lst ((Txt.split a b).map V.str)))) : rSplit (.str a) [V.str b] H Q := ⟨a, b, rfl, rfl, h, z, q⟩
theorem i_strI {i : Int} (h : i.natAbs.log2 < 1920) (q : Q (.str (toString i)) H) : rStrI [V.int i] H Q := ⟨i, rfl, h, q⟩
theorem i_tru {Q : Bool → Hp → Prop} (h : ta σ H fun x H' => ∃ k, TruV K x H' k ∧ Q k H') : tTru K ta σ H Q := h
theorem i_lenS {z : Str} (h : z.length ≤ sizeLine) (q : Q (.int z.length) H) : rLenS [V.str z] H Q := ⟨z, rfl, h, q⟩
theorem i_int1 {i : Int} (q : Q (.int i) H) : rInt1 [V.int i] H Q := .inl ⟨i, rfl, q⟩
theorem i_intB {k : Bool} (q : Q (.int (if k then 1 else 0)) H) : rInt1 [V.bl k] H Q := .inr ⟨k, rfl, q⟩
theorem i_adds {x y : Str} (h : x.length + y.length ≤ sizeLine) (q : Q (.str (x ++ y)) H) : rAddS (.str x) (.str y) H Q := ⟨x, y, rfl, rfl, h, q⟩
theorem i_inSign {c : Nat} {z : Str} (q : Q (.bl (decide (c ∈ z.cps.toList))) H) : rInSign (.str ⟨#[c]⟩) (.str z) H Q := ⟨c, z, rfl, rfl, q⟩
theorem i_notInSign {c : Nat} {z : Str} (q : Q (.bl (!decide (c ∈ z.cps.toList))) H) : rNotInSign (.str ⟨#[c]⟩) (.str z) H Q := ⟨c, z, rfl, rfl, q⟩
theorem i_ixS {z : Str} {i : Int} {c : Nat} (h : z.length ≤ sizeLine) (e : atI z.cps.toList i = some c) (q : Q (.str ⟨#[c]⟩) H) : rIxS (.str z) (.int i) H Q := ⟨z, i, c, rfl, rfl, h, e, q⟩
theorem i_isN {x : V} (q : Q (.bl (decide (x = .non))) H) : rIsN x .non H Q := ⟨rfl, q⟩
theorem i_notN {x : V} (q : Q (.bl (!decide (x = .non))) H) : rNotN x .non H Q := ⟨rfl, q⟩
theorem i_cat {l b : Addr} {xs ys : List V} (h1 : H l = some (.lst xs)) (h2 : H b = some (.lst ys)) (z : xs.length + ys.length ≤ sizeLine) (q : ∀ p, H p = none → Q (.ref p) (upd H p (.lst (xs ++ ys)))) : rCat (.ref l) (.ref b) H Q := ⟨l, b, xs, ys, rfl, rfl, h1, h2, z, q⟩
theorem i_neD {x y : V} {d e : PyData} (h1 : Dp K H x d) (h2 : Dp K H y e) (s1 : SeqAt.shaped d = true) (s2 : SeqAt.shaped e = true) (q : Q (.bl (!PyData.eqv d e)) H) : rNeD K x y H Q := ⟨d, e, h1, h2, s1, s2, q⟩
theorem i_eqD {x y : V} {d e : PyData} (h1 : Dp K H x d) (h2 : Dp K H y e) (s1 : SeqAt.shaped d = true) (s2 : SeqAt.shaped e = true) (q : Q (.bl (PyData.eqv d e)) H) : rEqD K x y H Q := ⟨d, e, h1, h2, s1, s2, q⟩
theorem i_popAt {l : Addr} {xs : List V} {i : Int} {k : Nat} {y : V} (h : H l = some (.lst xs)) (h1 : -(2 ^ 63) ≤ i) (h2 : i < 2 ^ 63) (e : seqIndex? i xs.length = some k) (g : xs[k]? = some y) (q : Q y (upd H l (.lst (xs.eraseIdx k)))) : rPopAt (.ref l) [.int i] H Q :=
  ⟨l, xs, i, k, y, rfl, rfl, h, h1, h2, e, g, q⟩
-- heaps
theorem h_ne {x q : Addr} {o u : HO} (n : x ≠ q) (h : H x = some u) : upd H q o x = some u := by rw [upd_ne n]; exact h
theorem h_new {x q : Addr} {o u : HO} (h : H x = some u) (n : H q = none) : upd H q o x = some u := by rw [upd_ne (ne_of_none h n)]; exact h
theorem ne_sym {x q : Addr} (h : q ≠ x) : x ≠ q := h.symm
end
theorem ifd {c A B : Prop} [Decidable c] (h1 : c → A) (h2 : ¬ c → B) : if decide c = true then A else B := by
  by_cases h : c
  · rw [if_pos (decide_eq_true h)]; exact h1 h
  · rw [if_neg (by rw [decide_eq_false h]; exact Bool.false_ne_true)]; exact h2 h
theorem ifb {b : Bool} {A B : Prop} (h1 : b = true → A) (h2 : b = false → B) : if b = true then A else B := by
  cases b with
  | true => exact iteT (h1 rfl)
  | false => exact iteF (h2 rfl)
theorem ifn {c A B : Prop} [Decidable c] (h1 : ¬ c → A) (h2 : c → B) : if (!decide c) = true then A else B := by
  by_cases h : c
  · rw [decide_eq_true h]; exact iteF (h2 h)
  · rw [decide_eq_false h]; exact iteT (h1 h)
theorem eqv_ints_nil (ns : List Int) : PyData.eqv (.list (ns.map PyData.int)) (.list []) = decide (ns = []) := by
  cases ns with
  | nil => rfl
  | cons n r => rfl
/-! ### what a reading wants may be weakened -/
def MoE (t : TE) : Prop := ∀ σ H (Q Q' : VK), (∀ v H1, Q v H1 → Q' v H1) → t σ H Q → t σ H Q'
def MoT (t : TT) : Prop := ∀ σ H (Q Q' : Bool → Hp → Prop), (∀ v H1, Q v H1 → Q' v H1) → t σ H Q → t σ H Q'
def MoR (r : R2) : Prop := ∀ x y H (Q Q' : VK), (∀ v H1, Q v H1 → Q' v H1) → r x y H Q → r x y H Q'
theorem mo_var (i : Nat) : MoE (tVar i) := fun σ H Q Q' h ⟨v, e, q⟩ => ⟨v, e, h _ _ q⟩
theorem mo_c (v : V) : MoE (tC v) := fun σ H Q Q' h q => h _ _ q
theorem mo_op {r : R2} {ta tb : TE} (hr : MoR r) (ha : MoE ta) (hb : MoE tb) : MoE (tOp r ta tb) := fun σ H Q Q' h q => ha _ _ _ _ (fun x H1 q1 => hb _ _ _ _ (fun y H2 q2 => hr _ _ _ _ _ h q2) q1) q
theorem mo_ixL {K : PySem.W.Frag} : MoR (rIxL K) := fun x y H Q Q' h ⟨p, xs, i, v, a, b, c, d, q⟩ => ⟨p, xs, i, v, a, b, c, d, h _ _ q⟩
theorem mo_eq : MoR rEq := fun x y H Q Q' h ⟨a, q⟩ => ⟨a, h _ _ q⟩
theorem mo_neD {K : PySem.W.Frag} : MoR (rNeD K) := fun x y H Q Q' h ⟨d, e, a, b, c, z, q⟩ => ⟨d, e, a, b, c, z, h _ _ q⟩
theorem mo_lst0 : MoE (tLst tNil) := fun σ H Q Q' h ⟨a, q⟩ => ⟨a, fun p hp => h _ _ (q p hp)⟩
theorem mo_test {t : TE} (ht : MoE t) : MoT (tTest t) := fun σ H Q Q' h q => ht _ _ _ _ (fun v H1 ⟨k, e, z⟩ => ⟨k, e, h _ _ z⟩) q
theorem mo_and {c d : TT} (hc : MoT c) (hd : MoT d) : MoT (tAnd c d) := fun σ H Q Q' h q => hc _ _ _ _ (fun b H1 z => by
  cases b with
  | true => exact iteT (hd _ _ _ _ h (by simpa using z))
  | false => exact iteF (h _ _ (by simpa using z))) q
/-- a while whose way out is said apart -/
theorem while_to {c : TT} {tb : TS} {D : Ends} {σ : L2.St} {H : Hp} (Pv Ex : L2.St → Hp → Prop) (μ : L2.St → Hp → Nat) (h0 : Pv σ H)
    (hs : ∀ σ H, Pv σ H → c σ H fun b H1 => if b = true then tb { D with nx := fun σ' H' => Pv σ' H' ∧ μ σ' H' < μ σ H, ct := fun σ' H' => Pv σ' H' ∧ μ σ' H' < μ σ H, bk := D.nx } σ H1 else Ex σ H1)
    (mono : MoT c) (hx : ∀ σ H, Ex σ H → D.nx σ H) : tWhile c tb D σ H :=
  while_by Pv μ h0 (fun σ H p => mono _ _ _ _ (fun b H1 q => by
    cases b with
    | true => exact q
    | false => exact iteF (hx _ _ (by simpa using q))) (hs σ H p)) mono
theorem shaped_ints (ns : List Int) : SeqAt.shaped (.list (ns.map PyData.int)) = true := by
  simp [SeqAt.shaped, PyData.canLay0, PyData.depth, PySem.W.ke_canLayAll0, PySem.W.ke_depthAll]
theorem dp_ints {K : PySem.W.Frag} {H : Hp} {a : Addr} {ns : List Int} (h : H a = some (.lst (ns.map V.int))) : Dp K H (.ref a) (.list (ns.map PyData.int)) := by
  refine .lst (SqL.of h) ?_
  clear h
  induction ns with
  | nil => exact .nil
  | cons n r ih => exact .cons (.int n) ih
end Lr
set_option Elab.async false
set_option linter.all false
set_option maxRecDepth 100000
set_option maxHeartbeats 4000000
/-! Vl: loops and comprehensions by one invariant each, over what is walked. -/
namespace Lr
open PySem PySem.Spec
      PyProof.Rows L2
section
variable {K : PySem.W.Frag} {σ : L2.St} {H : Hp} {Q : VK} {D : Ends} {ta te : TE} {tl : TA} {g : TG} {tb : TS} {tt : TT} {vs : List Nat}
/-- what a for over n things asks: Y tells what comes at a turn -/
def ForBy (g : TG) (tb : TS) (D : Ends) (σ : L2.St) (H : Hp) (n : Nat) (G : Hp → Prop) (Y : Nat → Hp → V → Hp → Prop) : Prop :=
  ∃ Pv : Nat → L2.St → Hp → Prop, Pv 0 σ H ∧ (∀ i σ H, i ≤ n → Pv i σ H → G H) ∧
    (∀ i x σ H H', i < n → Pv i σ H → Y i H x H' → g x σ H' fun σ2 H2 => tb { D with nx := Pv (i + 1), ct := Pv (i + 1), bk := D.nx } σ2 H2) ∧ (∀ σ H, Pv n σ H → D.nx σ H)
def LcBy (g : TG) (tt : TT) (te : TE) (vs : List Nat) (σ : L2.St) (H1 : Hp) (Q : Addr → Hp → Prop) (n : Nat) (G : Hp → Prop) (Y : Nat → Hp → V → Hp → Prop) : Prop :=
  ∀ D, H1 D = none → ∃ Pv : Nat → Hp → Prop, Pv 0 (upd H1 D (.lst [])) ∧ (∀ i H, i ≤ n → Pv i H → G H) ∧
    (∀ i x H H', i < n → Pv i H → Y i H x H' → g x (wipe σ vs) H' fun σ2 H2 => wipe σ2 vs = wipe σ vs ∧ tt σ2 H2 fun b H3 =>
      if b = true then te σ2 H3 fun y H4 => ∃ acc, H4 D = some (.lst acc) ∧ acc.length < sizeLine ∧ Pv (i + 1) (upd H4 D (.lst (acc ++ [y]))) else Pv (i + 1) H3) ∧ (∀ H, Pv n H → Q D H)
theorem for_by {J : It} {n : Nat} {G : Hp → Prop} {Y : Nat → Hp → V → Hp → Prop} (w : Walk J n G Y) (h : ForBy g tb D σ H n G Y) :
    ∃ W : Nat → Nat → L2.St → Hp → Prop, (∃
          m, W 0 m σ H) ∧ ∀ i m σ H, W i m σ H →
      (J.stop i H ∧ D.nx σ H) ∨ (J.go i H ∧ ∃ N : L2.St → Hp → Prop, (∀ σ' H', N σ' H' → ∃ m', m' < m ∧ W (i + 1) m' σ' H') ∧ ∀ x H', J.yld i H x H' → g x σ H' fun σ2 H2 => tb { D with nx := N, ct := N, bk := D.nx } σ2 H2) := by
  obtain ⟨Pv, h0, hG, hs, hd⟩ := h
  exact for_it w Pv h0 hG hs hd
theorem lc_by {Q : Addr → Hp → Prop} {J : It} {n : Nat} {G : Hp → Prop} {Y : Nat → Hp → V → Hp → Prop} (w : Walk J n G Y) (h : LcBy g tt te vs σ H Q n G Y) : ∀ D, H D = none → ∃ W : Nat → Nat → Hp → Prop, (∃ m, W 0 m (upd H D (.lst []))) ∧ ∀ i m H, W i m H →
      (J.stop i H ∧ Q D H) ∨ (J.go i H ∧ ∃ Nx : Hp → Prop, (∀ H', Nx H' → ∃ m', m' < m ∧ W (i + 1) m' H') ∧ ∀ x H', J.yld i H x H' → g x (wipe σ vs) H' fun σ2 H2 => wipe σ2 vs = wipe σ vs ∧ tt σ2 H2 fun b H3 =>
        if b = true then te σ2 H3 fun y H4 => ∃ acc, H4 D = some (.lst acc) ∧ acc.length < sizeLine ∧ Nx (upd H4 D (.lst (acc ++ [y]))) else Nx H3) := fun D hD => by
  obtain ⟨Pv, h0, hG, hs, hd⟩ := h D hD
  exact lc_it w Pv h0 hG hs hd
def DcBy (g : TG) (tt : TT) (tk tv : TE) (vs : List Nat) (σ : L2.St) (H1 : Hp) (Q : Addr → Hp → Prop) (n : Nat) (G : Hp → Prop) (Y : Nat → Hp → V → Hp → Prop) : Prop :=
  ∀ D, H1 D = none → ∃ Pv : Nat → Hp → Prop, Pv 0 (upd H1 D (.dK [])) ∧ (∀ i H, i ≤ n → Pv i H → G H) ∧
    (∀ i x H H', i < n → Pv i H → Y i H x H' → g x (wipe σ vs) H' fun σ2 H2 => wipe σ2 vs = wipe σ vs ∧ tt σ2 H2 fun b H3 =>
      if b = true then tk σ2 H3 fun y H4 => tv σ2 H4 fun z H5 => ∃ kvs k, y = kV k ∧ H5 D = some (.dK kvs) ∧ kvs.length < sizeLine ∧ Pv (i + 1) (upd H5 D (.dK (putK kvs k z))) else Pv (i + 1) H3) ∧ (∀ H, Pv n H → Q D H)
theorem dc_by {Q : Addr → Hp → Prop} {tk tv : TE} {J : It} {n : Nat} {G : Hp → Prop} {Y : Nat → Hp → V → Hp → Prop} (w : Walk J n G Y) (h : DcBy g tt tk tv vs σ H Q n G Y) : ∀ D, H D = none → ∃ W : Nat → Nat → Hp → Prop, (∃ m, W 0 m (upd H D (.dK []))) ∧ ∀ i m H, W i m H →
      (J.stop i H ∧ Q D H) ∨ (J.go i H ∧ ∃ Nx : Hp → Prop, (∀ H', Nx H' → ∃ m', m' < m ∧ W (i + 1) m' H') ∧ ∀ x H', J.yld i H x H' → g x (wipe σ vs) H' fun σ2 H2 => wipe σ2 vs = wipe σ vs ∧ tt σ2 H2 fun b H3 =>
        if b = true then tk σ2 H3 fun y H4 => tv σ2 H4 fun z H5 => ∃ kvs k, y = kV k ∧ H5 D = some (.dK kvs) ∧ kvs.length < sizeLine ∧ Nx (upd H5 D (.dK (putK kvs k z))) else Nx H3) := fun D hD => by
  obtain ⟨Pv, h0, hG, hs, hd⟩ := h D hD
  refine ⟨fun i m H => m = n - i ∧ i ≤ n ∧ Pv
        i H, ⟨n, by simp, Nat.zero_le _, h0⟩, ?_⟩
  rintro i m H ⟨rfl, hi, p⟩
  have q := hG i H hi p
  by_cases hlt : i < n
  · exact .inr ⟨w.goes i H hlt q, Pv (i + 1), fun H' p' => ⟨n - (i + 1), by omega, rfl, hlt, p'⟩, fun x H' y => hs i x H H' hlt p (w.yields i H x H' hlt q y)⟩
  · obtain rfl : i = n := by omega
    exact .inl ⟨w.stops
          H q, hd H p⟩
theorem i_dc {wi : TI} {tk tv : TE} (h : wi σ H fun J H1 => ∀ D, H1 D = none → ∃ W : Nat → Nat → Hp → Prop, (∃ m, W 0 m (upd H1 D (.dK []))) ∧ ∀ i m H, W i m H →
  (J.stop i H ∧ Q (.ref D) H) ∨ (J.go i H ∧ ∃ Nx : Hp → Prop, (∀ H', Nx H' → ∃ m', m' < m ∧ W (i + 1) m' H')
        ∧ ∀ x H', J.yld i H x H' → g x (wipe σ vs) H' fun σ2 H2 => wipe σ2 vs = wipe σ vs ∧ tt σ2 H2 fun b H3 =>
    if b = true then tk σ2 H3 fun y H4 => tv σ2 H4 fun z H5 => ∃ kvs k, y = kV k ∧ H5 D = some (.dK kvs) ∧ kvs.length < sizeLine ∧ Nx (upd H5 D (.dK (putK kvs k z))) else Nx H3)) : tDc wi g tt tk tv vs σ H Q := h
theorem i_for {wi : TI} (h : wi σ H fun J H1 => ∃ W : Nat → Nat → L2.St → Hp → Prop, (∃ m, W 0 m σ H1) ∧ ∀ i m σ H, W i m σ H →
  (J.stop i H ∧ D.nx σ H) ∨ (J.go i H ∧ ∃ N : L2.St → Hp → Prop, (∀ σ' H', N σ' H' → ∃ m', m' < m ∧ W (i + 1) m' σ' H') ∧ ∀ x H', J.yld i H x H' → g x σ H' fun σ2 H2 => tb { D with nx := N, ct := N, bk := D.nx } σ2 H2)) : tFor wi g tb D σ H := h
theorem i_lc {wi : TI} (h : wi σ H fun J H1 => ∀ D, H1 D = none → ∃ W : Nat → Nat → Hp → Prop, (∃ m, W 0 m (upd H1 D (.lst []))) ∧ ∀ i m H, W i m H →
  (J.stop i H ∧ Q (.ref D) H) ∨ (J.go i H ∧ ∃ Nx : Hp → Prop, (∀ H', Nx H' → ∃ m', m' < m ∧ W (i + 1) m' H')
        ∧ ∀ x H', J.yld i H x H' → g x (wipe σ vs) H' fun σ2 H2 => wipe σ2 vs = wipe σ vs ∧ tt σ2 H2 fun b H3 =>
    if b = true then te σ2 H3 fun y H4 => ∃ acc, H4 D = some (.lst acc) ∧ acc.length < sizeLine ∧ Nx (upd H4 D (.lst (acc ++ [y]))) else Nx H3)) : tLc wi g tt te vs σ H Q := h
variable {R : It → Hp → Prop}
theorem i_iL (h : ta σ H fun x H1 => ∃ a, x = .ref a ∧ (∃ xs, SqL K H1 a xs) ∧ R (Itl K a) H1) : iList K ta σ H R := h
theorem i_iT (h : ta σ H fun x H1 => ∃ a, x = .ref a ∧ (∃ xs, SqT K H1 a xs) ∧ R (Itt K a) H1) : iTup K ta σ H R := h
theorem i_iR1 (h : tl σ H fun vs H1 => ∃ j : Int, vs = [.int j] ∧ -(2 ^ 62) ≤ j ∧ j < 2 ^ 62 ∧ R (Itr 0 j.toNat) H1) : iRng1 tl σ H R := h
theorem i_iR2 (h : tl σ H fun vs H1 => ∃ i j : Int, vs = [.int i, .int j] ∧ (-(2 ^ 62) ≤ i ∧ i < 2 ^ 62 ∧ -(2 ^ 62) ≤ j ∧ j < 2 ^ 62) ∧ R (Itr i (j - i).toNat) H1) : iRng2 tl σ H R := h
theorem i_iS (h : ta σ H fun v H1 => ∃ x, v = .str x ∧ R (Its x) H1) : iStr ta σ H R := h
theorem i_iE (h : tl σ H fun vs H1 => ∃ a xs, vs = [.ref a] ∧ SqL K H1 a xs ∧ R (Ite K a) H1) : iEnum K tl σ H R := h
theorem i_iZ (h : tl σ H fun vs H1 => ∃ a b xs ys, vs = [.ref a, .ref b] ∧ ((SqL K H1 a xs ∧ SqL K H1 b ys ∧ R (Itz K a b) H1) ∨ (SqT K H1 a xs ∧ SqT K H1 b ys ∧ R (RZ.ItzT K a b) H1))) : RZ.iZipA K tl σ H R := h
/-- what is walked is known -/
theorem w_lst {S : Addr → Prop} {p : Addr} {xs : List V} (h : H p = some (.lst xs)) (f : S p) : ∃ a, V.ref p = .ref a ∧ (∃ xs, SqL K H a xs) ∧ S a := ⟨p, rfl, ⟨xs, SqL.of h⟩, f⟩
theorem w_sq {S : Addr → Prop} {p : Addr} {xs : List V} (h : SqL K H p xs) (f : S p) : ∃ a, V.ref p = .ref a ∧ (∃ xs, SqL K H a xs) ∧ S a := ⟨p, rfl, ⟨xs, h⟩, f⟩
theorem w_tpl {S : Addr → Prop} {p : Addr} {xs : List V} (h : H p = some (.tup xs)) (f : S p) : ∃ a, V.ref p = .ref a ∧ (∃ xs, SqT K H a xs) ∧ S a := ⟨p, rfl, ⟨xs, SqT.of h⟩, f⟩
theorem w_rg1 {S : Int → Prop} {n : Nat} (h : n < 4611686018427387904) (f : S n) : ∃ j : Int, [V.int n] = [.int j] ∧ -(2 ^ 62) ≤ j ∧ j < 2 ^ 62 ∧ S j := ⟨n, rfl, by omega, by omega, f⟩
theorem w_rg1' {S : Int → Prop} {z : Int} (h : 0 ≤ z) (h' : z < 4611686018427387904) (f : S z) : ∃ j : Int, [V.int z] = [.int j] ∧ -(2 ^ 62) ≤ j ∧ j < 2 ^ 62 ∧ S j := ⟨z, rfl, by omega, by omega, f⟩
theorem w_rg2 {S : Int → Int → Prop} {lo hi : Int} (h1 : -1000000000 ≤ lo) (h2 : hi ≤ 1000000000) (h3 : lo ≤ 1000000000) (h4 : -1000000000 ≤ hi) (f : S lo hi) : ∃ i j : Int, [V.int lo, V.int hi] = [.int i, .int j] ∧ (-(2 ^ 62) ≤ i ∧ i < 2 ^ 62 ∧ -(2 ^ 62) ≤ j ∧ j < 2 ^ 62) ∧ S i j :=
  ⟨lo, hi, rfl, by omega, f⟩
/-- a list or a tuple is walked -/
def iSeq (K : PySem.W.Frag) (ta : TE) : TI := fun σ H R => iList K ta σ H R ∨ iTup K ta σ H R
theorem w_seq {X : Cx} (K : PySem.W.Frag) {tg e : Expr} {te : TE} (hl : PE X e te) (hK : X.K = K := by rfl) : PI X tg e (iSeq K te) := by
  subst hK
  exact ⟨fun pins s σ H R I h => h.elim (fun z => (pi_list hl).run pins s σ H R I z) (fun z => (pi_tup hl).run pins s σ H R I z)⟩
theorem w_sqv {i : Nat} {p : Addr} {o : HO} {xs : List V} (e : σ[i]? = some (some (.ref p))) (ho : o = .lst xs ∨ o = .tup xs) (h : H p = some o) (f : ∀ J, Walk J xs.length (fun H => H p = some o) (YAt xs) → R J H) : iSeq K (tVar i) σ H R := by
  rcases ho with rfl | rfl
  · exact .inl ⟨_, e, p, rfl, ⟨xs, SqL.of h⟩, f _ (walk_list.mono (fun _ z => SqL.of z) fun _ _ _ _ _ _ y => y)⟩
  · exact .inr ⟨_, e, p, rfl, ⟨xs, SqT.of h⟩, f _ (walk_tup.mono (fun _ z => SqT.of z) fun _ _ _ _ _ _ y => y)⟩
theorem w_str {S : Str → Prop} {z : Str} (f : S z) : ∃ x, V.str z = .str x ∧ S x := ⟨z, rfl, f⟩
theorem w_enu {S : Addr → Prop} {p : Addr} {xs : List V} (h : H p = some (.lst xs)) (f : S p) : ∃ a xs, [V.ref p] = [.ref a] ∧ SqL K H a xs ∧ S a := ⟨p, xs, rfl, SqL.of h, f⟩
theorem i_dget {ty : TE} (h : ta σ H fun x H1 => ty σ H1 fun y H2 => ∃ a v, x = .ref a ∧ DGet H2 a y (some v) ∧ Q v H2) : tDGet ta ty σ H Q := h
theorem i_fld {f : Str} (h : ta σ H fun x H1 => ∃ a C dx fs v, x = .ref a ∧ H1 a = some (.ins C dx fs) ∧ Cls K C ∧ NoAttr K C f ∧ fs.lookup f = some v ∧ Q v H1) : tFld K ta f σ H Q := h
theorem i_sfld {tv : TE} {f : Str} (h : tv σ H fun y H1 => ta σ H1 fun x H2 => ∃ a C dx fs, x = .ref a ∧ H2 a = some (.ins C dx fs) ∧ Cls K C ∧ NoAttr K C f ∧ fs.length < 1000 ∧ D.nx σ (upd H2 a (.ins C dx (putF f y fs)))) : sFld K ta tv f D σ H := h
theorem i_dput {ty tv : TE} (h : tv σ H fun v H1 => ta σ H1 fun x H2 => ty σ H2 fun y H3 => ∃ a H4, x = .ref a ∧ DPut H3 a y v H4 ∧ D.nx σ H4) : sDPut ta ty tv D σ H := h
theorem i_meth {C : Addr} {m : Str} {sp : Sp} {dvs : List V} {E : XK} {t : TA} (h : ta σ H fun x H1 => ∃ a dx fs, x = .ref a ∧ H1 a = some (.ins C dx fs) ∧ fs.lookup m = none ∧ t σ H1 fun vs H2 => sp (x :: (vs ++ dvs)) H2 Q E) : tMeth C m sp dvs E ta t σ H Q := h
theorem i_rU {g : Int → V} {i : Int} (h : Q (g i) H) : rU g (.int i) H Q := ⟨i, rfl, h⟩
/-- a field of an object, an item of a dict, as they stand -/
theorem d_fld {S : V → Prop} {p C dx : Addr} {fs : List (Str × V)} {f : Str} {v : V} (hp : H p = some (.ins C dx fs)) (cl : Cls K C) (na : NoAttr K C f) (e : fs.lookup f = some v) (q : S v) :
    ∃ a C dx fs v, V.ref p = .ref a ∧ H a = some (.ins C dx fs) ∧ Cls K C ∧ NoAttr K C f ∧ fs.lookup f = some v ∧ S v := ⟨p, C, dx, fs, v, rfl, hp, cl, na, e, q⟩
theorem d_get {S : V → Prop} {a : Addr} {kvs : List (Key × V)} {k : Key} {v : V} (h : H a = some (.dK kvs)) (e : valV kvs k = some v) (q : S v) : ∃ a' v', V.ref a = .ref a' ∧ DGet H a' (kV k) (some v') ∧ S v' :=
  ⟨a, v, rfl, by rw [← e]; exact DGet.k h, q⟩
theorem d_getS {S : V → Prop} {a : Addr} {kvs : List (Key × V)} {x : Str} {v : V} (h : H a = some (.dK kvs)) (e : valV kvs (.inr x) = some v) (q : S v) : ∃ a' v', V.ref a = .ref a' ∧ DGet H a' (.str x) (some v') ∧ S v' := d_get (k := .inr x) h e q
theorem putF_len (f : Str) (v : V) : ∀ fs : List (Str × V), (putF f v fs).length ≤ fs.length + 1
  | [] => by simp [putF]
  | (g, x) :: r => by
    have ih := putF_len f v r
    simp only [putF]
    split <;> simp <;> omega
theorem d_put {S : Addr → Addr → Addr → List (Str × V) → Prop} {p C dx : Addr} {fs : List (Str × V)} {f : Str} (hp : H p = some (.ins C dx fs)) (cl : Cls K C) (na : NoAttr K C f) (e : fs.length < 1000) (q : S p C dx fs) :
    ∃ a C dx fs, V.ref p = .ref a ∧ H a = some (.ins C dx fs) ∧ Cls K C ∧ NoAttr K C f ∧ fs.length < 1000 ∧ S a C dx fs := ⟨p, C, dx, fs, rfl, hp, cl, na, e, q⟩
/-- a target of two names: the pair at T is taken apart -/
theorem g_two {T : Addr} {u v : V} {i j : Nat} {R : L2.St → Hp → Prop} (h : H T = some (.tup [u, v])) (q : R ((σ.set i (some u)).set j (some v)) H) : gTup K 2 (gCons (gName i) (gCons (gName j) gNil)) (.ref T) σ H R :=
  ⟨T, [u, v], rfl, SqT.of h, rfl, u, [v], rfl, v, [], rfl, rfl, q⟩
theorem g_three {T : Addr} {u v w : V} {i j k : Nat} {R : L2.St → Hp → Prop} (h : H T = some (.tup [u, v, w])) (q : R (((σ.set i (some u)).set j (some v)).set k (some w)) H) : gTup K 3 (gCons (gName i) (gCons (gName j) (gCons (gName k) gNil))) (.ref T) σ H R :=
  ⟨T, [u, v, w], rfl, SqT.of h, rfl, u, [v, w], rfl, v, [w], rfl, w, [], rfl, rfl, q⟩
theorem i_rt {N : L2.St → Hp → Prop} {R : VK} {B C : L2.St → Hp → Prop} {v : V} (h : R v H) : (Ends.mk N R B C).rt v H := h
theorem i_nx {N : L2.St → Hp → Prop} {R : VK} {B C : L2.St → Hp → Prop} (h : N σ H) : (Ends.mk N R B C).nx σ H := h
theorem i_bk {N : L2.St → Hp → Prop} {R : VK} {B C : L2.St → Hp → Prop} (h : B σ H) : (Ends.mk N R B C).bk σ H := h
theorem i_ct {N : L2.St → Hp → Prop} {R : VK} {B C : L2.St → Hp → Prop} (h : C σ H) : (Ends.mk N R B C).ct σ H := h
theorem i_wipe {a b : L2.St} {A : Prop} (e : a = b) (h : A) : a = b ∧ A := ⟨e, h⟩
/-- a list that is read stands as written; it is the same list -/
theorem SqL.stands {p : Addr} {xs : List V} (h : H p = some (.lst xs)) : SqL K H p xs := SqL.of h
end
end Lr
set_option Elab.async false
set_option linter.all false
set_option maxRecDepth 100000
set_option maxHeartbeats 4000000
namespace Lr
open PySem PySem.Spec
      PyProof.Rows L2
def top (i : Nat) : Stmt := PySem.Challenge.pw_leastredo_k78_whole_rows_as_texts.main.body.getD i (.Pass ⟨0, 0, 0, 0⟩)
local macro_rules | `(tactic| walk_at "ne") => `(tactic| (first | assumption | (refine ne_sym ?_; assumption) | (exact ne_of_none (by assumption) (by assumption)) | (exact ne_sym (ne_of_none (by assumption) (by assumption)))))
local macro_rules | `(tactic| walk_at "h") => `(tactic| (first | assumption | exact upd_same | (refine h_new ?_ (by assumption); walk_at "h") | (refine h_ne (by walk_at "ne") ?_; walk_at "h")))
local macro_rules | `(tactic| walk_at "v1") => `(tactic| (with_reducible first
  | refine i_seq ?_ | refine i_asg ?_ | refine i_ret ?_ | refine i_next ?_ | refine i_drop ?_ | refine i_ifS ?_ | refine i_if ?_ | refine i_and ?_ | refine i_or ?_ | refine i_not ?_ | refine i_test ?_ | refine i_tB ?_ | refine i_bl ?_ | refine i_yes ?_
  | refine i_op ?_ | refine i_un ?_ | refine i_chain ?_ | refine i_andV ?_ | refine i_orV ?_ | refine i_notV ?_ | refine i_cb ?_ | refine i_cons ?_ | refine i_nil ?_ | refine i_bm ?_ | refine i_bm0 ?_ | refine i_c ?_ | refine i_name ?_ | refine i_sub ?_
  | refine i_call ?_ | refine i_lst ?_ | refine i_tup ?_ | refine i_par ?_ | refine i_par2 ?_ | refine i_sl ?_ | refine i_np ?_ | refine i_pt ?_ | refine i_int ?_ | refine i_m0 ?_ | refine i_m1 ?_ | refine i_isS ?_
  | refine i_rI0 ?_ | refine i_inSign ?_ | refine i_notInSign ?_ | refine i_int1 ?_ | refine i_tru ?_ | refine i_isN ?_ | refine i_notN ?_ | refine iteT ?_ | refine iteF ?_ | refine i_brk ?_ | refine i_rt ?_ | refine i_nx ?_ | refine i_bk ?_ | refine i_ct ?_ | refine i_for ?_ | refine i_lc ?_ | refine i_dc ?_ | refine i_iL ?_ | refine i_iT ?_ | refine i_iR1 ?_ | refine i_iR2 ?_ | refine i_iS ?_ | refine i_iE ?_ | refine i_iEK ?_ | refine i_iEQ ?_ | refine i_dget ?_ | refine i_fld ?_ | refine i_sfld ?_ | refine i_dput ?_ | refine i_meth ?_ | refine i_rU ?_ | refine i_cont ?_ | refine i_make ?_))
local macro_rules | `(tactic| walk_at "v2") => `(tactic| (first
  | ((with_reducible refine' i_var ?k1 ?_); (case k1 => exact rfl))
  | ((with_reducible refine' i_eq ?k1 ?_); (case k1 => exact rfl))
  | ((with_reducible refine' i_ne ?k1 ?_); (case k1 => exact rfl))
  | ((with_reducible refine' i_ixL ?k1 ?k2 ?_); (case k1 => walk_at "h"); (case k2 => exact rfl))
  | ((with_reducible refine' i_ixT ?k1 ?k2 ?_); (case k1 => walk_at "h"); (case k2 => exact rfl))
  | ((with_reducible refine' i_lenL ?k1 ?_); (case k1 => walk_at "h"))
  | ((with_reducible refine' i_lenT ?k1 ?_); (case k1 => walk_at "h"))
  | (refine i_wipe (show wipe _ _ = wipe _ _ from rfl) ?_)
  | ((with_reducible refine' i_setL ?k1 ?k2 ?_); (case k1 => walk_at "h"); (case k2 => exact rfl))
  | ((with_reducible refine' i_tyl ?k1 ?_); (case k1 => walk_at "h"))))
local macro_rules | `(tactic| walk_at "v") => `(tactic| repeat (first | walk_at "v1" | walk_at "v2"))

variable {P : Program} {w : World} {K :
      PySem.W.Frag} {mg : Str → Option Value} {base : Heap}
abbrev s_law_start : Stmt := top 32
abbrev N_law_start : List Str := ["script"]
abbrev P_law_start : List Str := ["script"]
theorem sc_law_start : FnScope N_law_start P_law_start (defScope s_law_start) := ⟨rfl, rfl, rfl, by decide +kernel, rfl, by decide +kernel, by decide +kernel⟩
abbrev s_law_below : Stmt := top 33
abbrev N_law_below : List Str := ["stream", "many", "cell", "digit", "mixed"]
abbrev P_law_below : List Str := ["stream", "many"]
theorem sc_law_below : FnScope N_law_below P_law_below (defScope s_law_below) := ⟨rfl, rfl, rfl, by decide +kernel, rfl, by decide +kernel, by decide +kernel⟩
def spStart : Sp := fun vs H Q _ => ∃ (s : Addr) (ns : List Int), vs = [.ref s] ∧ SqL K H s (ns.map V.int) ∧ ns.length ≤ 1000 ∧
  ∀ a b H', H a = none → H b = none → StreamAt a b 0 H' → Same H H' → Q (.ref a) H'
theorem ok_start (d : Fd K mg "_law_start" s_law_start P_law_start) (B : Blt mg) : FnOk P w K mg base CX0 1 d.f d.fd P_law_start (spStart (K := K)) := by
  refine d.F.ok sc_law_start (fun vs H Q E h => ?_) (fun cdv A outer s H vs Q E hr h => ?_)
  · obtain ⟨s, ns, rfl, _⟩ := h
    rfl
  · obtain ⟨s, ns, rfl, hS, hl, k⟩ := h
    refine ⟨_, (pss_one (ps_ret (pe_lst (pa_cons (pe_callTy (c_list K) (by rfl) B.list (by decide +kernel) (pa_cons (pv 0) pa_nil)) (pa_cons pe_int (pa_cons pe_int (pa_cons pe_int pa_nil))))))), ?_⟩
    refine ⟨_, rfl, _, _, rfl, .inl hS, fun b hb => ⟨(by show 4 ≤ sizeLine; decide), fun a ha => ?_⟩⟩
    have hn : a ≠ b := fun z => by rw [z, upd_same] at ha; cases ha
    have ha' : H a = none := by rw [upd_ne hn] at ha; exact ha
    refine k a b _ ha' hb ⟨hn, ns, 0, 0, 43, upd_same, ?_, by omega, by omega, by omega, by omega, by omega, hl⟩ ?_
    · rw [upd_ne hn.symm, upd_same]
    · intro q o e
      rw [upd_ne (ne_of_none e ha'), upd_ne (ne_of_none e hb)]; exact e

def spBelow (a b : Addr) : Sp := fun vs H Q _ => ∃ (n : Nat) (many : Int), vs = [.ref a, .int many] ∧ 0 < many ∧ many ≤ 1000000 ∧ StreamAt a b n H ∧ n < 2 ^ 40 ∧
  ∀ (d : Int) H', 0 ≤ d → d < many → StreamAt a b (n + 1) H' → Keep [a, b] H H' → Q (.int d) H'
theorem ok_below {a b : Addr} (d : Fd K mg "_law_below" s_law_below P_law_below) (B : Blt mg) : FnOk P w K mg base CX0 1 d.f d.fd P_law_below (spBelow a b) := by
  refine d.F.ok sc_law_below (fun vs H Q E h => ?_) (fun cdv A outer s H vs Q E hr h => ?_)
  · obtain ⟨n, many, rfl, _⟩ := h
    rfl
  · obtain ⟨n, many, rfl, hm, hM, hS, hn, k⟩ := h
    refine ⟨_, (pss_cons (ps_asg (pe_op op_add (pe_ix (x_list K) (pv 0) pe_int (fun _ _ => rfl)) pe_int) (pg_sub (pv 0) pe_int set_list))
      (pss_cons (ps_while PassesOwn.never (PW.pt (pw_and (pt_cmpR op_eq (pe_ix (x_list K) (pv 0) pe_int (fun _ _ => rfl)) pe_int (nomark _)) (pw_and1 (pt_cmpR (o_neD K hr.units) (pe_ix (x_list K) (pv 0) pe_int (fun _ _ => rfl)) (pe_lst pa_nil) (nomark _)))))
      (pss_cons (ps_set (i := 2) sc_law_below.nd rfl (by first | exact Or.inl rfl | exact Or.inr rfl) (e_bm K PySem.F.plainAttrs_list PySem.F.slot_list_pop PySem.F.type_list_pop mt_popAt (pe_ix (x_list K) (pv 0) pe_int (fun _ _ => rfl)) (pa_cons pe_int pa_nil)))
      (pss_cons (ps_asg (pe_op op_modN (pe_callTy c_int1 (by rfl) B.int (by decide +kernel) (pa_cons (pe_op op_add (pe_op op_add (pe_op op_mul (pe_ix (x_list K) (pv 0) pe_int (fun _ _ => rfl)) pe_int) (pv 2)) pe_int) pa_nil)) pe_int) (pg_sub (pv 0) pe_int set_list))
      (pss_one (ps_asg (pe_ifExp (pt_cmpR op_ge (pv 2) (pe_op op_pow pe_int pe_int) (nomark _)) (pv 2) pe_int) (pg_sub (pv 0) pe_int set_list))))))
      (pss_cons (ps_if (pt_cmpR op_gt (pe_ix (x_list K) (pv 0) pe_int (fun _ _ => rfl)) pe_int (nomark _)) (pss_cons (ps_set (i := 3) sc_law_below.nd rfl (by first | exact Or.inl rfl | exact Or.inr rfl) (pe_op op_modN (pe_callTy c_int1 (by rfl) B.int (by decide +kernel) (pa_cons (pe_ix (x_list K) (pv 0) pe_int (fun _ _ => rfl)) pa_nil)) (pv 1)))
      (pss_cons (ps_asg (pe_op op_fdivN (pe_ix (x_list K) (pv 0) pe_int (fun _ _ => rfl)) (pv 1)) (pg_sub (pv 0) pe_int set_list))
      (pss_one (ps_ret (pv 3))))) pss_nil)
      (pss_cons (ps_set (i := 4) sc_law_below.nd rfl (by first | exact Or.inl rfl | exact Or.inr rfl) (pe_op op_modN (pe_callTy c_int1 (by rfl) B.int (by decide +kernel) (pa_cons (pe_op op_pow (pe_op op_add (pe_op op_add (pe_ix (x_list K) (pv 0) pe_int (fun _ _ => rfl)) (pe_op op_mul pe_int (pe_ix (x_list K) (pv 0) pe_int (fun _ _ => rfl)))) pe_int) pe_int) pa_nil)) pe_int))
      (pss_one (ps_ret (pe_op op_modN (pe_op op_modN (pe_callTy c_int1 (by rfl) B.int (by decide +kernel) (pa_cons (pe_op op_pow (pe_op op_add (pe_op op_add (pe_op op_mul (pv 4) pe_int) (pe_op op_mul pe_int (pe_ix (x_list K) (pv 0) pe_int (fun _ _ => rfl)))) pe_int) pe_int) pa_nil)) pe_int) (pv 1)))))))), ?_⟩
    obtain ⟨ne, cells, x, c, m, h1, h2, x0, c0, cn, m0, mM, cl⟩ := hS
    have ne' := ne.symm
    walk_at "v"
    refine while_to (fun σ H' => ∃ (cells : List Int) (x m : Int) (v2 : Option V), σ = [some (.ref a), some (.int many), v2, none, none] ∧ H' a = some (.lst [.ref b, .int x, .int (c + 1), .int m]) ∧ H' b = some (.lst (cells.map V.int)) ∧
      0 ≤ x ∧ 0 ≤ m ∧ m < 2147483647 ∧ cells.length ≤ 1000 ∧ Keep [a, b] H H')
      (fun σ H' => ∃ (cells : List Int) (x m : Int) (v2 : Option V), σ = [some (.ref a), some (.int many), v2, none, none] ∧ H' a = some (.lst [.ref b, .int x, .int (c + 1), .int m]) ∧ H' b = some (.lst (cells.map V.int)) ∧
      0 ≤ x ∧ 0 ≤ m ∧ m < 2147483647 ∧ cells.length ≤ 1000 ∧ Keep [a, b] H H')
      (fun _ H' => match H' b with | some (.lst xs) => xs.length | _ => 0) ⟨cells, x, m, none, rfl, by walk_at "h", by walk_at "h", x0, m0, mM, cl, (Keep.refl _ _).put (by simp)⟩ ?_
      (mo_and (mo_test (mo_op mo_eq (mo_op mo_ixL (mo_var _) (mo_c _)) (mo_c _))) (mo_test (mo_op mo_neD (mo_op mo_ixL (mo_var _) (mo_c _)) mo_lst0))) ?_
    · rintro σ H' ⟨cells, x, m, v2, rfl, h1, h2, x0, m0, mM, cl, kp⟩
      walk_at "v"
      refine ifd (fun hx => ?_) (fun hx => iteF ⟨cells, x, m, v2, rfl, h1, h2, x0, m0, mM, cl, kp⟩)
      walk_at "v"
      refine ⟨Nat.zero_le _, fun p hp => ?_⟩
      have npa : a ≠ p := ne_of_none h1 hp
      have npb : b ≠ p := ne_of_none h2 hp
      refine i_neD (dp_ints (h_ne npb h2)) (dp_ints (ns := []) upd_same) (shaped_ints _) rfl ?_
      rw [show ([] : List Int).map PyData.int = [] from rfl, eqv_ints_nil]
      refine i_bl (ifn (fun hc => ?_) (fun hc => ⟨cells, x, m, v2, rfl, by walk_at "h", by walk_at "h", x0, m0, mM, cl, kp.new hp⟩))
      obtain ⟨cell, rest, rfl⟩ : ∃ y r, cells = y :: r := by
        cases cells with
        | nil => exact absurd rfl hc
        | cons y r => exact ⟨y, r, rfl⟩
      walk_at "v"
      refine i_popAt (k := 0) (y := .int cell) (by walk_at "h") (by decide) (by decide) ?_ rfl ?_
      · simp [seqIndex?]
      walk_at "v"
      refine i_mulL (by omega) (by omega) ?_
      walk_at "v"
      refine i_mod (by decide) ?_
      have e1 := Int.fmod_nonneg_of_pos (m * 69031 + cell + 13) (show (0 : Int) < 2147483647 by decide)
      have e2 := Int.fmod_lt_of_pos (m * 69031 + cell + 13) (show (0 : Int) < 2147483647 by decide)
      generalize (m * 69031 + cell + 13).fmod 2147483647 = m' at *
      walk_at "v"
      refine i_pow (by decide) (by decide) (by decide) ?_
      walk_at "v"
      refine ifd (fun hb => ?_) (fun hb => ?_)
      · have hb' : (10 : Int) ^ 18 ≤ cell := hb
        walk_at "v"
        refine ⟨⟨rest, cell, m', _, rfl, upd_same, ?_, by omega, e1, e2, Nat.le_of_succ_le cl, ?_⟩, ?_⟩
        · walk_at "h"
        · exact (((kp.new hp).put (by simp)).put (by simp)).put (by simp)
        · rw [h2]; show (match upd _ a _ b with | some (.lst xs) => xs.length | _ => 0) < _
          rw [upd_ne ne', upd_ne ne', upd_same]; simp
      · walk_at "v"
        refine ⟨⟨rest, 0, m', _, rfl, upd_same, ?_, by omega, e1, e2, Nat.le_of_succ_le cl, ?_⟩, ?_⟩
        · walk_at "h"
        · exact (((kp.new hp).put (by simp)).put (by simp)).put (by simp)
        · rw [h2]; show (match upd _ a _ b with | some (.lst xs) => xs.length | _ => 0) < _
          rw [upd_ne ne', upd_ne ne', upd_same]; simp
    · rintro σ H' ⟨cells, x, m, v2, rfl, h1, h2, x0, m0, mM, cl, kp⟩
      have hn' : (n : Int) < 1099511627776 := by omega
      have big : ∀ z : Int, 0 ≤ z → z < 2 ^ 63 → z.natAbs < 2 ^ 64 := fun z a b => by omega
      walk_at "v"
      refine ifd (fun hx => ?_) (fun hx => ?_)
      · walk_at "v"
        refine i_mod (by omega) ?_
        walk_at "v"
        refine i_fdiv (by omega) (by omega) ?_
        walk_at "v"
        refine k _ _ (Int.fmod_nonneg_of_pos _ hm) (Int.fmod_lt_of_pos _ hm) ⟨ne, cells, x.fdiv many, c + 1, m, upd_same, by walk_at "h", ?_, by omega, by omega, m0, mM, cl⟩ (kp.put (by simp))
        rw [Int.fdiv_eq_ediv_of_nonneg _ (by omega)]
        exact Int.ediv_nonneg x0 (by omega)
      · walk_at "v"
        refine i_mulL (by decide) (by decide) ?_
        walk_at "v"
        refine i_pow (by decide) (by decide) (big _ (by omega) (by omega)) ?_
        walk_at "v"
        refine i_mod (by decide) ?_
        have e1 := Int.fmod_nonneg_of_pos ((m + 9049 * (c + 1) + 130073) ^ (5 : Int).toNat) (show (0 : Int) < 2147483629 by decide)
        have e2 := Int.fmod_lt_of_pos ((m + 9049 * (c + 1) + 130073) ^ (5 : Int).toNat) (show (0 : Int) < 2147483629 by decide)
        generalize ((m + 9049 * (c + 1) + 130073) ^ (5 : Int).toNat).fmod 2147483629 = z at *
        walk_at "v"
        refine i_mulL (by omega) (by omega) ?_
        walk_at "v"
        refine i_mulL (by decide) (by decide) ?_
        walk_at "v"
        refine i_pow (by decide) (by decide) (big _ (by omega) (by omega)) ?_
        walk_at "v"
        refine i_mod (by decide) ?_
        walk_at "v"
        refine i_mod (by omega) ?_
        exact k _ _ (Int.fmod_nonneg_of_pos _ hm) (Int.fmod_lt_of_pos _ hm) ⟨ne, cells, x, c + 1, m, h1, h2, x0, by omega, by omega, m0, mM, cl⟩ kp
end Lr
set_option Elab.async false
set_option linter.all false
set_option maxRecDepth 100000
set_option maxHeartbeats 4000000
namespace Lr
open PySem PySem.Spec
      PyProof.Rows L2
local macro_rules | `(tactic| walk_at "ne") => `(tactic| (first | assumption | (refine ne_sym ?_; assumption) | (exact ne_of_none (by assumption) (by assumption)) | (exact ne_sym (ne_of_none (by assumption) (by assumption)))))
local macro_rules | `(tactic| walk_at "h") => `(tactic| (first | assumption | exact upd_same | (refine h_new ?_ (by assumption); walk_at "h") | (refine h_ne (by walk_at "ne") ?_; walk_at "h")))
local macro_rules | `(tactic| walk_at "v1") => `(tactic| (with_reducible first
  | refine i_seq ?_ | refine i_asg ?_ | refine i_ret ?_ | refine i_next ?_ | refine i_drop ?_ | refine i_ifS ?_ | refine i_if ?_ | refine i_and ?_ | refine i_or ?_ | refine i_not ?_ | refine i_test ?_ | refine i_tB ?_ | refine i_bl ?_ | refine i_yes ?_
  | refine i_op ?_ | refine i_un ?_ | refine i_chain ?_ | refine i_andV ?_ | refine i_orV ?_ | refine i_notV ?_ | refine i_cb ?_ | refine i_cons ?_ | refine i_nil ?_ | refine i_bm ?_ | refine i_bm0 ?_ | refine i_c ?_ | refine i_name ?_ | refine i_sub ?_
  | refine i_call ?_ | refine i_lst ?_ | refine i_tup ?_ | refine i_par ?_ | refine i_par2 ?_ | refine i_sl ?_ | refine i_np ?_ | refine i_pt ?_ | refine i_int ?_ | refine i_m0 ?_ | refine i_m1 ?_ | refine i_isS ?_
  | refine i_rI0 ?_ | refine i_inSign ?_ | refine i_notInSign ?_ | refine i_int1 ?_ | refine i_tru ?_ | refine i_isN ?_ | refine i_notN ?_ | refine iteT ?_ | refine iteF ?_ | refine i_brk ?_ | refine i_rt ?_ | refine i_nx ?_ | refine i_bk ?_ | refine i_ct ?_ | refine i_for ?_ | refine i_lc ?_ | refine i_dc ?_ | refine i_iL ?_ | refine i_iT ?_ | refine i_iR1 ?_ | refine i_iR2 ?_ | refine i_iS ?_ | refine i_iE ?_ | refine i_iEK ?_ | refine i_iEQ ?_ | refine i_dget ?_ | refine i_fld ?_ | refine i_sfld ?_ | refine i_dput ?_ | refine i_meth ?_ | refine i_rU ?_ | refine i_cont ?_ | refine i_make ?_))
local macro_rules | `(tactic| walk_at "v2") => `(tactic| (first
  | ((with_reducible refine' i_var ?k1 ?_); (case k1 => exact rfl))
  | ((with_reducible refine' i_eq ?k1 ?_); (case k1 => exact rfl))
  | ((with_reducible refine' i_ne ?k1 ?_); (case k1 => exact rfl))
  | ((with_reducible refine' i_ixL ?k1 ?k2 ?_); (case k1 => walk_at "h"); (case k2 => exact rfl))
  | ((with_reducible refine' i_ixT ?k1 ?k2 ?_); (case k1 => walk_at "h"); (case k2 => exact rfl))
  | ((with_reducible refine' i_lenL ?k1 ?_); (case k1 => walk_at "h"))
  | ((with_reducible refine' i_lenT ?k1 ?_); (case k1 => walk_at "h"))
  | (refine i_wipe (show wipe _ _ = wipe _ _ from rfl) ?_)
  | ((with_reducible refine' i_setL ?k1 ?k2 ?_); (case k1 => walk_at "h"); (case k2 => exact rfl))
  | ((with_reducible refine' i_tyl ?k1 ?_); (case k1 => walk_at "h"))))
local macro_rules | `(tactic| walk_at "v") => `(tactic| repeat (first | walk_at "v1" | walk_at "v2"))

variable {P : Program} {w : World} {K :
      PySem.W.Frag} {mg : Str → Option Value} {base : Heap}
abbrev s_law_chance : Stmt := top 34
abbrev N_law_chance : List Str := ["stream", "many"]
abbrev P_law_chance : List Str := ["stream", "many"]
theorem sc_law_chance : FnScope N_law_chance P_law_chance (defScope s_law_chance) := ⟨rfl, rfl, rfl, by decide +kernel, rfl, by decide +kernel, by decide +kernel⟩
abbrev s_law_pick : Stmt := top 35
abbrev N_law_pick : List Str := ["stream", "some"]
abbrev P_law_pick : List Str := ["stream", "some"]
theorem sc_law_pick : FnScope N_law_pick P_law_pick (defScope s_law_pick) := ⟨rfl, rfl, rfl, by decide +kernel, rfl, by decide +kernel, by decide +kernel⟩
abbrev s_law_mixed : Stmt := top 36
abbrev N_law_mixed : List Str := ["stream", "some", "left", "k"]
abbrev P_law_mixed : List Str := ["stream", "some"]
theorem sc_law_mixed : FnScope N_law_mixed P_law_mixed (defScope s_law_mixed) := ⟨rfl, rfl, rfl, by decide +kernel, rfl, by decide +kernel, by decide +kernel⟩
abbrev s_law_lot : Stmt := top 37
abbrev N_law_lot : List Str := ["stream", "some", "share", "thing"]
abbrev P_law_lot : List Str := ["stream", "some", "share"]
theorem sc_law_lot : FnScope N_law_lot P_law_lot (defScope s_law_lot) := ⟨rfl, rfl, rfl, by decide +kernel, rfl, by decide +kernel, by decide +kernel⟩
abbrev FdB (K : PySem.W.Frag) (mg : Str → Option Value) := Fd K mg "_law_below" s_law_below P_law_below
def spChance (a b : Addr) : Sp := fun vs H Q _ => ∃ (n : Nat) (many : Int), vs = [.ref a, .int many] ∧ 0 < many ∧ many ≤ 1000000 ∧ StreamAt a b n H ∧ n < 2 ^ 40 ∧
  ∀ (d : Bool) H', StreamAt a b (n + 1) H' → Keep [a, b] H H' → Q (.bl d) H'
theorem ok_chance {a b : Addr} (d : Fd K mg "_law_chance" s_law_chance P_law_chance) (d_law_below : FdB K mg) (B : Blt mg) : FnOk P w K mg base CX0 2 d.f d.fd P_law_chance (spChance a b) := by
  have G_law_below : FnOk P w K mg base CX0 1 d_law_below.f d_law_below.fd P_law_below (spBelow a b) := ok_below d_law_below B
  refine d.F.ok sc_law_chance (fun vs H Q E h => ?_) (fun cdv A outer s H vs Q E hr h => ?_)
  · obtain ⟨n, many, rfl, _⟩ := h
    rfl
  · obtain ⟨n, many, rfl, hm, hM, hS, hn, k⟩ := h
    refine ⟨_, (pss_one (ps_ret (pe_cmpR op_eq (pe_call G_law_below (hr.mono (by decide)) (by rfl) d_law_below.g d_law_below.F.kp d_law_below.b .nil pass0 (pa_cons (pv 0) (pa_cons (pv 1) pa_nil))) pe_int (nomark _)))), ?_⟩
    walk_at "v"
    refine ⟨n, many, rfl, hm, hM, hS, hn, fun d H' h1 h2 h3 h4 => ?_⟩
    walk_at "v"
    exact k _ _ h3 h4
def spPick (a b : Addr) : Sp := fun vs H Q _ => ∃ (n : Nat) (p : Addr) (xs : List V), vs = [.ref a, .ref p] ∧ H p = some (.lst xs) ∧ p ∉ [a, b] ∧ 0 < xs.length ∧ xs.length ≤ 1000000 ∧ StreamAt a b n H ∧ n < 2 ^ 40 ∧
  ∀ (x : V) (i : Nat) H', xs[i]? = some x → StreamAt a b (n + 1) H' → Keep [a, b] H H' → Q x H'
theorem atI_of {xs : List V} {d : Int} (h : 0 ≤ d) (h' : d < xs.length) : ∃ x, xs[d.toNat]? = some x ∧ atI xs d = some x := by
  have e : d.toNat < xs.length := by omega
  refine ⟨xs[d.toNat], by simp [e], ?_⟩
  have q := atI_nat (xs := xs) (j := d.toNat) (v := xs[d.toNat]) (by simp [e])
  rwa [Int.toNat_of_nonneg h] at q
theorem ok_pick {a b : Addr} (d : Fd K mg "_law_pick" s_law_pick P_law_pick) (d_law_below : FdB K mg) (B : Blt mg) : FnOk P w K mg base CX0 2 d.f d.fd P_law_pick (spPick a b) := by
  have G_law_below : FnOk P w K mg base CX0 1 d_law_below.f d_law_below.fd P_law_below (spBelow a b) := ok_below d_law_below B
  refine d.F.ok sc_law_pick (fun vs H Q E h => ?_) (fun cdv A outer s H vs Q E hr h => ?_)
  · obtain ⟨n, many, xs, rfl, _⟩ := h
    rfl
  · obtain ⟨n, p, xs, rfl, hp, np, hm, hM, hS, hn, k⟩ := h
    refine ⟨_, (pss_one (ps_ret (pe_ix (x_list K) (pv 1) (pe_call G_law_below (hr.mono (by decide)) (by rfl) d_law_below.g d_law_below.F.kp d_law_below.b .nil pass0 (pa_cons (pv 0) (pa_cons (pe_callB (c_len K) (by rfl) B.len (by decide +kernel) (pa_cons (pv 1) pa_nil)) pa_nil))) (fun _ _ => rfl)))), ?_⟩
    walk_at "v"
    refine ⟨n, xs.length, rfl, by omega, by omega, hS, hn, fun d H' h1 h2 h3 h4 => ?_⟩
    obtain ⟨x, e1, e2⟩ := atI_of h1 h2
    refine i_ixL (h4 _ _ np hp) e2 ?_
    exact k _ _ _ e1 h3 h4
/-- a list or a tuple stands at p -/
def Seq (H : Hp) (p : Addr) (xs : List V) : Prop := H p = some (.lst xs) ∨ H p = some (.tup xs)
theorem Seq.sq {K : PySem.W.Frag} {H : Hp} {p : Addr} {xs : List V} (h : Seq H p xs) : SqL K H p xs ∨ SqT K H p xs := h.imp SqL.of SqT.of
def spMixed (a b : Addr) : Sp := fun vs H Q _ => ∃ (n : Nat) (p : Addr) (xs : List V), vs = [.ref a, .ref p] ∧ Seq H p xs ∧ xs.length ≤ 1000 ∧ StreamAt a b n H ∧ n < 2 ^ 39 ∧
  ∀ (q : Addr) (ys : List V) H', ys.Perm xs → H q = none → H' q = some (.lst ys) → StreamAt a b (n + xs.length) H' → Keep [a, b] H H' → Q (.ref q) H'
theorem perm_erase {α : Type} : ∀ {zs : List α} {j : Nat} {x : α}, zs[j]? = some x → List.Perm ([x] ++ zs.eraseIdx j) zs
  | [], _, _, h => by simp at h
  | z :: zs, 0, x, h => by simp at h; subst h; exact List.Perm.refl _
  | z :: zs, j + 1, x, h => by
    have ih := perm_erase (zs := zs) (j := j) (x := x) (by simpa using h)
    show List.Perm (x :: z :: zs.eraseIdx j) (z :: zs)
    exact (List.Perm.swap _ _ _).trans (List.Perm.cons _ ih)
theorem ok_mixed {a b : Addr} (d : Fd K mg "_law_mixed" s_law_mixed P_law_mixed) (d_law_below : FdB K mg) (B : Blt mg) : FnOk P w K mg base CX0 2 d.f d.fd P_law_mixed (spMixed a b) := by
  have G_law_below : FnOk P w K mg base CX0 1 d_law_below.f d_law_below.fd P_law_below (spBelow a b) := ok_below d_law_below B
  refine d.F.ok sc_law_mixed (fun vs H Q E h => ?_) (fun cdv A outer s H vs Q E hr h => ?_)
  · obtain ⟨n, many, xs, rfl, _⟩ := h
    rfl
  · obtain ⟨n, p, xs, rfl, hp, hM, hS, hn, k⟩ := h
    refine ⟨_, (pss_cons (ps_set (i := 2) sc_law_mixed.nd rfl (by first | exact Or.inl rfl | exact Or.inr rfl) (pe_callTy (c_list K) (by rfl) B.list (by decide +kernel) (pa_cons (pv 1) pa_nil)))
      (pss_one (ps_ret (pe_lc (own := [("k", 3)]) (g := gName 3) (tt := tYes) rfl sc_law_mixed.nd (pi_range1 (by rfl) B.range (pa_cons (pe_callB (c_len K) (by rfl) B.len (by decide +kernel) (pa_cons (pv 2) pa_nil)) pa_nil)) (blkOk_by (own := [("k", 3)]) (N := N_law_mixed) (sc := defScope s_law_mixed) (by decide +kernel)) (fun _ _ _ _ _ => by exact (pg_name (i := 3) sc_law_mixed.nd rfl (by first | exact Or.inl rfl | exact Or.inr rfl))) (fun _ _ _ _ _ => pts_nil) (fun _ _ _ _ _ => by exact (e_bm K PySem.F.plainAttrs_list PySem.F.slot_list_pop PySem.F.type_list_pop mt_popAt (pv 2) (pa_cons (pe_call G_law_below (hr.mono (by decide)) (by rfl) d_law_below.g d_law_below.F.kp d_law_below.b .nil pass0 (pa_cons (pv 0) (pa_cons (pe_callB (c_len K) (by rfl) B.len (by decide +kernel) (pa_cons (pv 2) pa_nil)) pa_nil))) pa_nil))))))), ?_⟩
    walk_at "v"
    refine ⟨p, xs, rfl, hp.sq, fun l hl => ?_⟩
    walk_at "v"
    refine w_rg1 (n := xs.length) (by omega) ?_
    refine lc_by walk_range fun D hD => ⟨fun i H' => ∃ ys zs : List V, H' D = some (.lst ys) ∧ H' l = some (.lst zs) ∧ ys.length = i ∧ zs.length + i = xs.length ∧ (ys ++ zs).Perm xs ∧ StreamAt a b (n + i) H' ∧ Keep [a, b] H H', ?_, fun _ _ _ _ => trivial, ?_, ?_⟩
    · have nlD : l ≠ D := fun z => by rw [z, upd_same] at hD; cases hD
      exact ⟨[], xs, upd_same, by walk_at "h", rfl, rfl, List.Perm.refl _, (hS.new hl).new hD, ((Keep.refl _ _).new' hl).new hD⟩
    · rintro i x H1 H2 hi ⟨ys, zs, h1, h2, e1, e2, pm, st, kp⟩ ⟨rfl, rfl⟩
      have nlD : l ≠ D := fun z => by rw [z, upd_same] at hD; cases hD
      have na := (hS.new hl).na hD
      have nl := hS.na hl
      have nD : D ∉ [a, b] := by simp [na.1, na.2]
      have nL : l ∉ [a, b] := by simp [nl.1, nl.2]
      walk_at "v"
      refine ⟨n + i, zs.length, rfl, by omega, by omega, st, by omega, fun d H3 d0 d1 st3 kp3 => ?_⟩
      walk_at "v"
      obtain ⟨x, _, g2⟩ := atI_of d0 d1
      obtain ⟨j, g0, g1, d2, _⟩ := atI_get g2
      have h3 := kp3 _ _ nL h2
      have h4 := kp3 _ _ nD h1
      refine i_popAt (k := j) h3 (by omega) (by omega) g0 g1 ?_
      refine ⟨ys, h_ne nlD.symm h4, by rw [e1]; exact small1000 (by omega), ys ++ [x], zs.eraseIdx j, upd_same, h_ne nlD upd_same, by simp [e1], ?_, ?_, ?_, ?_⟩
      · rw [List.length_eraseIdx_of_lt d2]; omega
      · refine List.Perm.trans ?_ pm
        rw [List.append_assoc]
        refine
              List.Perm.append_left _ ?_
        exact perm_erase g1
      · have st4 := st3.put (o := .lst (zs.eraseIdx j)) nl.1 nl.2
        exact st4.put na.1 na.2
      · exact ((kp.trans kp3).new' hl).new' (by rw [upd_ne nlD.symm] at hD; exact hD)
    · rintro H' ⟨ys, zs, h1, h2, e1, e2, pm, st, kp⟩
      have hz : zs = [] := List.length_eq_zero_iff.mp (by omega)
      subst hz
      rw [List.append_nil] at pm
      walk_at "v"
      have hD' : H D = none := by
        have nlD : l ≠ D := fun z => by rw [z, upd_same] at hD; cases hD
        rw [upd_ne nlD.symm] at hD; exact hD
      exact k D ys H' pm hD' h1 st kp
def spLot (a b : Addr) : Sp := fun vs H Q _ => ∃ (n : Nat) (p : Addr) (xs : List V) (many : Int), vs = [.ref a, .ref p, .int many] ∧ H p = some (.lst xs) ∧ p ∉ [a, b] ∧ 0 < many ∧ many ≤ 1000000 ∧ xs.length ≤ 1000 ∧ StreamAt a b n H ∧ n < 2 ^ 39 ∧
  ∀ (q : Addr) (ys : List V) H', ys.Sublist xs → H q = none → H' q = some (.lst ys) → StreamAt a b (n + xs.length) H' → Keep [a, b] H H' → Q (.ref q) H'
theorem ok_lot {a b : Addr} (d : Fd K mg "_law_lot" s_law_lot P_law_lot) (d_law_below : FdB K mg) (B : Blt mg) : FnOk P w K mg base CX0 2 d.f d.fd P_law_lot (spLot a b) := by
  have G_law_below : FnOk P w K mg base CX0 1 d_law_below.f d_law_below.fd P_law_below (spBelow a b) := ok_below d_law_below B
  refine d.F.ok sc_law_lot (fun vs H Q E h => ?_) (fun cdv A outer s H vs Q E hr h => ?_)
  · obtain ⟨n, many, xs, _, rfl, _⟩ := h
    rfl
  · obtain ⟨n, p, xs, many, rfl, hp, np, hm0, hm1, hM, hS, hn, k⟩ := h
    refine ⟨_, (pss_one (ps_ret (pe_lc (own := [("thing", 3)]) (g := gName 3) rfl sc_law_lot.nd (w_list K (pv 1)) (blkOk_by (own := [("thing", 3)]) (N := N_law_lot) (sc := defScope s_law_lot) (by decide +kernel)) (fun _ _ _ _ _ => by exact (pg_name (i := 3) sc_law_lot.nd rfl (by first | exact Or.inl rfl | exact Or.inr rfl))) (fun _ _ _ _ _ => by exact (pts_one (pt_cmpR op_eq (pe_call G_law_below (hr.mono (by decide)) (by rfl) d_law_below.g d_law_below.F.kp d_law_below.b .nil pass0 (pa_cons (pv 0) (pa_cons (pv 2) pa_nil))) pe_int (nomark _)))) (fun _ _ _ _ _ => by exact (pv 3))))), ?_⟩
    walk_at "v"
    refine w_lst hp ?_
    refine lc_by (walk_list (xs := xs)) fun D hD => ⟨fun i H' => ∃ ys : List V, H' D = some (.lst ys) ∧ ys.Sublist (xs.take i) ∧ StreamAt a b (n + i) H' ∧ Keep [a, b] H H', ?_, fun i H' _ ⟨ys, _, _, _, kp⟩ => SqL.of (kp _ _ np hp), ?_, ?_⟩
    · exact ⟨[], upd_same, List.nil_sublist _, hS.new hD, (Keep.refl _ _).new' hD⟩
    · rintro i x H1 H2 hi ⟨ys, h1, sb, st, kp⟩ ⟨rfl, hx⟩
      have na := hS.na hD
      have nD : D ∉ [a, b] := by simp [na.1, na.2]
      have ht : xs.take (i + 1) = xs.take i ++ [x] := by rw [List.take_succ, hx]; rfl
      walk_at "v"
      refine ⟨n + i, many, rfl, by omega, by omega, st, by omega, fun d H3 d0 d1 st3 kp3 => ?_⟩
      have h4 := kp3 _ _ nD h1
      walk_at "v"
      refine ifd (fun hc => ?_) (fun hc => ?_)
      · walk_at "v"
        have e3 := sb.length_le
        rw [List.length_take] at e3
        refine ⟨ys, h4, small1000 (by omega), ys ++ [x], upd_same, by rw [ht]; exact sb.append (List.Sublist.refl _), st3.put na.1 na.2, (kp.trans kp3).new' hD⟩
      · exact ⟨ys, h4, by rw [ht]; exact sb.trans (List.sublist_append_left _ _), st3, kp.trans kp3⟩
    · rintro H' ⟨ys, h1, sb, st, kp⟩
      rw [List.take_length] at sb
      walk_at "v"
      exact k D ys H' sb hD h1 st kp
end Lr
set_option Elab.async false
set_option linter.all false
set_option maxRecDepth 100000
set_option maxHeartbeats 4000000
/-! Ve: for n, x in enumerate(list, start=k): the count apart from the place. -/
namespace Lr
open PySem PySem.Spec
      PyProof.Rows L2
/-- the list at a as it stands at each turn, each item in a new pair behind the count k + i -/
def ItK (K : PySem.W.Frag) (k : Int) (a : Addr) : It where
  go := fun i H => ∃ (ys : List V) (y : V), SqL K H a ys ∧ ys[i]? = some y
  yld := fun i H v H' => ∃ T y, v = .ref T ∧ H T = none ∧ H' = upd H T (.tup [.int (k + i), y]) ∧ ∀ ys, SqL K H a ys → ys[i]? = some y
  stop := fun i H => ∃ ys : List V, SqL K H a ys ∧ ys.length = i
theorem turn_enumK {P : Program} {w : World} {K : PySem.W.Frag} {elts : List Expr} {kk : Nat} {tpos : Pos} (k : Int) (a e it : Addr) :
    Turn P w K (.Tuple elts kk tpos) (ItK K k a) [e, it] e (fun i h => (∃ old, IsEnum h e it (k + i) old) ∧ h.IsListIter it a i ∧ e ≠ it ∧ a ≠ it ∧ a ≠ e) := by
  refine ⟨by simp, ?_, ?_, ?_, ?_, ?_⟩
  · intro i h st b hb
    obtain ⟨⟨old, he⟩, ⟨o,
          ho, hc, hd⟩, _⟩ := st
    have z : b = e ∨ b = it := by simpa using hb
    rcases z with rfl | rfl
    · exact ⟨_, he, fun v q => nomatch q⟩
    · exact ⟨o, ho, fun v q => by rw [hd] at q; cases q⟩
  · intro i h h' st kp
    obtain ⟨⟨old, he⟩, hi, r⟩ := st
    exact ⟨⟨old, kp e (by simp) _ he⟩, hi.at (fun o q => kp it (by simp) o q), r⟩
  · intro X hP hw hK hc i pins s σ H E I hf st hg
    subst hP hw hK
    obtain ⟨⟨old, he⟩, hit, hne, hai, hae⟩ := st
    obtain ⟨ys, y, hq, hy⟩ := hg
    obtain ⟨its, rv, p,
          hz⟩ := I.list hq
    obtain ⟨u, hu, ru⟩ := rv.get hy
    have lt1 : e < s.heap.objs.size := Heap.lt_size he
    have lt2 : it < s.heap.objs.size := by obtain ⟨_, q, _⟩ := hit; exact Heap.lt_size q
    have Dr := Draws.list (prog := X.prog) (w := X.w) (A := X.A.in1) (I.ok.hd hc) it a hai its.toArray
    have hlt : i < its.toArray.size := by
      have := (List.getElem?_eq_some_iff.mp hu).1
      simpa using this
    refine wpAny_pyNext_enum_itemC Dr he ⟨hit, p.isList⟩ hlt hne (by simp [hne]; exact fun z => hae z.symm) fun x h' tk hx ho hst hT hsz hk => ?_
    have ex : x = u := by
      have : its[i]? = some x := by simpa using hx
      rw [hu] at this; cases this; rfl
    subst ex
    refine ⟨_, rfl, wpAny_letOwnedTupleGo_enum (s := { s with heap := h', toks := tk + 1 }) ho fun h'' he' sb => ?_⟩
    have hT2 := (sb.2 s.heap.objs.size (Nat.ne_of_gt lt1)).trans hT
    have new : ObjOk X.prog X.w (upd H s.heap.objs.size (.tup [.int (k + i), y])) h'' s.heap.objs.size (.tup [.int (k + i), y]) :=
      ⟨by show 2 ≤ sizeLine; decide, [.int (k + i) tk, x], .cons ⟨_, rfl⟩ (.cons ru .nil), ⟨_, hT2, rfl, _, rfl⟩⟩
    have J : Inv X pins σ (upd H s.heap.objs.size (.tup [.int (k + i), y])) { s with heap := h'', toks := tk + 1 } := by
      refine I.turnedNew (ch := [e, it]) (fun b ob hb q => ?_) hf (Nat.le_refl _) new
      have b1 : b ≠ e := fun z => hb (by simp [z])
      have b2 : b ≠ it := fun z => hb (by simp [z])
      exact (sb.2 b b1).trans (hk b ob b1 b2 q)
    refine ⟨.ref s.heap.objs.size, _, J, rfl, ⟨_, y, rfl, I.hok.fresh (Nat.le_refl _), rfl, fun zs hzs => by rw [I.list_inj hzs hq]; exact hy⟩, ⟨⟨x, ?_⟩, hst.1.at (fun o q => (sb.2 it (Ne.symm hne)).trans q), hne, hai, hae⟩, fun b hb => ?_⟩
    · have ec : k + ((i + 1 : Nat) : Int) = k + i + 1 := by omega
      rw [ec]; exact he'
    · have z : b = e ∨ b = it := by simpa using hb
      have lt : b < s.heap.objs.size := by
        rcases z with rfl | rfl
        · exact lt1
        · exact lt2
      rw [upd_ne (Nat.ne_of_lt lt)]
      exact (hf b hb).1
  · intro X hP hw hK hc i pins s σ H E I hf st hg
    subst hP hw hK
    obtain ⟨⟨old, he⟩, hit, hne, hai, hae⟩ := st
    obtain ⟨ys, hq, hy⟩ := hg
    obtain ⟨its, rv, p,
          hz⟩ := I.list hq
    obtain ⟨f0, f1, f2, f3,
          f4, f5⟩ := hf it (by simp)
    have hl := rv.length
    have Dr := Draws.list (prog := X.prog) (w := X.w) (A := X.A.in1) (I.ok.hd hc) it a hai its.toArray
    have hn : its.toArray.size = i := by simp; omega
    exact wpAny_pyNext_enum_endD Dr he (by rw [hn]; exact ⟨hit, p.isList⟩) fun h' eb => ⟨rfl, I.turned (t' := s.toks) (fun b o hb q => eb b o hb q) f0 f1 f3 f4 f5⟩
  · exact fun A i s Q E st h => let ⟨⟨_, he⟩, _⟩ := st; wpAny_pyIter_enum he h
theorem isTupIter_at {h h' : Heap} {a t : Addr} {i : Nat} (x : h.IsTupleIter a t i) (k : ∀ o, h.get? a = some o → h'.get? a = some o) : h'.IsTupleIter a t i :=
  let ⟨o, ho, r⟩
        := x; ⟨o, k o ho, r⟩
/-- the tuple at a as it stands at each turn, each item in a new pair behind the count k + i -/
def ItKT (K : PySem.W.Frag) (k : Int) (a : Addr) : It where
  go := fun i H => ∃ (ys : List V) (y : V), SqT K H a ys ∧ ys[i]? = some y
  yld := fun i H v H' => ∃ T y, v = .ref T ∧ H T = none ∧ H' = upd H T (.tup [.int (k + i), y]) ∧ ∀ ys, SqT K H a ys → ys[i]? = some y
  stop := fun i H => ∃ ys : List V, SqT K H a ys ∧ ys.length = i
theorem turn_enumT {P : Program} {w : World} {K : PySem.W.Frag} {elts : List Expr} {kk : Nat} {tpos : Pos} (k : Int) (a e it : Addr) :
    Turn P w K (.Tuple elts kk tpos) (ItKT K k a) [e, it] e (fun i h => (∃ old, IsEnum h e it (k + i) old) ∧ h.IsTupleIter it a i ∧ e ≠ it ∧ a ≠ it ∧ a ≠ e) := by
  refine ⟨by simp, ?_, ?_, ?_, ?_, ?_⟩
  · intro i h st b hb
    obtain ⟨⟨old, he⟩, ⟨o,
          ho, hc, hd⟩, _⟩ := st
    have z : b = e ∨ b = it := by simpa using hb
    rcases z with rfl | rfl
    · exact ⟨_, he, fun v q => nomatch q⟩
    · exact ⟨o, ho, fun v q => by rw [hd] at q; cases q⟩
  · intro i h h' st kp
    obtain ⟨⟨old, he⟩, hi, r⟩ := st
    exact ⟨⟨old, kp e (by simp) _ he⟩, hi.at (fun o q => kp it (by simp) o q), r⟩
  · intro X hP hw hK hc i pins s σ H E I hf st hg
    subst hP hw hK
    obtain ⟨⟨old, he⟩, hit, hne, hai, hae⟩ := st
    obtain ⟨ys, y, hq, hy⟩ := hg
    obtain ⟨its, rv, p,
          hz⟩ := I.tuple hq
    obtain ⟨u, hu, ru⟩ := rv.get hy
    have lt1 : e < s.heap.objs.size := Heap.lt_size he
    have lt2 : it < s.heap.objs.size := by obtain ⟨_, q, _⟩ := hit; exact Heap.lt_size q
    have Dr := Draws.tuple (prog := X.prog) (w := X.w) (A := X.A.in1) (I.ok.hd hc) it a hai its.toArray
    have hlt : i < its.toArray.size := by
      have := (List.getElem?_eq_some_iff.mp hu).1
      simpa using this
    refine wpAny_pyNext_enum_itemC Dr he ⟨hit, p⟩ hlt hne (by simp [hne]; exact fun z => hae z.symm) fun x h' tk hx ho hst hT hsz hk => ?_
    have ex : x = u := by
      have : its[i]? = some x := by simpa using hx
      rw [hu] at this; cases this; rfl
    subst ex
    refine ⟨_, rfl, wpAny_letOwnedTupleGo_enum (s := { s with heap := h', toks := tk + 1 }) ho fun h'' he' sb => ?_⟩
    have hT2 := (sb.2 s.heap.objs.size (Nat.ne_of_gt lt1)).trans hT
    have new : ObjOk X.prog X.w (upd H s.heap.objs.size (.tup [.int (k + i), y])) h'' s.heap.objs.size (.tup [.int (k + i), y]) :=
      ⟨by show 2 ≤ sizeLine; decide, [.int (k + i) tk, x], .cons ⟨_, rfl⟩ (.cons ru .nil), ⟨_, hT2, rfl, _, rfl⟩⟩
    have J : Inv X pins σ (upd H s.heap.objs.size (.tup [.int (k + i), y])) { s with heap := h'', toks := tk + 1 } := by
      refine I.turnedNew (ch := [e, it]) (fun b ob hb q => ?_) hf (Nat.le_refl _) new
      have b1 : b ≠ e := fun z => hb (by simp [z])
      have b2 : b ≠ it := fun z => hb (by simp [z])
      exact (sb.2 b b1).trans (hk b ob b1 b2 q)
    refine ⟨.ref s.heap.objs.size, _, J, rfl, ⟨_, y, rfl, I.hok.fresh (Nat.le_refl _), rfl, fun zs hzs => by rw [I.tuple_inj hzs hq]; exact hy⟩, ⟨⟨x, ?_⟩, isTupIter_at hst.1 (fun o q => (sb.2 it (Ne.symm hne)).trans q), hne, hai, hae⟩, fun b hb => ?_⟩
    · have ec : k + ((i + 1 : Nat) : Int) = k + i + 1 := by omega
      rw [ec]; exact he'
    · have z : b = e ∨ b = it := by simpa using hb
      have lt : b < s.heap.objs.size := by
        rcases z with rfl | rfl
        · exact lt1
        · exact lt2
      rw [upd_ne (Nat.ne_of_lt lt)]
      exact (hf b hb).1
  · intro X hP hw hK hc i pins s σ H E I hf st hg
    subst hP hw hK
    obtain ⟨⟨old, he⟩, hit, hne, hai, hae⟩ := st
    obtain ⟨ys, hq, hy⟩ := hg
    obtain ⟨its, rv, p,
          hz⟩ := I.tuple hq
    obtain ⟨f0, f1, f2, f3,
          f4, f5⟩ := hf it (by simp)
    have hl := rv.length
    have Dr := Draws.tuple (prog := X.prog) (w := X.w) (A := X.A.in1) (I.ok.hd hc) it a hai its.toArray
    have hn : its.toArray.size = i := by simp; omega
    exact wpAny_pyNext_enum_endD Dr he (by rw [hn]; exact ⟨hit, p⟩) fun h' eb => ⟨rfl, I.turned (t' := s.toks) (fun b o hb q => eb b o hb q) f0 f1 f3 f4 f5⟩
  · exact fun A i s Q E st h => let ⟨⟨_, he⟩, _⟩ := st; wpAny_pyIter_enum he h
theorem callWith_typeK {M : Model} {A : Around} {E : Value → Shared → Prop} {s : Shared} {env : Env} {pos : Pos} {T : String} {e : Expr} {kws : List Keyword} {Q : Value → Shared → Prop}
    (h : wpAny M A (spliced (backTo pos (starEach [e] env))) (fun vs s₁ => wpAny M A (evalAll ((backToKw pos (keywordEach kws env)).map (·.2)))
      (fun ks s₂ => wpAny M A (call (.type T) vs (((backToKw pos (keywordEach kws env)).filterMap (·.1)).zip ks)) Q E s₂) E s₁) E s)
    (he : backTo pos (starEach [e] env) = (false, eval e env) :: backTo pos (starEach [] env)) (hpl : (backTo pos (starEach [e] env)).any (·.1) = false)
    (hall : (backToKw pos (keywordEach kws env)).all (·.1.isSome) = true) (hkw : (backToKw pos (keywordEach kws env)).any (·.1.isNone) = false) :
    wpAny M A (callWith pos (.type T) [] (backTo pos (starEach [e] env)) (backToKw pos (keywordEach kws env))) Q E s := by
  have z : wpAny M A (evalArgs (.type T) true (backTo pos (starEach [e] env)) (backToKw pos (keywordEach kws env))) (fun a s₁ => wpAny M A (call (.type T) ([] ++ a.pos) a.kw) Q E s₁) E s := by
    rw [he] at h ⊢
    exact evalArgs_kwB hall h
  unfold callWith
  refine wpAny_bind (wpAny_holding (wpAny_mono z (fun a s₁ h₁ => ?_) fun _ _ x => x))
  refine wpAny_bind
        (wpAny_standAt ?_)
  simp only [hpl, hkw, Bool.or_false]
  refine wpAny_bind
        (wpAny_pure ?_)
  refine wpAny_bind (wpAny_mono h₁ (fun r s₂ hr => ?_) fun _ _ x => x)
  exact wpAny_bind (wpAny_holding (wpAny_point (wpAny_pure hr)))
def iEnumK (K : PySem.W.Frag) (k : Int) (ta : TA) : TI := fun σ H R => ta σ H fun vs H1 => ∃ a xs, vs = [.ref a] ∧ SqL K H1 a xs ∧ R (ItK K k a) H1
theorem w_enumK {X : Cx} (K : PySem.W.Frag) {e : Expr} {ta : TA} {p pos tpos kp cp : Pos} {j : Nat} {k : Int} {elts : List Expr} {kk : Nat} (hg : Gl X "enumerate") (hm : X.mg "enumerate" = none) (ha : PA X [e] ta) (hk0 : -(2 ^ 63) ≤ k) (hk1 : k < 2 ^ 63)
    (hs : starEach [e] X.env = [(false, eval e X.env)] := by rfl) (hK : X.K = K := by rfl) :
    PI X (.Tuple elts kk tpos) (.Call (.Name "enumerate" p) [e] [⟨some "start", .Constant (.int k) j cp, kp⟩] pos) (iEnumK K k ta) := by
  subst hK
  refine ⟨fun pins
        s σ H R I h => ?_⟩
  refine wpAny_Call_Name_kw (ld_blt I hg hm boot_enumerate ?_)
  refine callWith_typeK (thn (ha.run pos pins s σ H _ I h) fun us s1 ⟨vs, H1, I1, r1, q1⟩ => ?_) (by rw [hs]; rfl) (by rw [hs]; rfl) rfl rfl
  obtain ⟨a, xs,
        ex, hq, q⟩ := q1
  subst ex
  refine kws_cons (wpAny_Constant_int (kws_nil ?_))
  cases r1 with
  | cons r rr =>
    cases rr
    cases r
    obtain ⟨its, rv, p',
          hz⟩ := I1.list hq
    have hal : a < s1.heap.objs.size := by obtain ⟨o, ho, _⟩ := p'.isList; exact Heap.lt_size ho
    refine enum_begins_start (s := { s1 with toks := s1.toks + 1 }) (begins_list a its.toArray) p'.isList hk0 hk1 fun h' he hit hsz hk => wpAny_pyIter_enum he ?_
    have I2 : Inv X pins σ H1 { s1 with heap := h', toks := s1.toks + 1 } := I1.kept (t' := s1.toks + 1) hk
    refine ⟨s1.heap.objs.size + 1, [s1.heap.objs.size + 1, s1.heap.objs.size], _, _, H1, rfl, I2, turn_enumK k a (s1.heap.objs.size + 1) s1.heap.objs.size, ⟨⟨.none, by simpa using he⟩, ⟨_, hit, rfl, rfl⟩, Nat.succ_ne_self _, Nat.ne_of_lt hal, Nat.ne_of_lt (Nat.lt_succ_of_lt hal)⟩, fun b hb => ?_, q⟩
    have z : b = s1.heap.objs.size + 1 ∨ b = s1.heap.objs.size := by simpa using hb
    have le : s1.heap.objs.size ≤ b := by rcases z with rfl | rfl <;> omega
    exact I1.fpOk le (I1.hok.fresh le)
theorem walk_enumK {K : PySem.W.Frag} {k : Int} {a : Addr} {xs : List V} : Walk (ItK K k a) xs.length (fun H => SqL K H a xs) (YPair (fun i => some (.int (k + (i : Nat)))) (fun i => xs[i]?)) := by
  refine ⟨fun i _ hi q => ⟨xs, xs[i], q, by simp [hi]⟩, fun _ q => ⟨xs, q, rfl⟩, fun i H v H' _ q y => ?_⟩
  obtain ⟨T, x, h1,
        h2, h3, h4⟩ := y
  exact ⟨T, _, x, h1, h2, h3, rfl, h4 xs q⟩
section
variable {K : PySem.W.Frag} {σ : L2.St} {H : Hp} {tl : TA} {R : It → Hp → Prop}
theorem i_iEK {k : Int} (h : tl σ H fun vs H1 => ∃ a xs, vs = [.ref a] ∧ SqL K H1 a xs ∧ R (ItK K k a) H1) : iEnumK K k tl σ H R := h
end
theorem walk_enumT {K : PySem.W.Frag} {k : Int} {a : Addr} {xs : List V} : Walk (ItKT K k a) xs.length (fun H => SqT K H a xs) (YPair (fun i => some (.int (k + (i : Nat)))) (fun i => xs[i]?)) := by
  refine ⟨fun i _ hi q => ⟨xs, xs[i], q, by simp [hi]⟩, fun _ q => ⟨xs, q, rfl⟩, fun i H v H' _ q y => ?_⟩
  obtain ⟨T, x, h1,
        h2, h3, h4⟩ := y
  exact ⟨T, _, x, h1, h2, h3, rfl, h4 xs q⟩
/-- enumerate(v) begins: its two new cells -/
theorem meets_enum1 {v : Value} {o : Obj} {H : Heap → Prop} (B : Begins v o H) :
    Meets (Builtin.«enumerate.__new__» ⟨[.type "enumerate", v], []⟩) (fun _ R s => H s.heap ∧
      R (.ok (.ret (.ref (s.heap.push o).objs.size))) { s with heap := (s.heap.push o).push { cls := .type "enumerate", data := .fields #[.none, .bool false, .ref s.heap.objs.size, rawInt 0, .none, .none] } }) :=
  .of_wp fun prog
        w A R s h => by
    obtain ⟨hp, g,
          d, tk, os⟩ := s
    obtain ⟨h1, h⟩ := h
    have sub := sub_enumerate
    have step : ∀ {A' : Around} {E : Value → Shared → Prop} {Q : Value → Shared → Prop}, Q (.ref hp.objs.size) ⟨hp.push o, g, d, tk, os⟩ → wpAny (model prog w) A' (pyIter v) Q E ⟨hp, g, d, tk, os⟩ :=
      fun q => B.iter prog w _ _
            ⟨hp, g, d, tk, os⟩ _ h1 q
    wp_walk using step
    refine wpAny_stack_any
          fun st => wpAny_pure ?_
    split
    · rename_i c _ _ _ _ _
      cases (c == Value.type "enumerate") <;> (wp_walk using step; exact ⟨_, rfl, h⟩)
    · wp_walk using step
      exact ⟨_, rfl, h⟩
section
variable {prog : Program} {w : World} {A :
      Around} {E : Value → Shared → Prop} {s : Shared}
theorem enum_begin1 {v : Value} {o : Obj} {H : Heap → Prop} {Q : Value → Shared → Prop} (B : Begins v o H) (h1 : H s.heap)
    (h : ∀ h', IsEnum h' (s.heap.objs.size + 1) s.heap.objs.size 0 .none → h'.get? s.heap.objs.size = some o → (∀ b o, s.heap.get? b = some o → h'.get? b = some o) → Q (.ref (s.heap.objs.size + 1)) { s with heap := h' }) :
    wpAny (model prog w) A (call (.type "enumerate") [v]) Q E s := by
  refine callType_new F.called_enumerate (by decide) (F.typeCall_enumerate_1 _) (F.newCall_enumerate_1 _) (fun obj => F.args_object_init_2 obj _) F.entry_enumerate_new (meets_enum1 B) ⟨h1, ?_⟩
  have sz : (s.heap.push o).objs.size = s.heap.objs.size + 1 := Heap.size_push ..
  show _ ∧ _
  rw [sz]
  have he : IsEnum ((s.heap.push o).push { cls := .type "enumerate", data := .fields #[.none, .bool false, .ref s.heap.objs.size, rawInt 0, .none, .none] }) (s.heap.objs.size + 1) s.heap.objs.size 0 .none := by
    have q := Heap.get?_push_size (s.heap.push o) (o := { cls := .type "enumerate", data := .fields #[.none, .bool false, .ref s.heap.objs.size, rawInt 0, .none, .none] }) rfl
    rw [sz] at q
    exact q
  exact ⟨⟨_, he, rfl⟩, h _ he (Heap.get?_push_of_some _ (Heap.get?_push_size _ B.free)) fun b o x => Heap.get?_push_of_some _ (Heap.get?_push_of_some _ x)⟩
end
def iEnumQ (K : PySem.W.Frag) (ta : TA) : TI := fun σ H R => ta σ H fun vs H1 => ∃ (a : Addr) (xs : List V) (o : HO), vs = [.ref a] ∧ (o = .lst xs ∨ o = .tup xs) ∧ H1 a = some o ∧
  ∀ J, Walk J xs.length (fun H => H a = some o) (YPair (fun i => some (.int ((0 : Int) + (i : Nat)))) (fun i => xs[i]?)) → R J H1
theorem w_enumQ {X : Cx} (K : PySem.W.Frag) {e : Expr} {ta : TA} {p pos tpos : Pos} {elts : List Expr} {kk : Nat} (hg : Gl X "enumerate") (hm : X.mg "enumerate" = none) (ha : PA X [e] ta)
    (hs : starEach [e] X.env = [(false, eval e X.env)] := by rfl) (hK : X.K = K := by rfl) :
    PI X (.Tuple elts kk tpos) (.Call (.Name "enumerate" p) [e] [] pos) (iEnumQ K ta) := by
  subst hK
  refine ⟨fun pins
        s σ H R I h => ?_⟩
  refine Call_ (ld_blt I hg hm boot_enumerate (PyProof.Rows.callWith_type1 (thn
        (ha.run pos pins s σ H _ I h) fun us s1 ⟨vs, H1, I1, r1, q1⟩ => ?_) hs rfl))
  obtain ⟨a, xs, ob, ex, hob, hat, qf⟩ := q1
  subst ex
  have q1 : (SqL X.K H1 a xs ∧ R (ItK X.K 0 a) H1) ∨ (SqT X.K H1 a xs ∧ R (ItKT X.K 0 a) H1) := by
    rcases hob with rfl | rfl
    · exact .inl ⟨SqL.of hat, qf _ (walk_enumK.mono (fun _ z => SqL.of z) fun _ _ _ _ _ _ y => y)⟩
    · exact .inr ⟨SqT.of hat, qf _ (walk_enumT.mono (fun _ z => SqT.of z) fun _ _ _ _ _ _ y => y)⟩
  cases r1 with
  | cons r rr =>
    cases rr
    cases r
    have new : ∀ b ∈ [s1.heap.objs.size + 1, s1.heap.objs.size], s1.heap.objs.size ≤ b := fun b hb => by
      have z : b = s1.heap.objs.size + 1 ∨ b = s1.heap.objs.size := by simpa using hb
      rcases z with rfl | rfl <;> omega
    rcases q1 with ⟨hq, q⟩ | ⟨hq, q⟩
    · obtain ⟨its, rv, pl, hz⟩ := I1.list hq
      have lt : a < s1.heap.objs.size := by obtain ⟨o, ho, _⟩ := pl.isList; exact Heap.lt_size ho
      refine enum_begin1 (begins_list a its.toArray) pl.isList fun h' he hit hk => wpAny_pyIter_enum he ?_
      have J : Inv X pins σ H1 { s1 with heap := h' } := I1.kept (t' := s1.toks) hk
      exact ⟨s1.heap.objs.size + 1, [s1.heap.objs.size + 1, s1.heap.objs.size], _, _, H1, rfl, J, turn_enumK 0 a (s1.heap.objs.size + 1) s1.heap.objs.size,
        ⟨⟨.none, by simpa using he⟩, ⟨_, hit, rfl, rfl⟩, Nat.succ_ne_self _, Nat.ne_of_lt lt, Nat.ne_of_lt (Nat.lt_succ_of_lt lt)⟩, fun b hb => I1.fpOk (new b hb) (I1.hok.fresh (new b hb)), q⟩
    · obtain ⟨its, rv, pl, hz⟩ := I1.tuple hq
      have lt : a < s1.heap.objs.size := by obtain ⟨o, ho, _⟩ := pl; exact Heap.lt_size ho
      refine enum_begin1 (begins_tuple a its.toArray) pl fun h' he hit hk => wpAny_pyIter_enum he ?_
      have J : Inv X pins σ H1 { s1 with heap := h' } := I1.kept (t' := s1.toks) hk
      exact ⟨s1.heap.objs.size + 1, [s1.heap.objs.size + 1, s1.heap.objs.size], _, _, H1, rfl, J, turn_enumT 0 a (s1.heap.objs.size + 1) s1.heap.objs.size,
        ⟨⟨.none, by simpa using he⟩, ⟨_, hit, rfl, rfl⟩, Nat.succ_ne_self _, Nat.ne_of_lt lt, Nat.ne_of_lt (Nat.lt_succ_of_lt lt)⟩, fun b hb => I1.fpOk (new b hb) (I1.hok.fresh (new b hb)), q⟩
section
variable {K : PySem.W.Frag} {σ : L2.St} {H : Hp} {tl : TA} {R : It → Hp → Prop}
theorem i_iEQ (h : tl σ H fun vs H1 => ∃ (a : Addr) (xs : List V) (o : HO), vs = [.ref a] ∧ (o = .lst xs ∨ o = .tup xs) ∧ H1 a = some o ∧ ∀ J, Walk J xs.length (fun H => H a = some o) (YPair (fun i => some (.int ((0 : Int) + (i : Nat)))) (fun i => xs[i]?)) → R J H1) : iEnumQ K tl σ H R := h
end
end Lr
set_option Elab.async false
set_option linter.all false
set_option maxRecDepth 100000
set_option maxHeartbeats 4000000
/-! Vk: what kind a datum is; names. -/
namespace Lr
open PySem PySem.Spec
      PyProof.Rows L2
def ptype : PyData → String
  | .none => "NoneType" | .bool _ => "bool" | .int _ => "int" | .str _
        => "str" | .list _ => "list" | .tuple _ => "tuple" | .dict _ => "dict"
def isK (c : String) (d : PyData) : Bool := ptype d == c || (c == "int" && ptype d == "bool")
section
variable {K : PySem.W.Frag} {S : List Addr} {H : Hp} {Q : VK}
theorem Dt.tyx : ∀ {d : PyData} {v : V}, Dt S H d v → TyX K H v (.type (ptype d))
  | .none, _, h => by unfold Dt at h; subst h; exact .base .non
  | .bool b, _, h => by unfold Dt at h; subst h; exact .base (.bl b)
  | .int i, _, h => by unfold Dt at h; subst h; exact .base (.int i)
  | .str x, _, h => by unfold Dt at h; subst h; exact .base (.str x)
  | .list ds, _, h => by
    unfold Dt at h
    obtain ⟨a, xs, rfl, n, q, z⟩ := h
    exact .base (.lst q)
  | .tuple ds, _, h => by
    unfold Dt at h
    obtain ⟨a, xs, rfl, n, q, z⟩ := h
    exact .base (.tup q)
  | .dict _, _, h => by unfold Dt at h; exact h.elim
theorem kit_all : ∀ t ∈ ["NoneType", "bool", "int", "str", "list", "tuple", "dict"], ∀ c ∈ ["int", "bool", "str", "list", "tuple", "dict"], kitB t c = some (t == c || (c == "int" && t == "bool")) := by decide +kernel
theorem ptype_mem (d : PyData) : ptype d ∈ ["NoneType", "bool", "int", "str", "list", "tuple", "dict"] := by cases d <;> simp [ptype]
theorem kit_isK (c : String) (hc : c ∈ ["int", "bool", "str", "list", "tuple", "dict"]) (d : PyData) : kitB (ptype d) c = some (isK c d) := kit_all _ (ptype_mem d) c hc
theorem i_isi {d : PyData} {v : V} {c : String} (h : Dt S H d v) (hc : c ∈ ["int", "bool", "str", "list", "tuple", "dict"]) (q : Q (.bl (isK c d)) H) : rIsi K [v, .ty c] H Q :=
  ⟨v, .ty c, .type (ptype d), .type c, isK c d, rfl, .ty c, h.tyx, kit_ty (kit_isK c hc d), q⟩
theorem i_isLT {d : PyData} {v : V} {tp : Addr} (h : Dt S H d v) (ht : H tp = some (.tup [.ty "list", .ty "tuple"])) (q : Q (.bl (isK "list" d || isK "tuple" d)) H) : rIsiT K [v, .ref tp] H Q := by
  refine ⟨v, tp, [.ty "list", .ty "tuple"], .type (ptype d), [.type "list", .type "tuple"], isK "list" d || isK "tuple" d, rfl, ht, .cons (.ty _) (.cons (.ty _) .nil), h.tyx, ?_, q⟩
  have e1 : PySem.W.kitOne K (.type (ptype d)) (.type "list") = some (isK "list" d) := kit_ty (kit_isK "list" (by simp) d)
  have e2 : PySem.W.kitOne K (.type (ptype d)) (.type "tuple") = some (isK "tuple" d) := kit_ty (kit_isK "tuple" (by simp) d)
  cases a1 : isK "list" d <;> cases a2 : isK "tuple" d <;> simp [PySem.W.kitAny, e1, e2, a1, a2]
end
/-! ### names -/
abbrev LET : Str := "abcdefghijklmnopqrstuvwxyz"
abbrev FIG : Str := "0123456789"
def letB (c : Nat) : Bool := decide (c ∈ LET.cps.toList)
def figB (c : Nat) : Bool := decide (c ∈ FIG.cps.toList)
def nameB (z : Str) : Bool := decide (1 ≤ z.length) && decide (z.length ≤ 8) && z.cps.toList.all (fun c => letB c || figB c) && (match z.cps.toList with | [] => false | c :: _ => letB c)
def nameD : PyData → Bool
  | .str z => nameB z
  | _ => false
def strD : PyData → Str
  | .str z => z
  | _ => Str.empty
theorem nameD_str {d : PyData} (h : nameD d = true) : d = .str (strD d) := by
  cases d <;> simp [nameD, strD] at h ⊢
/-- the texts of a row of names, if it is one -/
def namesD : PyData → Option (List Str)
  | .list ds => if ds.all nameD = true ∧ (ds.map strD).Nodup then some (ds.map strD) else none
  | .tuple ds => if ds.all nameD = true ∧ (ds.map strD).Nodup then some (ds.map strD) else none
  | _ => none
theorem nameB_len {z : Str} (h : nameB z = true) : 1 ≤ z.length ∧ z.length ≤ 8 := by
  simp only [nameB, Bool.and_eq_true, decide_eq_true_eq] at h
  exact ⟨h.1.1.1, h.1.1.2⟩
end Lr
set_option Elab.async false
set_option linter.all false
set_option maxRecDepth 100000
set_option maxHeartbeats 4000000
namespace Lr
open PySem PySem.Spec
      PyProof.Rows L2
local macro_rules | `(tactic| walk_at "ne") => `(tactic| (first | assumption | (refine ne_sym ?_; assumption) | (exact ne_of_none (by assumption) (by assumption)) | (exact ne_sym (ne_of_none (by assumption) (by assumption)))))
local macro_rules | `(tactic| walk_at "h") => `(tactic| (first | assumption | exact upd_same | (refine h_new ?_ (by assumption); walk_at "h") | (refine h_ne (by walk_at "ne") ?_; walk_at "h")))
local macro_rules | `(tactic| walk_at "v1") => `(tactic| (with_reducible first
  | refine i_seq ?_ | refine i_asg ?_ | refine i_ret ?_ | refine i_next ?_ | refine i_drop ?_ | refine i_ifS ?_ | refine i_if ?_ | refine i_and ?_ | refine i_or ?_ | refine i_not ?_ | refine i_test ?_ | refine i_tB ?_ | refine i_bl ?_ | refine i_yes ?_
  | refine i_op ?_ | refine i_un ?_ | refine i_chain ?_ | refine i_andV ?_ | refine i_orV ?_ | refine i_notV ?_ | refine i_cb ?_ | refine i_cons ?_ | refine i_nil ?_ | refine i_bm ?_ | refine i_bm0 ?_ | refine i_c ?_ | refine i_name ?_ | refine i_sub ?_
  | refine i_call ?_ | refine i_lst ?_ | refine i_tup ?_ | refine i_par ?_ | refine i_par2 ?_ | refine i_sl ?_ | refine i_np ?_ | refine i_pt ?_ | refine i_int ?_ | refine i_m0 ?_ | refine i_m1 ?_ | refine i_isS ?_
  | refine i_rI0 ?_ | refine i_inSign ?_ | refine i_notInSign ?_ | refine i_int1 ?_ | refine i_tru ?_ | refine i_isN ?_ | refine i_notN ?_ | refine iteT ?_ | refine iteF ?_ | refine i_brk ?_ | refine i_rt ?_ | refine i_nx ?_ | refine i_bk ?_ | refine i_ct ?_ | refine i_for ?_ | refine i_lc ?_ | refine i_dc ?_ | refine i_iL ?_ | refine i_iT ?_ | refine i_iR1 ?_ | refine i_iR2 ?_ | refine i_iS ?_ | refine i_iE ?_ | refine i_iEK ?_ | refine i_iEQ ?_ | refine i_dget ?_ | refine i_fld ?_ | refine i_sfld ?_ | refine i_dput ?_ | refine i_meth ?_ | refine i_rU ?_ | refine i_cont ?_ | refine i_make ?_))
local macro_rules | `(tactic| walk_at "v2") => `(tactic| (first
  | ((with_reducible refine' i_var ?k1 ?_); (case k1 => exact rfl))
  | ((with_reducible refine' i_eq ?k1 ?_); (case k1 => exact rfl))
  | ((with_reducible refine' i_ne ?k1 ?_); (case k1 => exact rfl))
  | ((with_reducible refine' i_ixL ?k1 ?k2 ?_); (case k1 => walk_at "h"); (case k2 => exact rfl))
  | ((with_reducible refine' i_ixT ?k1 ?k2 ?_); (case k1 => walk_at "h"); (case k2 => exact rfl))
  | ((with_reducible refine' i_lenL ?k1 ?_); (case k1 => walk_at "h"))
  | ((with_reducible refine' i_lenT ?k1 ?_); (case k1 => walk_at "h"))
  | (refine i_wipe (show wipe _ _ = wipe _ _ from rfl) ?_)
  | ((with_reducible refine' i_setL ?k1 ?k2 ?_); (case k1 => walk_at "h"); (case k2 => exact rfl))
  | ((with_reducible refine' i_tyl ?k1 ?_); (case k1 => walk_at "h"))))
local macro_rules | `(tactic| walk_at "v") => `(tactic| repeat (first | walk_at "v1" | walk_at "v2"))

variable {P : Program} {w : World} {K :
      PySem.W.Frag} {mg : Str → Option Value} {base : Heap}
abbrev sis_between : Stmt := top 10
abbrev Nis_between : List Str := ["thing", "low", "high"]
abbrev Pis_between : List Str := ["thing", "low", "high"]
theorem scis_between : FnScope Nis_between Pis_between (defScope sis_between) := ⟨rfl, rfl, rfl, by decide +kernel, rfl, by decide +kernel, by decide +kernel⟩
abbrev sis_name : Stmt := top 11
abbrev Nis_name : List Str := ["thing", "sign"]
abbrev Pis_name : List Str := ["thing"]
theorem scis_name : FnScope Nis_name Pis_name (defScope sis_name) := ⟨rfl, rfl, rfl, by decide +kernel, rfl, by decide +kernel, by decide +kernel⟩
abbrev snames_of : Stmt := top 12
abbrev Nnames_of : List Str := ["thing", "found", "one"]
abbrev Pnames_of : List Str := ["thing"]
theorem scnames_of : FnScope Nnames_of Pnames_of (defScope snames_of) := ⟨rfl, rfl, rfl, by decide +kernel, rfl, by decide +kernel, by decide +kernel⟩
def betweenD (d : PyData) (lo hi : Int) : Bool := match d with | .int i => decide (lo ≤ i) && decide (i ≤ hi) | _ => false
def spBetween : Sp := fun vs H Q _ => ∃ (S : List Addr) (d : PyData) (v : V) (lo hi : Int), vs = [v, .int lo, .int hi] ∧ Dt S H d v ∧ Q (.bl (betweenD d lo hi)) H
theorem ok_between (d : Fd K mg "is_between" sis_between Pis_between) (B : Blt mg) : FnOk P w K mg base CX0 1 d.f d.fd Pis_between spBetween := by
  refine d.F.ok scis_between (fun vs H Q E h => ?_) (fun cdv A outer s H vs Q E hr h => ?_)
  · obtain ⟨S, d, v, lo, hi, rfl, _⟩ := h
    rfl
  · obtain ⟨S, d, v, lo, hi, rfl, hd, k⟩ := h
    refine ⟨_, (pss_one (ps_ret (pe_and (pe_callB (c_isi K) (by rfl) B.isinstance (by decide +kernel) (pa_cons (pv 0) (pa_cons (e_ty "int" B.int (by decide +kernel)) pa_nil))) (pe_and (pe_not (pe_callB (c_isi K) (by rfl) B.isinstance (by decide +kernel) (pa_cons (pv 0) (pa_cons (e_ty "bool" B.bool (by decide +kernel)) pa_nil)))) (pe_one (pe_chain op_le op_le (pv 1) (pv 0) (pv 2))))))), ?_⟩
    walk_at "v"
    refine i_isi hd (by simp) ?_
    walk_at "v"
    cases d with
    | int i =>
      unfold Dt at hd; subst hd
      refine ifb (fun _ => ?_) (fun z => by cases z)
      walk_at "v"
      refine i_isi (d := .int i) (S := []) (by unfold Dt; rfl) (by simp) ?_
      walk_at "v"
      refine ifb (fun _ => ?_) (fun z => by cases z)
      walk_at "v"
      refine ifd (fun h1 => ?_) (fun h1 => ?_)
      · walk_at "v"
        have e : betweenD (.int i) lo hi = decide (i ≤ hi) := by simp [betweenD, h1]
        rw [e] at k; exact k
      · have e : betweenD (.int i) lo hi = false := by simp [betweenD, h1]
        rw [e] at k; exact k
    | bool b =>
      unfold Dt at hd; subst hd
      refine ifb (fun _ => ?_) (fun z => by cases z)
      walk_at "v"
      refine i_isi (d := .bool b) (S := []) (by unfold Dt; rfl) (by simp) ?_
      walk_at "v"
      refine ifb (fun z => by cases z) (fun _ => k)
    | _ => exact ifb (fun z => by cases z) (fun _ => k)
def spIsName : Sp := fun vs H Q _ => ∃ (S : List Addr) (d : PyData) (v : V), vs = [v] ∧ Dt S H d v ∧ (strD d).length ≤ 1000000 ∧ Q (.bl (nameD d)) H
theorem size_le {z : Str} (h : z.length ≤ 1000000) : z.length ≤ sizeLine := Nat.le_trans h (by decide)
theorem ok_isname (d : Fd K mg "is_name" sis_name Pis_name) (B : Blt mg) : FnOk P w K mg base CX0 1 d.f d.fd Pis_name spIsName := by
  refine d.F.ok scis_name (fun vs H Q E h => ?_) (fun cdv A outer s H vs Q E hr h => ?_)
  · obtain ⟨S, d, v, rfl, _⟩ := h
    rfl
  · obtain ⟨S, d, v, rfl, hd, hz, k⟩ := h
    refine ⟨_, (pss_cons (ps_if (PW.pt (pw_or (pt_not (pt_val (pe_callB (c_isi K) (by rfl) B.isinstance (by decide +kernel) (pa_cons (pv 0) (pa_cons (e_ty "str" B.str (by decide +kernel)) pa_nil))))) (pw_or1 (pt_not (pt_chain op_le op_le pe_int (pe_callB c_lenS (by rfl) B.len (by decide +kernel) (pa_cons (pv 0) pa_nil)) pe_int))))) (pss_one (ps_ret pe_bl)) pss_nil)
      (pss_cons (ps_for PassesOwn.never rfl (pi_str (pv 0)) (pg_name (i := 1) scis_name.nd rfl (by first | exact Or.inl rfl | exact Or.inr rfl))
      (pss_one (ps_if (PW.pt (pw_and (pt_cmpR o_notInSign (pv 1) (e_glob B.gLETTERS) (by rfl)) (pw_and1 (pt_cmpR o_notInSign (pv 1) (e_glob B.gFIGURES) (by rfl))))) (pss_one (ps_ret pe_bl)) pss_nil)))
      (pss_one (ps_ret (pe_cmpR o_inSign (pe_ix ix_str (pv 0) pe_int (fun _ _ => rfl)) (e_glob B.gLETTERS) (by rfl)))))), ?_⟩
    walk_at "v"
    refine i_isi hd (by simp) ?_
    walk_at "v"
    by_cases hs : isK "str" d = true
    · obtain ⟨z, rfl⟩ : ∃ z, d = .str z := by cases d <;> simp [isK, ptype] at hs ⊢
      unfold Dt at hd; subst hd
      have hz' : z.length ≤ 1000000 := hz
      rw [hs]
      refine iteF ?_
      walk_at "v"
      refine i_lenS (size_le hz') ?_
      walk_at "v"
      have nn : nameD (.str z) = nameB z := rfl
      refine ifd (fun h1 => ?_) (fun h1 => ?_)
      · walk_at "v"
        refine ifn (fun h2 => ?_) (fun h2 => ?_)
        · walk_at "v"
          rw [nn] at k
          have e : nameB z = false := by simp [nameB]; intro _ h; omega
          rw [e] at k; exact k
        · walk_at "v"
          refine w_str ?_
          refine for_by walk_str ⟨fun i σ H' => (∃ v, σ = [some (.str z), v]) ∧ H' = H ∧ ∀ j c, j < i → z.cps[j]? = some c → (letB c || figB c) = true, ?_, fun _ _ _ _ _ => trivial, ?_, ?_⟩
          · exact ⟨⟨none, rfl⟩, rfl, fun j c h => absurd h (Nat.not_lt_zero _)⟩
          · rintro i x σ H1 H2 hi ⟨⟨v, rfl⟩, rfl, ok⟩ ⟨rfl, c, hc, rfl⟩
            walk_at "v"
            refine ifn (fun h3 => ?_) (fun h3 => ?_)
            · walk_at "v"
              refine ifn (fun h4 => ?_) (fun h4 => ?_)
              · walk_at "v"
                rw [nn] at k
                have e : nameB z = false := by
                  have hm : c ∈ z.cps.toList := List.mem_of_getElem? (by simpa using hc)
                  have hb : (letB c || figB c) = false := by simp [letB, figB, h3, h4]
                  have ha : z.cps.toList.all (fun c => letB c || figB c) = false := by
                    rw [List.all_eq_false]; exact ⟨c, hm, by simp [hb]⟩
                  simp [nameB, ha]
                rw [e] at k; exact k
              · walk_at "v"
                refine ⟨⟨_, rfl⟩, rfl, fun j d hj hd => ?_⟩
                rcases Nat.lt_or_ge
                      j i with h | h
                · exact ok j d h hd
                · have ej : j = i := by omega
                  subst ej; rw [hc] at hd; cases hd
                  simp [figB, h4]
            · walk_at "v"
              refine ⟨⟨_, rfl⟩, rfl, fun j d hj hd => ?_⟩
              rcases Nat.lt_or_ge
                    j i with h | h
              · exact ok j d h hd
              · have ej : j = i := by omega
                subst ej; rw [hc] at hd; cases hd
                simp [letB, h3]
          · rintro σ H1 ⟨⟨v, rfl⟩, rfl, ok⟩
            have ha : z.cps.toList.all (fun c => letB c || figB c) = true := by
              rw [List.all_eq_true]
              intro c hc
              obtain ⟨j, hj, e⟩ := List.getElem_of_mem hc
              exact ok j c (by simpa using hj) (by rw [← e]; simp)
            obtain ⟨c, r, ec⟩ : ∃ c r, z.cps.toList = c :: r := by
              cases e : z.cps.toList with
              | nil => have : z.length = 0 := by show z.cps.size = 0; rw [← Array.length_toList, e]; rfl
                       omega
              | cons c r => exact ⟨c, r, rfl⟩
            walk_at "v"
            refine i_ixS (c := c) (size_le hz') (by rw [ec]; exact atI_nat (j := 0) rfl) ?_
            walk_at "v"
            rw [nn] at k
            have e : nameB z = decide (c ∈ LET.cps.toList) := by
              unfold nameB; rw [ha, ec]; simp [letB]; omega
            rw [e] at k; exact k
      · walk_at "v"
        rw [nn] at k
        have e : nameB z = false := by simp [nameB]; omega
        rw [e] at k; exact k
    · have e : nameD d = false := by cases d <;> simp [isK, ptype, nameD] at hs ⊢
      simp only [Bool.not_eq_true] at hs
      rw [hs]
      refine iteT ?_
      walk_at "v"
      rw [e] at k; exact k
abbrev FdIsName (K : PySem.W.Frag) (mg : Str → Option Value) := Fd K mg "is_name" sis_name Pis_name
def kids : PyData → List PyData
  | .list ds => ds
  | .tuple ds => ds
  | _ => []
def spNamesOf : Sp := fun vs H Q _ => ∃ (S : List Addr) (d : PyData) (v : V), vs = [v] ∧ Dt S H d v ∧ (∀ z ∈ kids d, (strD z).length ≤ 1000000) ∧ (kids d).length < 64 ∧
  (namesD d = none → ∀ H', Same H H' → Q .non H') ∧ (∀ xs, namesD d = some xs → ∀ (ys : List Str) p H', ys.Perm xs → sortedS ys = true → H p = none → H' p = some (.lst (ys.map V.str)) → Same H H' → Q (.ref p) H')
theorem inV_strs {x : Str} : ∀ {l : List Str}, inV (.str x) (l.map V.str) = decide (x ∈ l)
  | [] => rfl
  | y :: r => by
    have ih := inV_strs (x := x) (l := r)
    simp only [inV, List.map_cons, List.any_cons] at ih ⊢
    rw [ih]
    by_cases h : y = x
    · subst h; simp [eqV]
    · have : ¬ x = y := fun z => h z.symm
      simp [eqV, h, this]
theorem flat_strs : ∀ (l : List Str), (l.map V.str).all flatV = true
  | [] => rfl
  | _ :: r => by simpa [flatV] using flat_strs r
theorem ok_namesof (d : Fd K mg "names_of" snames_of Pnames_of) (dis_name : FdIsName K mg) (B : Blt mg) : FnOk P w K mg base CX0 2 d.f d.fd Pnames_of spNamesOf := by
  have Gis_name : FnOk P w K mg base CX0 1 dis_name.f dis_name.fd Pis_name spIsName := ok_isname dis_name B
  refine d.F.ok scnames_of (fun vs H Q E h => ?_) (fun cdv A outer s H vs Q E hr h => ?_)
  · obtain ⟨S, d, v, rfl, _⟩ := h
    rfl
  · obtain ⟨S, d, v, rfl, hd, hz, hl, k0, k1⟩ := h
    refine ⟨_, (pss_cons (ps_if (pt_not (pt_val (pe_callB (c_isiT K) (by rfl) B.isinstance (by decide +kernel) (pa_cons (pv 0) (pa_cons (pe_tup (pa_cons (e_ty "list" B.list (by decide +kernel)) (pa_cons (e_ty "tuple" B.tuple (by decide +kernel)) pa_nil))) pa_nil))))) (pss_one (ps_ret pe_non)) pss_nil)
      (pss_cons (ps_set (i := 1) scnames_of.nd rfl (by first | exact Or.inl rfl | exact Or.inr rfl) (pe_lst pa_nil))
      (pss_cons (ps_for PassesOwn.never rfl (w_seq K (pv 0)) (pg_name (i := 2) scnames_of.nd rfl (by first | exact Or.inl rfl | exact Or.inr rfl))
      (pss_cons (ps_if (PW.pt (pw_or (pt_not (pt_val (pe_call Gis_name (hr.mono (by decide)) (by rfl) dis_name.g dis_name.F.kp dis_name.b .nil pass0 (pa_cons (pv 2) pa_nil)))) (pw_or1 (pt_cmpR (o_in K) (pv 2) (pv 1) (by rfl))))) (pss_one (ps_ret pe_non)) pss_nil)
      (pss_one (ps_expr (e_bm K PySem.F.plainAttrs_list PySem.F.slot_list_append PySem.F.type_list_append mt_append (pv 1) (pa_cons (pv 2) pa_nil))))))
      (pss_one (ps_ret (pe_callB (c_sortS K) (by rfl) B.sorted (by decide +kernel) (pa_cons (pv 1) pa_nil))))))), ?_⟩
    walk_at "v"
    refine ⟨by decide, fun tp htp => ?_⟩
    have s1 : Same H (upd H tp (.tup [.ty "list", .ty "tuple"])) := fun q o e => by rw [upd_ne (ne_of_none e htp)]; exact e
    walk_at "v"
    refine i_isLT (Dt.keep (Keep.of_same s1) _ _ hd) upd_same ?_
    walk_at "v"
    by_cases hs : (isK "list" d || isK "tuple" d) = true
    · rw [hs]
      refine iteF ?_
      walk_at "v"
      refine ⟨by decide, fun l hl0 => ?_⟩
      walk_at "v"
      obtain ⟨p, o, xs, ho, rfl, hp, np, hx, hk⟩ : ∃ (p : Addr) (o : HO) (xs : List V), (o = .lst xs ∨ o = .tup xs) ∧ v = .ref p ∧ H p = some o ∧ p ∉ S ∧ DtAll S H (kids d) xs ∧ namesD d = if (kids d).all nameD = true ∧ ((kids d).map strD).Nodup then some ((kids d).map strD) else none := by
        cases d with
        | list ds => unfold Dt at hd; obtain ⟨a, xs, rfl, n, q, z⟩ := hd; exact ⟨a, _, xs, .inl rfl, rfl, q, n, z, rfl⟩
        | tuple ds => unfold Dt at hd; obtain ⟨a, xs, rfl, n, q, z⟩ := hd; exact ⟨a, _, xs, .inr rfl, rfl, q, n, z, rfl⟩
        | _ => simp [isK, ptype] at hs
      have hlx := hx.length
      have s2 : Same H (upd (upd H tp (.tup [.ty "list", .ty "tuple"])) l (.lst [])) := fun q o e => by rw [upd_ne (ne_of_none (s1 _ _ e) hl0)]; exact s1 _ _ e
      have hlH : H l = none := s1.free hl0
      refine w_sqv rfl ho (by walk_at "h") (fun J wk => ?_)
      refine for_by wk ⟨fun i σ H' => (∃ v2, σ = [some (.ref p), some (.ref l), v2]) ∧ ((kids d).take i).all nameD = true ∧ (((kids d).take i).map strD).Nodup ∧ H' l = some (.lst ((((kids d).take i).map strD).map V.str)) ∧ Same H H', ?_, fun i σ H' _ ⟨_, _, _, _, z⟩ => z _ _ hp, ?_, ?_⟩
      · exact ⟨⟨none, rfl⟩, by simp, by simp, by simpa using upd_same, s2⟩
      · rintro i x σ H1 H2 hi ⟨⟨v2, rfl⟩, h1, h2, h3, h4⟩ ⟨rfl, hxi⟩
        obtain ⟨di, hdi, hdx⟩ := hx.get' hxi
        have et : (kids d).take (i + 1) = (kids d).take i ++ [di] := by rw [List.take_succ, hdi]; rfl
        have hmem : di ∈ kids d := List.mem_of_getElem? hdi
        walk_at "v"
        refine ⟨S, di, x, rfl, Dt.keep (Keep.of_same h4) _ _ hdx, hz _ hmem, ?_⟩
        walk_at "v"
        cases hn : nameD di with
        | false =>
          refine iteT ?_
          walk_at "v"
          refine k0 ?_ _ h4
          rw [hk, if_neg]
          rintro ⟨a, _⟩
          rw [List.all_eq_true] at a
          rw [a di hmem] at hn; cases hn
        | true =>
          refine iteF ?_
          obtain ⟨z, rfl⟩ : ∃ z, di = .str z := ⟨_, nameD_str hn⟩
          have hx' := hdx
          unfold Dt at hx'; subst hx'
          walk_at "v"
          refine ⟨l, _, rfl, .inl (SqL.of h3), rfl, flat_strs _, ?_⟩
          walk_at "v"
          rw [if_neg Bool.false_ne_true, inV_strs]
          refine ifd (fun hin => ?_) (fun hin => ?_)
          · walk_at "v"
            refine k0 ?_ _ h4
            rw [hk, if_neg]
            rintro ⟨_, b⟩
            have b' : (((kids d).take (i + 1)).map strD).Nodup := b.sublist ((List.take_sublist _ _).map _)
            rw [et, List.map_append, List.nodup_append] at b'
            exact b'.2.2 z hin z (by simp [strD]) rfl
          · walk_at "v"
            refine i_app h3 ?_ ?_
            · rw [List.length_map, List.length_map, List.length_take]; exact small1000 (by omega)
            refine ⟨⟨_, rfl⟩, ?_, ?_, ?_, ?_⟩
            · rw [et, List.all_append, h1]; simp [nameD] at hn ⊢; exact hn
            · rw [et, List.map_append, List.nodup_append]
              refine ⟨h2, by simp, fun a ha b hb e => ?_⟩
              simp [strD] at hb; subst hb; subst e; exact hin ha
            · rw [et, List.map_append, List.map_append]; exact upd_same
            · intro q o e
              rw [upd_ne (ne_of_none e hlH)]; exact h4 _ _ e
      · rintro σ H1 ⟨⟨v2, rfl⟩, h1, h2, h3, h4⟩
        rw [hlx, List.take_length] at h1 h2 h3
        walk_at "v"
        refine ⟨l, _, rfl, SqL.of h3, by rw [List.length_map]; exact hl, fun ys q pm so hq => ?_⟩
        walk_at "v"
        refine k1 _ (by rw [hk, if_pos ⟨h1, h2⟩]) ys q _ pm so (h4.free hq) upd_same (fun a o e => ?_)
        rw [upd_ne (ne_of_none (h4 _ _ e) hq)]; exact h4 _ _ e
    · have e : namesD d = none := by cases d <;> simp [isK, ptype, namesD] at hs ⊢
      simp only [Bool.not_eq_true] at hs
      rw [hs]
      refine iteT ?_
      walk_at "v"
      exact k0 e _ s1
end Lr
set_option Elab.async false
set_option linter.all false
set_option maxRecDepth 100000
set_option maxHeartbeats 4000000
namespace Lr
open PySem PySem.Spec
      PyProof.Rows L2
local macro_rules | `(tactic| walk_at "ne") => `(tactic| (first | assumption | (refine ne_sym ?_; assumption) | (exact ne_of_none (by assumption) (by assumption)) | (exact ne_sym (ne_of_none (by assumption) (by assumption)))))
local macro_rules | `(tactic| walk_at "h") => `(tactic| (first | assumption | exact upd_same | (refine h_new ?_ (by assumption); walk_at "h") | (refine h_ne (by walk_at "ne") ?_; walk_at "h")))
local macro_rules | `(tactic| walk_at "v1") => `(tactic| (with_reducible first
  | refine i_seq ?_ | refine i_asg ?_ | refine i_ret ?_ | refine i_next ?_ | refine i_drop ?_ | refine i_ifS ?_ | refine i_if ?_ | refine i_and ?_ | refine i_or ?_ | refine i_not ?_ | refine i_test ?_ | refine i_tB ?_ | refine i_bl ?_ | refine i_yes ?_
  | refine i_op ?_ | refine i_un ?_ | refine i_chain ?_ | refine i_andV ?_ | refine i_orV ?_ | refine i_notV ?_ | refine i_cb ?_ | refine i_cons ?_ | refine i_nil ?_ | refine i_bm ?_ | refine i_bm0 ?_ | refine i_c ?_ | refine i_name ?_ | refine i_sub ?_
  | refine i_call ?_ | refine i_lst ?_ | refine i_tup ?_ | refine i_par ?_ | refine i_par2 ?_ | refine i_sl ?_ | refine i_np ?_ | refine i_pt ?_ | refine i_int ?_ | refine i_m0 ?_ | refine i_m1 ?_ | refine i_isS ?_
  | refine i_rI0 ?_ | refine i_inSign ?_ | refine i_notInSign ?_ | refine i_int1 ?_ | refine i_tru ?_ | refine i_isN ?_ | refine i_notN ?_ | refine iteT ?_ | refine iteF ?_ | refine i_brk ?_ | refine i_rt ?_ | refine i_nx ?_ | refine i_bk ?_ | refine i_ct ?_ | refine i_for ?_ | refine i_lc ?_ | refine i_dc ?_ | refine i_iL ?_ | refine i_iT ?_ | refine i_iR1 ?_ | refine i_iR2 ?_ | refine i_iS ?_ | refine i_iE ?_ | refine i_iEK ?_ | refine i_iEQ ?_ | refine i_dget ?_ | refine i_fld ?_ | refine i_sfld ?_ | refine i_dput ?_ | refine i_meth ?_ | refine i_rU ?_ | refine i_cont ?_ | refine i_make ?_))
local macro_rules | `(tactic| walk_at "v2") => `(tactic| (first
  | ((with_reducible refine' i_var ?k1 ?_); (case k1 => exact rfl))
  | ((with_reducible refine' i_eq ?k1 ?_); (case k1 => exact rfl))
  | ((with_reducible refine' i_ne ?k1 ?_); (case k1 => exact rfl))
  | ((with_reducible refine' i_ixL ?k1 ?k2 ?_); (case k1 => walk_at "h"); (case k2 => exact rfl))
  | ((with_reducible refine' i_ixT ?k1 ?k2 ?_); (case k1 => walk_at "h"); (case k2 => exact rfl))
  | ((with_reducible refine' i_lenL ?k1 ?_); (case k1 => walk_at "h"))
  | ((with_reducible refine' i_lenT ?k1 ?_); (case k1 => walk_at "h"))
  | (refine i_wipe (show wipe _ _ = wipe _ _ from rfl) ?_)
  | ((with_reducible refine' i_setL ?k1 ?k2 ?_); (case k1 => walk_at "h"); (case k2 => exact rfl))
  | ((with_reducible refine' i_tyl ?k1 ?_); (case k1 => walk_at "h"))))
local macro_rules | `(tactic| walk_at "v") => `(tactic| repeat (first | walk_at "v1" | walk_at "v2"))

variable {P : Program} {w : World} {K :
      PySem.W.Frag} {mg : Str → Option Value} {base : Heap}
abbrev slot_among : Stmt := top 13
abbrev Nlot_among : List Str := ["thing", "names", "found", "one"]
abbrev Plot_among : List Str := ["thing", "names"]
theorem sclot_among : FnScope Nlot_among Plot_among (defScope slot_among) := ⟨rfl, rfl, rfl, by decide +kernel, rfl, by decide +kernel, by decide +kernel⟩
abbrev srecord_of : Stmt := top 18
abbrev Nrecord_of : List Str := ["thing", "names", "reads", "writes"]
abbrev Precord_of : List Str := ["thing", "names"]
theorem screcord_of : FnScope Nrecord_of Precord_of (defScope srecord_of) := ⟨rfl, rfl, rfl, by decide +kernel, rfl, by decide +kernel, by decide +kernel⟩
abbrev FdNamesOf (K : PySem.W.Frag) (mg : Str → Option Value) := Fd K mg "names_of" snames_of Pnames_of
def lotD (d : PyData) (ns : List Str) : Option (List Str) := match namesD d with
  | some xs => if ∀ x ∈ xs, x ∈ ns then some xs else none
  | none => none
/-- a list or a tuple of the texts ns stands at p -/
def SeqO (o : HO) (ns : List Str) : Prop := o = .lst (ns.map V.str) ∨ o = .tup (ns.map V.str)
def spLotAmong : Sp := fun vs H Q _ => ∃ (S : List Addr) (d : PyData) (v : V) (p : Addr) (o : HO) (ns : List Str), vs = [v, .ref p] ∧ Dt S H d v ∧ (∀ z ∈ kids d, (strD z).length ≤ 1000000) ∧ (kids d).length < 64 ∧ H p = some o ∧ SeqO o ns ∧
  (lotD d ns = none → ∀ H', Same H H' → Q .non H') ∧ (∀ xs, lotD d ns = some xs → ∀ (ys : List Str) p H', ys.Perm xs → sortedS ys = true → H p = none → H' p = some (.lst (ys.map V.str)) → Same H H' → Q (.ref p) H')
theorem namesD_len {d : PyData} {xs : List Str} (h : namesD d = some xs) : xs.length = (kids d).length := by
  cases d <;> simp only [namesD] at h <;> try cases h
  all_goals
    split at h
    · cases h; simp [kids]
    · cases h
theorem ok_lotamong (d : Fd K mg "lot_among" slot_among Plot_among) (dnames_of : FdNamesOf K mg) (dis_name : FdIsName K mg) (B : Blt mg) : FnOk P w K mg base CX0 3 d.f d.fd Plot_among spLotAmong := by
  have Gnames_of : FnOk P w K mg base CX0 2 dnames_of.f dnames_of.fd Pnames_of spNamesOf := ok_namesof dnames_of dis_name B
  refine d.F.ok sclot_among (fun vs H Q E h => ?_) (fun cdv A outer s H vs Q E hr h => ?_)
  · obtain ⟨S, d, v, p, o, ns, rfl, _⟩ := h
    rfl
  · obtain ⟨S, d, v, p, o, ns, rfl, hd, hz, hl, hp, ho, k0, k1⟩ := h
    refine ⟨_, (pss_cons (ps_set (i := 2) sclot_among.nd rfl (by first | exact Or.inl rfl | exact Or.inr rfl) (pe_call Gnames_of (hr.mono (by decide)) (by rfl) dnames_of.g dnames_of.F.kp dnames_of.b .nil pass0 (pa_cons (pv 0) pa_nil)))
      (pss_cons (ps_if (pt_cmpR o_isN (pv 2) pe_non (nomark _)) (pss_one (ps_ret pe_non)) pss_nil)
      (pss_cons (ps_for PassesOwn.never rfl (w_list K (pv 2)) (pg_name (i := 3) sclot_among.nd rfl (by first | exact Or.inl rfl | exact Or.inr rfl))
      (pss_one (ps_if (pt_cmpR (o_notIn K) (pv 3) (pv 1) (by rfl)) (pss_one (ps_ret pe_non)) pss_nil)))
      (pss_one (ps_ret (pv 2)))))), ?_⟩
    walk_at "v"
    refine ⟨S, d, v, rfl, hd, hz, hl, fun e H' s1 => ?_, fun xs e ys q H' pm so nq hq s1 => ?_⟩
    · walk_at "v"
      refine ifd (fun _ => ?_) (fun z => absurd rfl z)
      walk_at "v"
      exact k0 (by unfold lotD; rw [e]) _ s1
    · walk_at "v"
      refine ifd (fun z => by cases z) (fun _ => ?_)
      walk_at "v"
      refine w_lst hq ?_
      refine for_by (walk_list (xs := ys.map V.str)) ⟨fun i σ H1 => (∃ v3, σ = [some v, some (.ref p), some (.ref q), v3]) ∧ H1 = H' ∧ ∀ x ∈ ys.take i, x ∈ ns, ?_, fun i σ H1 _ ⟨_, z, _⟩ => by rw [z]; exact SqL.of hq, ?_, ?_⟩
      · exact ⟨⟨none, rfl⟩, rfl, by simp⟩
      · rintro i x σ H1 H2 hi ⟨⟨v3, rfl⟩, rfl, ih⟩ ⟨rfl, hx⟩
        rw [List.getElem?_map] at hx
        obtain ⟨y, hy, rfl⟩ := Option.map_eq_some_iff.mp hx
        walk_at "v"
        refine ⟨p, ns.map V.str, rfl, ho.imp (fun z => SqL.of (by rw [s1 _ _ hp, z])) (fun z => SqT.of (by rw [s1 _ _ hp, z])), rfl, flat_strs _, ?_⟩
        walk_at "v"
        rw [if_pos rfl, inV_strs]
        refine ifn (fun hn => ?_) (fun hn => ?_)
        · walk_at "v"
          refine k0 ?_ _ s1
          unfold lotD; rw [e]; show (if _ then _ else _) = _
          rw [if_neg]
          intro z
          exact hn (z y (pm.subset (List.mem_of_getElem? hy)))
        · walk_at "v"
          refine ⟨⟨_, rfl⟩, rfl, ?_⟩
          intro x hx
          rw [List.take_succ, hy] at hx
          rcases List.mem_append.mp hx with z | z
          · exact ih x z
          · simp at z; subst z; exact hn
      · rintro σ H1 ⟨⟨v3, rfl⟩, rfl, ih⟩
        rw [List.length_map, List.take_length] at ih
        walk_at "v"
        refine k1 xs ?_ ys q _ pm so nq hq s1
        unfold lotD; rw [e]; show (if _ then _ else _) = _
        rw [if_pos (fun x hx => ih x (pm.symm.subset hx))]
abbrev FdLotAmong (K : PySem.W.Frag) (mg : Str → Option Value) := Fd K mg "lot_among" slot_among Plot_among
def rowD (r : List Str × List Str) : PyData := .tuple [.tuple (r.1.map .str), .tuple (r.2.map .str)]
def spRecordOf : Sp := fun vs H Q _ => ∃ (S : List Addr) (d da db : PyData) (v : V) (p : Addr) (ns r w : List Str), vs = [v, .ref p] ∧ Dt S H d v ∧ (isK "list" d || isK "tuple" d) = true ∧ kids d = [da, db] ∧
  (∀ z ∈ kids da, (strD z).length ≤ 1000000) ∧ (kids da).length < 64 ∧ (∀ z ∈ kids db, (strD z).length ≤ 1000000) ∧ (kids db).length < 64 ∧ H p = some (.lst (ns.map V.str)) ∧ lotD da ns = some r ∧ lotD db ns = some w ∧ w ≠ [] ∧
  (∀ (r' w' : List Str) q H', r'.Perm r → sortedS r' = true → w'.Perm w → sortedS w' = true → New H H' (rowD (r', w')) (.ref q) → Same H H' → Q (.ref q) H')
/-- a list or tuple as it stands -/
theorem Dt.row {S : List Addr} {H : Hp} {d : PyData} {v : V} (h : Dt S H d v) (hs : (isK "list" d || isK "tuple" d) = true) :
    ∃ (p : Addr) (o : HO) (xs : List V), (o = .lst xs ∨ o = .tup xs) ∧ v = .ref p ∧ H p = some o ∧ p ∉ S ∧ DtAll S H (kids d) xs := by
  cases d with
  | list ds => unfold Dt at h; obtain ⟨a, xs, rfl, n, q, z⟩ := h; exact ⟨a, _, xs, .inl rfl, rfl, q, n, z⟩
  | tuple ds => unfold Dt at h; obtain ⟨a, xs, rfl, n, q, z⟩ := h; exact ⟨a, _, xs, .inr rfl, rfl, q, n, z⟩
  | _ => simp [isK, ptype] at hs
theorem i_lenO {K : PySem.W.Frag} {H : Hp} {Q : VK} {p : Addr} {o : HO} {xs : List V} (ho : o = .lst xs ∨ o = .tup xs) (h : H p = some o) (q : Q (.int xs.length) H) : rLen K [V.ref p] H Q := by
  rcases ho with rfl | rfl
  · exact i_lenL h q
  · exact i_lenT h q
theorem i_ixO {K : PySem.W.Frag} {H : Hp} {Q : VK} {p : Addr} {o : HO} {xs : List V} {i : Int} {v : V} (ho : o = .lst xs ∨ o = .tup xs) (h : H p = some o) (e : atI xs i = some v) (q : Q v H) : rIx K (.ref p) (.int i) H Q := by
  rcases ho with rfl | rfl
  · exact .inl ⟨p, xs, i, v, rfl, rfl, SqL.of h, e, q⟩
  · exact .inr (.inl ⟨p, xs, i, v, rfl, rfl, SqT.of h, e, q⟩)
theorem ok_recordof (d : Fd K mg "record_of" srecord_of Precord_of) (dlot_among : FdLotAmong K mg) (dnames_of : FdNamesOf K mg) (dis_name : FdIsName K mg) (B : Blt mg) : FnOk P w K mg base CX0 4 d.f d.fd Precord_of spRecordOf := by
  have Glot_among : FnOk P w K mg base CX0 3 dlot_among.f dlot_among.fd Plot_among spLotAmong := ok_lotamong dlot_among dnames_of dis_name B
  refine d.F.ok screcord_of (fun vs H Q E h => ?_) (fun cdv A outer s H vs Q E hr h => ?_)
  · obtain ⟨S, d, da, db, v, p, ns, r, w, rfl, _⟩ := h
    rfl
  · obtain ⟨S, d, da, db, v, p, ns, r, w, rfl, hd, hs, hk, za, la, zb, lb, hp, er, ew, wn, k⟩ := h
    refine ⟨_, (pss_cons (ps_if (PW.pt (pw_or (pt_not (pt_val (pe_callB (c_isiT K) (by rfl) B.isinstance (by decide +kernel) (pa_cons (pv 0) (pa_cons (pe_tup (pa_cons (e_ty "list" B.list (by decide +kernel)) (pa_cons (e_ty "tuple" B.tuple (by decide +kernel)) pa_nil))) pa_nil))))) (pw_or1 (pt_cmpR op_ne (pe_callB (c_len K) (by rfl) B.len (by decide +kernel) (pa_cons (pv 0) pa_nil)) pe_int (nomark _))))) (pss_one (ps_ret pe_non)) pss_nil)
      (pss_cons (ps_set (i := 2) screcord_of.nd rfl (by first | exact Or.inl rfl | exact Or.inr rfl) (pe_call Glot_among (hr.mono (by decide)) (by rfl) dlot_among.g dlot_among.F.kp dlot_among.b .nil pass0 (pa_cons (pe_ix (x_seq K) (pv 0) pe_int (fun _ _ => rfl)) (pa_cons (pv 1) pa_nil))))
      (pss_cons (ps_set (i := 3) screcord_of.nd rfl (by first | exact Or.inl rfl | exact Or.inr rfl) (pe_call Glot_among (hr.mono (by decide)) (by rfl) dlot_among.g dlot_among.F.kp dlot_among.b .nil pass0 (pa_cons (pe_ix (x_seq K) (pv 0) pe_int (fun _ _ => rfl)) (pa_cons (pv 1) pa_nil))))
      (pss_cons (ps_if (PW.pt (pw_or (pt_cmpR o_isN (pv 2) pe_non (nomark _)) (pw_or1 (pt_not (t_truth K (pv 3)))))) (pss_one (ps_ret pe_non)) pss_nil)
      (pss_one (ps_ret (pe_tup (pa_cons (pe_callTy (c_tuple K) (by rfl) B.tuple (by decide +kernel) (pa_cons (pv 2) pa_nil)) (pa_cons (pe_callTy (c_tuple K) (by rfl) B.tuple (by decide +kernel) (pa_cons (pv 3) pa_nil)) pa_nil))))))))), ?_⟩
    walk_at "v"
    refine ⟨by decide, fun tp htp => ?_⟩
    have s1 : Same H (upd H tp (.tup [.ty "list", .ty "tuple"])) := (Same.refl H).new htp
    walk_at "v"
    refine i_isLT (Dt.keep (Keep.of_same s1) _ _ hd) upd_same ?_
    walk_at "v"
    rw [hs]
    refine iteF ?_
    obtain ⟨a, o, xs, ho, rfl, ha, na, hx⟩ := hd.row hs
    rw [hk] at hx
    obtain ⟨x, xr, rfl, hxa, hx'⟩ := DtAll.cons_iff.mp hx
    obtain ⟨y, yr, rfl, hyb, hy'⟩ := DtAll.cons_iff.mp hx'
    obtain rfl := DtAll.nil_iff.mp hy'
    walk_at "v"
    refine i_lenO ho (s1 _ _ ha) ?_
    walk_at "v"
    refine ifn (fun z => absurd rfl z) (fun _ => ?_)
    walk_at "v"
    refine i_ixO ho (s1 _ _ ha) (atI_nat (j := 0) rfl) ?_
    walk_at "v"
    refine ⟨S, da, x, p, _, ns, rfl, Dt.keep (Keep.of_same s1) _ _ hxa, za, la, s1 _ _ hp, .inl rfl, (fun e => by rw [er] at e; cases e), fun xs1 e1 r1 q1 H1 pm1 so1 nq1 hq1 sm1 => ?_⟩
    rw [er] at e1; cases e1
    have s2 := s1.trans sm1
    walk_at "v"
    refine i_ixO ho (s2 _ _ ha) (atI_nat (j := 1) rfl) ?_
    walk_at "v"
    refine ⟨S, db, y, p, _, ns, rfl, Dt.keep (Keep.of_same s2) _ _ hyb, zb, lb, s2 _ _ hp, .inl rfl, (fun e => by rw [ew] at e; cases e), fun xs2 e2 w1 q2 H2 pm2 so2 nq2 hq2 sm2 => ?_⟩
    rw [ew] at e2; cases e2
    have s3 := s2.trans sm2
    have hq1' := sm2 _ _ hq1
    walk_at "v"
    refine ifd (fun z => by cases z) (fun _ => ?_)
    walk_at "v"
    have wne : w1 ≠ [] := fun z => by rw [z] at pm2; exact wn pm2.symm.eq_nil
    refine ⟨true, .inl ⟨_, SqL.of hq2, by cases w1 with | nil => exact absurd rfl wne | cons _ _ => rfl⟩, ?_⟩
    refine iteF ?_
    walk_at "v"
    refine i_tupleL hq1' (fun t1 ht1 => ?_)
    walk_at "v"
    refine i_tupleL (h_new hq2 ht1) (fun t2 ht2 => ?_)
    walk_at "v"
    refine ⟨by show 2 ≤ sizeLine; decide, fun t3 ht3 => ?_⟩
    walk_at "v"
    refine k r1 w1 t3 _ pm1 so1 pm2 so2 (fun S' tr => ?_) (((s3.new ht1).new ht2).new ht3)
    have u1 : t1 ∉ S' := (tr.same s3).nm ht1
    have u2 : t2 ∉ S' := (tr.same (s3.new ht1)).nm ht2
    have u3 : t3 ∉ S' := (tr.same ((s3.new ht1).new ht2)).nm ht3
    have e1 : upd (upd (upd H2 t1 (.tup (r1.map V.str))) t2 (.tup (w1.map V.str))) t3 (.tup [.ref t1, .ref t2]) t1 = some (.tup (r1.map V.str)) := h_new (h_new upd_same ht2) ht3
    have e2 : upd (upd (upd H2 t1 (.tup (r1.map V.str))) t2 (.tup (w1.map V.str))) t3 (.tup [.ref t1, .ref t2]) t2 = some (.tup (w1.map V.str)) := h_new upd_same ht3
    unfold rowD Dt
    refine ⟨t3, _, rfl, u3, upd_same, DtAll.cons ?_ (DtAll.one ?_)⟩
    · unfold Dt; exact ⟨t1, _, rfl, u1, e1, DtAll.strs _⟩
    · unfold Dt; exact ⟨t2, _, rfl, u2, e2, DtAll.strs _⟩
abbrev FdRecordOf (K : PySem.W.Frag) (mg : Str → Option Value) := Fd K mg "record_of" srecord_of Precord_of
end Lr
set_option Elab.async false
set_option linter.all false
set_option maxRecDepth 100000
set_option maxHeartbeats 4000000
/-! Ml: logs as plain data: pages, records, who writes a page, what a reader needs. -/
namespace Lr
open PySem PySem.Spec
      PyProof.Rows L2
abbrev Row := List Str × List Str
structure LG where
  pages : List Str
  rows : List Row
def wrF (k : Int) (x : Str) : List Row → List Int
  | [] => []
  | r :: t => if x ∈ r.2 then (k + 1) :: wrF (k + 1) x t else wrF (k + 1) x t
/-- the records that write x, ascending -/
def wr (rows : List Row) (x : Str) : List Int := wrF 0 x rows
theorem wrF_append (x : Str) (r : Row) : ∀ (t : List Row) (k : Int), wrF k x (t ++ [r]) = wrF k x t ++ (if x ∈ r.2 then [k + t.length + 1] else [])
  | [], k => by simp [wrF]
  | s :: t, k => by
    have ih := wrF_append x r t (k + 1)
    simp only [List.cons_append, wrF, ih, List.length_cons]
    have e : k + 1 + (t.length : Int) + 1 = k + ((t.length + 1 : Nat) : Int) + 1 := by omega
    rw [e]
    split <;> simp
theorem wr_append (x : Str) (r : Row) (t : List Row) : wr (t ++ [r]) x = wr t x ++ (if x ∈ r.2 then [(t.length : Int) + 1] else []) := by
  unfold wr; rw [wrF_append]; simp
/-- the greatest version of x so far -/
def ver (rows : List Row) (x : Str) : Int := (wr rows x).getLast?.getD 0
def standing (rows : List Row) (names : List Str) : List (Str × Int) := names.map fun x => (x, ver rows x)
/-- what the readers need: each record, the end last -/
def needs (L : LG) : List (List (Str × Int)) := (List.range L.rows.length).map (fun i => standing (L.rows.take i) ((L.rows[i]?.getD ([], [])).1)) ++ [standing L.rows L.pages]
structure LG.Ok (L : LG) : Prop where
  sorted : sortedS L.pages = true
  nd : L.pages.Nodup
  name : ∀ x ∈ L.pages, nameB x = true
  pos : 1 ≤ L.pages.length
  most : L.pages.length ≤ 12
  few : L.rows.length ≤ 60
  reads : ∀ r ∈ L.rows, r.1.Sublist L.pages
  writes : ∀ r ∈ L.rows, r.2.Sublist L.pages ∧ r.2 ≠ []
def needD (l : List (Str × Int)) : PyData := .tuple (l.map fun z => .tuple [.str z.1, .int z.2])
theorem ver_nonneg (rows : List Row) (x : Str) : 0 ≤ ver rows x := by
  have h : ∀ (t : List Row) (k : Int), 0 ≤ k → ∀ z ∈ wrF k x t, 0 ≤ z := by
    intro t
    induction t with
    | nil => intro k _ z hz; simp [wrF] at hz
    | cons r t ih =>
      intro k hk z hz
      simp only [wrF] at hz
      split at hz
      · rcases List.mem_cons.mp hz with e | e
        · omega
        · exact ih (k + 1) (by omega) z e
      · exact ih (k + 1) (by omega) z hz
  unfold ver
  cases e : (wr rows x).getLast? with
  | none => simp
  | some z => simpa using h rows 0 (by omega) z (List.mem_of_getLast? e)
/-! ### the order of texts -/
theorem ltCps_asymm : ∀ {a b : List Nat}, ltCps a b = true → ltCps b a = false
  | [], [], h => by simp [ltCps] at h
  | [], _ :: _, _ => by simp [ltCps]
  | _ :: _, [], h => by simp [ltCps] at h
  | x :: a, y :: b, h => by
    simp only [ltCps, Bool.or_eq_true, decide_eq_true_eq, Bool.and_eq_true, beq_iff_eq] at h
    simp only [ltCps, Bool.or_eq_false_iff, decide_eq_false_iff_not, Bool.and_eq_false_iff, beq_eq_false_iff_ne]
    rcases h with h | ⟨rfl, h⟩
    · exact ⟨by omega, .inl (by omega)⟩
    · exact ⟨by omega, .inr (ltCps_asymm h)⟩
theorem ltCps_eq : ∀ {a b : List Nat}, ltCps a b = false → ltCps b a = false → a = b
  | [], [], _, _ => rfl
  | [], _ :: _, h, _ => by simp [ltCps] at h
  | _ :: _, [], _, h => by simp [ltCps] at h
  | x :: a, y :: b, h, h' => by
    simp only [ltCps, Bool.or_eq_false_iff, decide_eq_false_iff_not, Bool.and_eq_false_iff, beq_eq_false_iff_ne] at h h'
    obtain rfl : x = y := by omega
    rw [ltCps_eq (h.2.resolve_left (by simp)) (h'.2.resolve_left (by simp))]
/-- at most: b is not below a -/
theorem leCps_trans : ∀ {a b c : List Nat}, ltCps b a = false → ltCps c b = false → ltCps c a = false
  | [], b, c, h, h' => by
    cases c with
    | nil => simp [ltCps]
    | cons _ _ => simp [ltCps]
  | _ :: _, [], _, h, _ => by simp [ltCps] at h
  | _ :: _, _ :: _, [], _, h => by simp [ltCps] at h
  | x :: a, y :: b,
        z :: c, h, h' => by
    simp only [ltCps, Bool.or_eq_false_iff, decide_eq_false_iff_not, Bool.and_eq_false_iff, beq_eq_false_iff_ne] at h h' ⊢
    refine ⟨by omega, ?_⟩
    by_cases e : z = x
    · refine .inr ?_
      have e1 : y = x := by omega
      subst e
      exact leCps_trans (h.2.resolve_left (by simp [e1])) (h'.2.resolve_left (by simp [e1]))
    · exact .inl e
def leS (x y : Str) : Prop := ltCps y.cps.toList x.cps.toList = false
theorem rising_pw : ∀ {l : List Str} {p : Str}, risingS p l = true → (p :: l).Pairwise leS
  | [], p, _ => by simp
  | x :: r, p, h => by
    simp only [risingS, Bool.and_eq_true, Bool.not_eq_true'] at h
    have ih := rising_pw h.2
    rw [List.pairwise_cons] at ih ⊢
    refine ⟨fun y hy => ?_, List.pairwise_cons.mpr ih⟩
    rcases List.mem_cons.mp
          hy with rfl | hy
    · exact h.1
    · exact leCps_trans h.1 (ih.1 y hy)
theorem sortedS_pw {l : List Str} (h : sortedS l = true) : l.Pairwise leS := by
  cases l with
  | nil => simp
  | cons x r => exact rising_pw h
theorem ext_cps {x y : Str} (h : x.cps.toList = y.cps.toList) : x = y := by
  cases x; cases y; simp at h; simp [h]
theorem sorted_perm {l l' : List Str} (h : sortedS l = true) (h' : l'.Pairwise leS) (p : l.Perm l') : l = l' :=
  List.Perm.eq_of_pairwise (le := leS) (fun a b _ _ h1 h2 => ext_cps (ltCps_eq h2 h1)) (sortedS_pw h) h' p
end Lr
set_option Elab.async false
set_option linter.all false
set_option maxRecDepth 100000
set_option maxHeartbeats 4000000
namespace Lr
open PySem PySem.Spec
      PyProof.Rows L2
local macro_rules | `(tactic| walk_at "ne") => `(tactic| (first | assumption | (refine ne_sym ?_; assumption) | (exact ne_of_none (by assumption) (by assumption)) | (exact ne_sym (ne_of_none (by assumption) (by assumption)))))
local macro_rules | `(tactic| walk_at "h") => `(tactic| (first | assumption | exact upd_same | (refine h_new ?_ (by assumption); walk_at "h") | (refine h_ne (by walk_at "ne") ?_; walk_at "h")))
local macro_rules | `(tactic| walk_at "v1") => `(tactic| (with_reducible first
  | refine i_seq ?_ | refine i_asg ?_ | refine i_ret ?_ | refine i_next ?_ | refine i_drop ?_ | refine i_ifS ?_ | refine i_if ?_ | refine i_and ?_ | refine i_or ?_ | refine i_not ?_ | refine i_test ?_ | refine i_tB ?_ | refine i_bl ?_ | refine i_yes ?_
  | refine i_op ?_ | refine i_un ?_ | refine i_chain ?_ | refine i_andV ?_ | refine i_orV ?_ | refine i_notV ?_ | refine i_cb ?_ | refine i_cons ?_ | refine i_nil ?_ | refine i_bm ?_ | refine i_bm0 ?_ | refine i_c ?_ | refine i_name ?_ | refine i_sub ?_
  | refine i_call ?_ | refine i_lst ?_ | refine i_tup ?_ | refine i_par ?_ | refine i_par2 ?_ | refine i_sl ?_ | refine i_np ?_ | refine i_pt ?_ | refine i_int ?_ | refine i_m0 ?_ | refine i_m1 ?_ | refine i_isS ?_
  | refine i_rI0 ?_ | refine i_inSign ?_ | refine i_notInSign ?_ | refine i_int1 ?_ | refine i_tru ?_ | refine i_isN ?_ | refine i_notN ?_ | refine iteT ?_ | refine iteF ?_ | refine i_brk ?_ | refine i_rt ?_ | refine i_nx ?_ | refine i_bk ?_ | refine i_ct ?_ | refine i_for ?_ | refine i_lc ?_ | refine i_dc ?_ | refine i_iL ?_ | refine i_iT ?_ | refine i_iR1 ?_ | refine i_iR2 ?_ | refine i_iS ?_ | refine i_iE ?_ | refine i_iEK ?_ | refine i_iEQ ?_ | refine i_dget ?_ | refine i_fld ?_ | refine i_sfld ?_ | refine i_dput ?_ | refine i_meth ?_ | refine i_rU ?_ | refine i_cont ?_ | refine i_make ?_))
local macro_rules | `(tactic| walk_at "v2") => `(tactic| (first
  | ((with_reducible refine' i_var ?k1 ?_); (case k1 => exact rfl))
  | ((with_reducible refine' i_eq ?k1 ?_); (case k1 => exact rfl))
  | ((with_reducible refine' i_ne ?k1 ?_); (case k1 => exact rfl))
  | ((with_reducible refine' i_ixL ?k1 ?k2 ?_); (case k1 => walk_at "h"); (case k2 => exact rfl))
  | ((with_reducible refine' i_ixT ?k1 ?k2 ?_); (case k1 => walk_at "h"); (case k2 => exact rfl))
  | ((with_reducible refine' i_lenL ?k1 ?_); (case k1 => walk_at "h"))
  | ((with_reducible refine' i_lenT ?k1 ?_); (case k1 => walk_at "h"))
  | (refine i_wipe (show wipe _ _ = wipe _ _ from rfl) ?_)
  | ((with_reducible refine' i_setL ?k1 ?k2 ?_); (case k1 => walk_at "h"); (case k2 => exact rfl))
  | ((with_reducible refine' i_tyl ?k1 ?_); (case k1 => walk_at "h"))))
local macro_rules | `(tactic| walk_at "v") => `(tactic| repeat (first | walk_at "v1" | walk_at "v2"))

variable {P : Program} {w : World} {K :
      PySem.W.Frag} {mg : Str → Option Value} {base : Heap}
abbrev sLog_standing : Stmt := inClass (top 19) 1
abbrev NLog_standing : List Str := ["self", "names", "name"]
abbrev PLog_standing : List Str := ["self", "names"]
theorem scLog_standing : FnScope NLog_standing PLog_standing (defScope sLog_standing) := ⟨rfl, rfl, rfl, by decide +kernel, rfl, by decide +kernel, by decide +kernel⟩
/-- a method of an own class, in one bundle -/
structure Md (K : PySem.W.Frag) (C : Addr) (m qual : Str) (st : Stmt) (ps : List Str) where
  f : Addr
  fd : FuncData
  F : Fun K m qual st f fd
  m : Meth K C m f
  b : Binds K fd ps []
/-- the class Log, at C -/
structure LogCls (K : PySem.W.Frag) (mg : Str → Option Value) (C : Addr) : Prop where
  cl : Cls K C
  nN : NoAttr K C "names"
  nR : NoAttr K C "rows"
  nW : NoAttr K C "writers"
  nE : NoAttr K C "needs"
  g : mg "Log" = some (.ref C)
/-- the writers' dict of pages: each page has a list of its own, of the records that write it -/
def WrAt (H : Hp) (kvs : List (Key × V)) (pages : List Str) (rows : List Row) (q : Str → Addr) : Prop :=
  kvs = pages.map (fun x => (Sum.inr x, V.ref (q x))) ∧ ∀ x ∈ pages, H (q x) = some (.lst ((wr rows x).map V.int))
theorem val_map {q : Str → Addr} {x : Str} : ∀ {pages : List Str}, x ∈ pages → valV (pages.map (fun x => ((Sum.inr x : Key), V.ref (q x)))) (.inr x) = some (.ref (q x))
  | y :: r, h => by
    unfold valV
    rw [List.map_cons, List.find?_cons]
    by_cases e : y = x
    · subst e; simp
    · have : decide ((Sum.inr y : Key) = Sum.inr x) = false := by simp [e]
      simp only [this]
      have ih := val_map (q := q) (x := x) (pages := r) ((List.mem_cons.mp h).resolve_left fun z => e z.symm)
      unfold valV at ih
      exact ih
def spStanding (C : Addr) : Sp := fun vs H Q _ => ∃ (p dx l dw : Addr) (fs : List (Str × V)) (kvs : List (Key × V)) (names pages : List Str) (rows : List Row) (q : Str → Addr) (o : HO), vs = [.ref p, .ref l] ∧ H p = some (.ins C dx fs) ∧ fs.lookup ("writers" : Str) = some (V.ref dw) ∧ H dw = some (.dK kvs) ∧
  WrAt H kvs pages rows q ∧ H l = some o ∧ SeqO o names ∧ (∀ x ∈ names, x ∈ pages) ∧ names.length ≤ 1000 ∧ ∀ v H', New H H' (needD (standing rows names)) v → Same H H' → Q v H'
theorem ok_standing {C : Addr} (cLog : LogCls K mg C) (d : Md K C "standing" "Log.standing" sLog_standing PLog_standing) (B : Blt mg) : FnOk P w K mg base CX0 1 d.f d.fd PLog_standing (spStanding C) := by
  refine d.F.ok scLog_standing (fun vs H Q E h => ?_) (fun cdv A outer s H vs Q E hr h => ?_)
  · obtain ⟨p, dx, l, dw, fs, kvs, names, pages, rows, q, o, rfl, _⟩ := h
    rfl
  · obtain ⟨p, dx, l, dw, fs, kvs, names, pages, rows, q, o, rfl, hp, hf, hw, ⟨ek, hq⟩, hl, ho, hn, hlen, k⟩ := h
    refine ⟨_, (pss_one (ps_ret (pe_callTy (c_tuple K) (by rfl) B.tuple (by decide +kernel) (pa_cons (pe_lc (own := [("name", 2)]) (g := gName 2) (tt := tYes) rfl scLog_standing.nd (w_seq K (pv 1)) (blkOk_by (own := [("name", 2)]) (N := NLog_standing) (sc := defScope sLog_standing) (by decide +kernel)) (fun _ _ _ _ _ => by exact (pg_name (i := 2) scLog_standing.nd rfl (by first | exact Or.inl rfl | exact Or.inr rfl))) (fun _ _ _ _ _ => pts_nil) (fun _ _ _ _ _ => by exact (pe_tup (pa_cons (pv 2) (pa_cons (pe_ifExp (t_truth K (pe_dget (hu_of hr) (e_fld K (pv 0)) (pv 2) (fun _ _ => rfl))) (pe_ix (x_list K) (pe_dget (hu_of hr) (e_fld K (pv 0)) (pv 2) (fun _ _ => rfl)) (pe_un un_neg pe_int) (fun _ _ => rfl)) pe_int) pa_nil))))) pa_nil)))), ?_⟩
    walk_at "v"
    refine w_sqv rfl ho hl (fun J wk => ?_)
    refine lc_by wk fun D hD => ⟨fun i H' => Acc [] H H' D ((standing rows (names.take i)).map fun z => .tuple [.str z.1, .int z.2]), ?_, fun i H' _ z => z.kp.same _ _ hl, ?_, ?_⟩
    · exact Acc.start (Keep.refl _ _) hD
    · rintro i x H1 H2 hi ac ⟨rfl, hx⟩
      rw [List.getElem?_map] at hx
      obtain ⟨y, hy, rfl⟩ := Option.map_eq_some_iff.mp hx
      have hyp : y ∈ pages := hn y (List.mem_of_getElem? hy)
      have hv : valV kvs (.inr y) = some (.ref (q y)) := by rw [ek]; exact val_map hyp
      have et : (standing rows (names.take (i + 1))).map (fun z => PyData.tuple [.str z.1, .int z.2]) = (standing rows (names.take i)).map (fun z => PyData.tuple [.str z.1, .int z.2]) ++ [.tuple [.str y, .int (ver rows y)]] := by
        rw [List.take_succ, hy]; simp [standing]
      have sm := ac.kp.same
      obtain ⟨acc, ea, la, _⟩ := id ac.ex
      have fin : ∀ z : Int, z = ver rows y → 2 ≤ sizeLine ∧ ∀ T, H2 T = none → ∃ acc, upd H2 T (.tup [.str y, .int z]) D = some (.lst acc) ∧ acc.length < sizeLine ∧
          Acc [] H (upd (upd H2 T (.tup [.str y, .int z])) D (.lst (acc ++ [.ref T]))) D ((standing rows (names.take (i + 1))).map fun z => .tuple [.str z.1, .int z.2]) := by
        rintro z rfl
        refine ⟨by decide, fun T hT => ⟨acc, h_new ea hT, small1000 (by rw [la]; simp [standing]; omega), ?_⟩⟩
        rw [et]
        refine (ac.step (fun _ h => nomatch h) ea (d := .tuple [.str y, .int (ver rows y)]) (NewM.tup (Keep.refl _ _) hT fun S _ _ => ?_) ((Keep.refl _ _).new hT)).2
        exact DtAll.cons (by unfold Dt; rfl) (DtAll.one (by unfold Dt; rfl))
      walk_at "v"
      refine d_fld (sm _ _ hp) cLog.cl cLog.nW hf ?_
      walk_at "v"
      refine d_getS (sm _ _ hw) hv ?_
      refine ⟨_, .inl ⟨_, SqL.of (sm _ _ (hq y hyp)), rfl⟩, ?_⟩
      cases e : wr rows y with
      | nil =>
        refine iteF ?_
        walk_at "v"
        exact fin 0 (by simp [ver, e])
      | cons a0 r0 =>
        refine iteT ?_
        walk_at "v"
        refine d_fld (sm _ _ hp) cLog.cl cLog.nW hf ?_
        walk_at "v"
        refine d_getS (sm _ _ hw) hv ?_
        walk_at "v"
        obtain ⟨pre, last, el⟩ : ∃ pre last, wr rows y = pre ++ [last] := by
          rcases List.eq_nil_or_concat (wr rows y) with h | ⟨a, b, h⟩
          · rw [e] at h; cases h
          · exact ⟨a, b, by simpa using h⟩
        refine i_ixL (v := .int last) (sm _ _ (hq y hyp)) (by rw [el, List.map_append]; exact atI_last _ _) ?_
        walk_at "v"
        exact fin last (by simp [ver, el])
    · intro H' ac
      rw [List.length_map, List.take_length] at ac
      obtain ⟨acc, ea, la, dt⟩ := ac.ex
      walk_at "v"
      refine i_tupleL ea (fun T hT => ?_)
      walk_at "v"
      refine k _ _ ?_ (ac.kp.same.new hT)
      refine NewM.toN (NewM.tup ac.kp hT fun S t h => ?_)
      exact DtAll.mono (fun x hx => List.mem_cons_of_mem _ hx) _ _ (dt S t h)
end Lr
set_option Elab.async false
set_option linter.all false
set_option maxRecDepth 100000
set_option maxHeartbeats 4000000
namespace Lr
open PySem PySem.Spec
      PyProof.Rows L2
local macro_rules | `(tactic| walk_at "ne") => `(tactic| (first | assumption | (refine ne_sym ?_; assumption) | (exact ne_of_none (by assumption) (by assumption)) | (exact ne_sym (ne_of_none (by assumption) (by assumption)))))
local macro_rules | `(tactic| walk_at "h") => `(tactic| (first | assumption | exact upd_same | (refine h_new ?_ (by assumption); walk_at "h") | (refine h_ne (by walk_at "ne") ?_; walk_at "h")))
local macro_rules | `(tactic| walk_at "v1") => `(tactic| (with_reducible first
  | refine i_seq ?_ | refine i_asg ?_ | refine i_ret ?_ | refine i_next ?_ | refine i_drop ?_ | refine i_ifS ?_ | refine i_if ?_ | refine i_and ?_ | refine i_or ?_ | refine i_not ?_ | refine i_test ?_ | refine i_tB ?_ | refine i_bl ?_ | refine i_yes ?_
  | refine i_op ?_ | refine i_un ?_ | refine i_chain ?_ | refine i_andV ?_ | refine i_orV ?_ | refine i_notV ?_ | refine i_cb ?_ | refine i_cons ?_ | refine i_nil ?_ | refine i_bm ?_ | refine i_bm0 ?_ | refine i_c ?_ | refine i_name ?_ | refine i_sub ?_
  | refine i_call ?_ | refine i_lst ?_ | refine i_tup ?_ | refine i_par ?_ | refine i_par2 ?_ | refine i_sl ?_ | refine i_np ?_ | refine i_pt ?_ | refine i_int ?_ | refine i_m0 ?_ | refine i_m1 ?_ | refine i_isS ?_
  | refine i_rI0 ?_ | refine i_inSign ?_ | refine i_notInSign ?_ | refine i_int1 ?_ | refine i_tru ?_ | refine i_isN ?_ | refine i_notN ?_ | refine iteT ?_ | refine iteF ?_ | refine i_brk ?_ | refine i_rt ?_ | refine i_nx ?_ | refine i_bk ?_ | refine i_ct ?_ | refine i_for ?_ | refine i_lc ?_ | refine i_dc ?_ | refine i_iL ?_ | refine i_iT ?_ | refine i_iR1 ?_ | refine i_iR2 ?_ | refine i_iS ?_ | refine i_iE ?_ | refine i_iEK ?_ | refine i_iEQ ?_ | refine i_dget ?_ | refine i_fld ?_ | refine i_sfld ?_ | refine i_dput ?_ | refine i_meth ?_ | refine i_rU ?_ | refine i_cont ?_ | refine i_make ?_))
local macro_rules | `(tactic| walk_at "v2") => `(tactic| (first
  | ((with_reducible refine' i_var ?k1 ?_); (case k1 => exact rfl))
  | ((with_reducible refine' i_eq ?k1 ?_); (case k1 => exact rfl))
  | ((with_reducible refine' i_ne ?k1 ?_); (case k1 => exact rfl))
  | ((with_reducible refine' i_ixL ?k1 ?k2 ?_); (case k1 => walk_at "h"); (case k2 => exact rfl))
  | ((with_reducible refine' i_ixT ?k1 ?k2 ?_); (case k1 => walk_at "h"); (case k2 => exact rfl))
  | ((with_reducible refine' i_lenL ?k1 ?_); (case k1 => walk_at "h"))
  | ((with_reducible refine' i_lenT ?k1 ?_); (case k1 => walk_at "h"))
  | (refine i_wipe (show wipe _ _ = wipe _ _ from rfl) ?_)
  | ((with_reducible refine' i_setL ?k1 ?k2 ?_); (case k1 => walk_at "h"); (case k2 => exact rfl))
  | ((with_reducible refine' i_tyl ?k1 ?_); (case k1 => walk_at "h"))))
local macro_rules | `(tactic| walk_at "v") => `(tactic| repeat (first | walk_at "v1" | walk_at "v2"))

variable {P : Program} {w : World} {K :
      PySem.W.Frag} {mg : Str → Option Value} {base : Heap}
abbrev sLog___init__ : Stmt := inClass (top 19) 0
abbrev NLog___init__ : List Str := ["self", "pages", "records", "names", "index", "thing", "row", "name", "number"]
abbrev PLog___init__ : List Str := ["self", "pages", "records"]
theorem scLog___init__ : FnScope NLog___init__ PLog___init__ (defScope sLog___init__) := ⟨rfl, rfl, rfl, by decide +kernel, rfl, by decide +kernel, by decide +kernel⟩
def logF (tn lr dw ln : Addr) : List (Str × V) := putF "needs" (.ref ln) (putF "writers" (.ref dw) (putF "rows" (.ref lr) (putF "names" (.ref tn) [])))
section
variable (tn lr dw ln : Addr)
theorem logF_names : (logF tn lr dw ln).lookup ("names" : Str) = some (V.ref tn) := by
  unfold logF; rw [lookup_putF, if_neg (by decide +kernel), lookup_putF, if_neg (by decide +kernel), lookup_putF, if_neg (by decide +kernel), lookup_putF, if_pos rfl]
theorem logF_rows : (logF tn lr dw ln).lookup ("rows" : Str) = some (V.ref lr) := by
  unfold logF; rw [lookup_putF, if_neg (by decide +kernel), lookup_putF, if_neg (by decide +kernel), lookup_putF, if_pos rfl]
theorem logF_writers : (logF tn lr dw ln).lookup ("writers" : Str) = some (V.ref dw) := by
  unfold logF; rw [lookup_putF, if_neg (by decide +kernel), lookup_putF, if_pos rfl]
theorem logF_needs : (logF tn lr dw ln).lookup ("needs" : Str) = some (V.ref ln) := by
  unfold logF; rw [lookup_putF, if_pos rfl]
theorem logF_none {f : Str} (h1 : ¬ f = "needs") (h2 : ¬ f = "writers") (h3 : ¬ f = "rows") (h4 : ¬ f = "names") : (logF tn lr dw ln).lookup f = none := by
  unfold logF; rw [lookup_putF, if_neg h1, lookup_putF, if_neg h2, lookup_putF, if_neg h3, lookup_putF, if_neg h4]; rfl
end
def rowsD (l : List Row) : PyData := .list (l.map rowD)
def needsD (L : LG) : PyData := .list ((needs L).map needD)
/-- a Log of L at p, none of its parts in S -/
structure LogAt (S : List Addr) (C : Addr) (H : Hp) (p : Addr) (L : LG) : Prop where
  np : p ∉ S
  ex : ∃ (dx tn lr dw ln : Addr) (kvs : List (Key × V)) (q : Str → Addr), H p = some (.ins C dx (logF tn lr dw ln)) ∧ tn ∉ S ∧ H tn = some (.tup (L.pages.map V.str)) ∧ Dt S H (rowsD L.rows) (.ref lr) ∧
    dw ∉ S ∧ H dw = some (.dK kvs) ∧ WrAt H kvs L.pages L.rows q ∧ (∀ x ∈ L.pages, q x ∉ S) ∧ Dt S H (needsD L) (.ref ln)
/-- what is passed for a record r of pages -/
def RecOf (d : PyData) (pages : List Str) (r : Row) : Prop := (isK "list" d || isK "tuple" d) = true ∧ ∃ da db xs ys, kids d = [da, db] ∧ (∀ z ∈ kids da, (strD z).length ≤ 1000000) ∧ (kids da).length < 64 ∧ (∀ z ∈ kids db, (strD z).length ≤ 1000000) ∧ (kids db).length < 64 ∧
  lotD da pages = some xs ∧ xs.Perm r.1 ∧ lotD db pages = some ys ∧ ys.Perm r.2
def spLogInit (C : Addr) : Sp := fun vs H Q _ => ∃ (S : List Addr) (p dx : Addr) (dP dR : PyData) (vp vr : V) (L : LG) (xs : List Str), vs = [.ref p, vp, vr] ∧ H p = some (.ins C dx []) ∧ p ∈ S ∧ Dt S H dP vp ∧ Dt S H dR vr ∧ L.Ok ∧
  (∀ z ∈ kids dP, (strD z).length ≤ 1000000) ∧ (kids dP).length < 64 ∧ namesD dP = some xs ∧ xs.Perm L.pages ∧ (isK "list" dR || isK "tuple" dR) = true ∧ (kids dR).length = L.rows.length ∧
  (∀ (i : Nat) d r, (kids dR)[i]? = some d → L.rows[i]? = some r → RecOf d L.pages r) ∧
  ∀ H', Keep [p] H H' → (∀ S, Trk S H → p ∉ S → LogAt S C H' p L) → Q .non H'
theorem pw_sub {l l' : List Str} (h : l.Sublist l') (p : l'.Pairwise leS) : l.Pairwise leS := p.sublist h
set_option maxHeartbeats 16000000 in
theorem ok_loginit {C : Addr} (cLog : LogCls K mg C) (d : Md K C "__init__" "Log.__init__" sLog___init__ PLog___init__) (dLog_standing : Md K C "standing" "Log.standing" sLog_standing PLog_standing) (drecord_of : FdRecordOf K mg) (dlot_among : FdLotAmong K mg) (dnames_of : FdNamesOf K mg) (dis_name : FdIsName K mg) (B : Blt mg) :
    FnOk P w K mg base CX0 5 d.f d.fd PLog___init__ (spLogInit C) := by
  have Gnames_of : FnOk P w K mg base CX0 2 dnames_of.f dnames_of.fd Pnames_of spNamesOf := ok_namesof dnames_of dis_name B
  have Grecord_of : FnOk P w K mg base CX0 4 drecord_of.f drecord_of.fd Precord_of spRecordOf := ok_recordof drecord_of dlot_among dnames_of dis_name B
  have GLog_standing : FnOk P w K mg base CX0 1 dLog_standing.f dLog_standing.fd PLog_standing (spStanding C) := ok_standing cLog dLog_standing B
  refine d.F.ok scLog___init__ (fun vs H Q E h => ?_) (fun cdv A outer s H vs Q E hr h => ?_)
  · obtain ⟨S, p, dx, dP, dR, vp, vr, L, xs, rfl, _⟩ := h
    rfl
  · obtain ⟨S, p, dx, dP, dR, vp, vr, L, xs, rfl, hp, hpS, hdP, hdR, ok, zP, lP, eP, pmP, sR, lR, hR, k⟩ := h
    refine ⟨_, (pss_cons (ps_set (i := 3) scLog___init__.nd rfl (by first | exact Or.inl rfl | exact Or.inr rfl) (pe_call Gnames_of (hr.mono (by decide)) (by rfl) dnames_of.g dnames_of.F.kp dnames_of.b .nil pass0 (pa_cons (pv 1) pa_nil)))
      (pss_cons (ps_if (PW.pt (pw_or (pt_cmpR o_isN (pv 3) pe_non (nomark _)) (pw_or1 (pt_not (pt_chain op_le op_le pe_int (pe_callB (c_len K) (by rfl) B.len (by decide +kernel) (pa_cons (pv 3) pa_nil)) pe_int))))) (pss_one ps_never) pss_nil)
      (pss_cons (ps_if (pt_not (pt_val (pe_callB (c_isiT K) (by rfl) B.isinstance (by decide +kernel) (pa_cons (pv 2) (pa_cons (pe_tup (pa_cons (e_ty "list" B.list (by decide +kernel)) (pa_cons (e_ty "tuple" B.tuple (by decide +kernel)) pa_nil))) pa_nil))))) (pss_one ps_never) pss_nil)
      (pss_cons (s_fld K (pv 0) (pe_callTy (c_tuple K) (by rfl) B.tuple (by decide +kernel) (pa_cons (pv 3) pa_nil)))
      (pss_cons (s_fld K (pv 0) (pe_lst pa_nil))
      (pss_cons (ps_for PassesOwn.never rfl (w_enumQ K (by rfl) B.enumerate (pa_cons (pv 2) pa_nil)) (g_tup K (n := 2) rfl (pgs_cons (pg_name (i := 4) scLog___init__.nd rfl (by first | exact Or.inl rfl | exact Or.inr rfl)) (pgs_cons (pg_name (i := 5) scLog___init__.nd rfl (by first | exact Or.inl rfl | exact Or.inr rfl)) pgs_nil)))
      (pss_cons (ps_set (i := 6) scLog___init__.nd rfl (by first | exact Or.inl rfl | exact Or.inr rfl) (pe_call Grecord_of (hr.mono (by decide)) (by rfl) drecord_of.g drecord_of.F.kp drecord_of.b .nil pass0 (pa_cons (pv 5) (pa_cons (pv 3) pa_nil))))
      (pss_cons (ps_if (PW.pt (pw_or (pt_cmpR o_isN (pv 6) pe_non (nomark _)) (pw_or1 (pt_cmpR op_eq (pv 4) pe_int (nomark _))))) (pss_one ps_never) pss_nil)
      (pss_one (ps_expr (e_bm K PySem.F.plainAttrs_list PySem.F.slot_list_append PySem.F.type_list_append mt_append (e_fld K (pv 0)) (pa_cons (pv 6) pa_nil)))))))
      (pss_cons (s_fld K (pv 0) (pe_dc (own := [("name", 7)]) (g := _) rfl scLog___init__.nd (w_list K (pv 3)) (blkOk_by (own := [("name", 7)]) (N := NLog___init__) (sc := defScope sLog___init__) (by decide +kernel)) (fun _ _ _ _ _ => by exact (pg_name (i := 7) scLog___init__.nd rfl (by first | exact Or.inl rfl | exact Or.inr rfl))) (fun _ _ _ _ _ => pts_nil) (fun _ _ _ _ _ => by exact (pv 7)) (fun _ _ _ _ _ => by exact (pe_lst pa_nil))))
      (pss_cons (s_fld K (pv 0) (pe_lst pa_nil))
      (pss_cons (ps_for PassesOwn.never rfl (w_enumK K (by rfl) B.enumerate (pa_cons (e_fld K (pv 0)) pa_nil) (by decide) (by decide)) (g_tup K (n := 2) rfl (pgs_cons (pg_name (i := 8) scLog___init__.nd rfl (by first | exact Or.inl rfl | exact Or.inr rfl)) (pgs_cons (pg_name (i := 6) scLog___init__.nd rfl (by first | exact Or.inl rfl | exact Or.inr rfl)) pgs_nil)))
      (pss_cons (ps_expr (e_bm K PySem.F.plainAttrs_list PySem.F.slot_list_append PySem.F.type_list_append mt_append (e_fld K (pv 0)) (pa_cons (pe_meth (pv 0) cLog.cl dLog_standing.m GLog_standing (hr.mono (by decide)) dLog_standing.b .nil pass0 (pa_cons (pe_ix (x_tup K) (pv 6) pe_int (fun _ _ => rfl)) pa_nil)) pa_nil)))
      (pss_one (ps_for PassesOwn.never rfl (w_tup K (pe_ix (x_tup K) (pv 6) pe_int (fun _ _ => rfl))) (pg_name (i := 7) scLog___init__.nd rfl (by first | exact Or.inl rfl | exact Or.inr rfl))
      (pss_one (ps_expr (e_bm K PySem.F.plainAttrs_list PySem.F.slot_list_append PySem.F.type_list_append mt_append (pe_dget (hu_of hr) (e_fld K (pv 0)) (pv 7) (fun _ _ => rfl)) (pa_cons (pv 8) pa_nil))))))))
      (pss_one (ps_expr (e_bm K PySem.F.plainAttrs_list PySem.F.slot_list_append PySem.F.type_list_append mt_append (e_fld K (pv 0)) (pa_cons (pe_meth (pv 0) cLog.cl dLog_standing.m GLog_standing (hr.mono (by decide)) dLog_standing.b .nil pass0 (pa_cons (pv 3) pa_nil)) pa_nil))))))))))))), ?_⟩
    walk_at "v"
    refine ⟨S, dP, vp, rfl, hdP, zP, lP, (fun e => by rw [eP] at e; cases e), fun xs' e ys q1 H1 pm1 so1 nq1 hq1 sm1 => ?_⟩
    rw [eP] at e; cases e
    obtain rfl : ys = L.pages := sorted_perm so1 (sortedS_pw ok.sorted) (pm1.trans pmP)
    have hp1 := sm1 _ _ hp
    walk_at "v"
    refine ifd (fun z => by cases z) (fun _ => ?_)
    have l1 := ok.pos
    have l2 := ok.most
    have lm : (L.pages.map V.str).length = L.pages.length := List.length_map _
    walk_at "v"
    refine ifd (fun _ => ?_) (fun z => absurd (by show (1 : Int) ≤ _; omega) z)
    walk_at "v"
    refine ifn (fun z => absurd (by show _ ≤ (12 : Int); omega) z) (fun _ => ?_)
    walk_at "v"
    refine ⟨by decide, fun tp htp => ?_⟩
    have sm2 : Same H (upd H1 tp (.tup [.ty "list", .ty "tuple"])) := sm1.new htp
    walk_at "v"
    refine i_isLT (Dt.keep (Keep.of_same sm2) _ _ hdR) upd_same ?_
    walk_at "v"
    rw [sR]
    refine iteF ?_
    walk_at "v"
    refine i_tupleL (h_new hq1 htp) (fun tn htn => ?_)
    walk_at "v"
    have fl0 : ([] : List (Str × V)).length < 1000 := by decide
    refine d_put (h_new (h_new hp1 htp) htn) cLog.cl cLog.nN fl0 ?_
    have sm3 := sm2.new (o := .tup (L.pages.map V.str)) htn
    have ntn : H tn = none := sm2.free htn
    have npt : p ≠ tn := ne_of_none hp ntn
    -- the heap behind self.names = ..
    obtain ⟨H3, eH3⟩ : ∃ H3, H3 = upd (upd (upd H1 tp (.tup [.ty "list", .ty "tuple"])) tn (.tup (L.pages.map V.str))) p (.ins C dx (putF "names" (.ref tn) [])) := ⟨_, rfl⟩
    have k3 : Keep [p] H H3 := by rw [eH3]; exact (Keep.of_same sm3).put (by simp)
    have hp3 : H3 p = some (.ins C dx (putF "names" (.ref tn) [])) := by rw [eH3, upd_same]
    have ht3 : H3 tn = some (.tup (L.pages.map V.str)) := by rw [eH3, upd_ne npt.symm, upd_same]
    have npq : q1 ≠ p := (ne_of_none hp nq1).symm
    have hq3 : H3 q1 = some (.lst (L.pages.map V.str)) := by rw [eH3, upd_ne npq]; exact h_new (h_new hq1 htp) htn
    rw [← eH3]
    clear eH3
    walk_at "v"
    refine ⟨by decide, fun lr hlr => ?_⟩
    walk_at "v"
    refine d_put (h_new hp3 hlr) cLog.cl cLog.nR (Nat.lt_of_le_of_lt (putF_len _ _ _) (by decide)) ?_
    have nlr : H lr = none := k3.free hlr
    have nplr : p ≠ lr := ne_of_none hp nlr
    have npd : p ∉ S ∨ p ∈ S := by by_cases h : p ∈ S <;> simp [h]
    obtain ⟨H4, eH4⟩ : ∃ H4, H4 = upd (upd H3 lr (.lst [])) p (.ins C dx (putF "rows" (.ref lr) (putF "names" (.ref tn) []))) := ⟨_, rfl⟩
    have hp4 : H4 p = some (.ins C dx (putF "rows" (.ref lr) (putF "names" (.ref tn) []))) := by rw [eH4, upd_same]
    have tp3 : Trk [p] H3 := fun s hs => by simp at hs; subst hs; exact ⟨_, hp3⟩
    have ac4 : Acc [p] H3 H4 lr [] := by rw [eH4]; exact (Acc.start (M := [p]) (Keep.refl _ _) hlr).skip tp3 ((Keep.refl _ _).put (by simp))
    rw [← eH4]
    clear eH4
    obtain ⟨rq, ro, rxs, hro, rfl, hrq, nrq, hrx⟩ := hdR.row sR
    have nprq : rq ≠ p := by
      rintro rfl
      rw [hp] at hrq; cases hrq
      rcases hro with h | h <;> cases h
    have hrq4 : H4 rq = some ro := ac4.kp _ _ (by simp [nprq]) (k3 _ _ (by simp [nprq]) hrq)
    have lrx : rxs.length = L.rows.length := by rw [← lR]; exact hrx.length
    walk_at "v"
    refine ⟨rq, rxs, ro, rfl, hro, hrq4, fun J wk => ?_⟩
    refine for_by wk ⟨fun i σ H' => (∃ v4 v5 v6 : Option V, σ = [some (.ref p), some vp, some (.ref rq), some (.ref q1), v4, v5, v6, none, none]) ∧ Acc [p] H3 H' lr ((L.rows.take i).map rowD) ∧ H' p = some (.ins C dx (putF "rows" (.ref lr) (putF "names" (.ref tn) []))), ?_,
      fun i σ H' _ ⟨_, z, _⟩ => z.kp _ _ (by simp [nprq]) (k3 _ _ (by simp [nprq]) hrq), ?_, ?_⟩
    · exact ⟨⟨none, none, none, rfl⟩, by simpa using ac4, hp4⟩
    · rintro i x σ H5 H6 hi ⟨⟨v4, v5, v6, rfl⟩, ac, hp5⟩ ⟨T, y0, y, rfl, hT, rfl, e0, hy⟩
      obtain rfl : y0 = .int ((0 : Int) + (i : Nat)) := (Option.some.inj e0).symm
      obtain ⟨di, hdi, hdx⟩ := hrx.get' hy
      have hil : i < L.rows.length := by omega
      have hri : L.rows[i]? = some L.rows[i] := by simp [hil]
      obtain ⟨sdi, da, db, xa, xb, kd, za, la, zb, lb, ea, pa, eb, pb⟩ := hR i di _ hdi hri
      have k5 : Keep [p] H H5 := k3.trans ac.kp
      have dkeep : ∀ H', Same H5 H' → Dt S H' di y := fun H' sm => Dt.keep ((k5.trans (Keep.of_same sm)).mono (by simp [hpS])) _ _ hdx
      refine g_two upd_same ?_
      walk_at "v"
      refine ⟨S, di, da, db, y, q1, L.pages, xa, xb, rfl, dkeep _ ((Same.refl H5).new hT), sdi, kd, za, la, zb, lb, ?_, ea, eb, ?_, ?_⟩
      · exact h_new (ac.kp _ _ (by simp [npq]) hq3) hT
      · intro z; rw [z] at pb
        exact (ok.writes _ (List.mem_of_getElem? hri)).2 pb.symm.eq_nil
      intro r' w' qr H7 pr sr pw sw nw sm7
      obtain rfl : r' = L.rows[i].1 := sorted_perm sr (pw_sub (ok.reads _ (List.mem_of_getElem? hri)) (sortedS_pw ok.sorted)) (pr.trans pa)
      obtain rfl : w' = L.rows[i].2 := sorted_perm sw (pw_sub (ok.writes _ (List.mem_of_getElem? hri)).1 (sortedS_pw ok.sorted)) (pw.trans pb)
      have sm57 : Same H5 H7 := ((Same.refl H5).new hT).trans sm7
      walk_at "v"
      refine ifd (fun z => by cases z) (fun _ => ?_)
      walk_at "v"
      have i60 : i < 60 := by have := ok.few; omega
      refine ifd (fun z => ?_) (fun _ => ?_)
      · injection z with z; omega
      walk_at "v"
      refine d_fld (sm57 _ _ hp5) cLog.cl cLog.nR (by rw [lookup_putF, if_pos rfl]) ?_
      obtain ⟨acc, ea5, la5, _⟩ := id ac.ex
      refine i_tyl (sm57 _ _ ea5) ?_
      walk_at "v"
      refine i_app (sm57 _ _ ea5) (small1000 (by rw [la5]; simp; omega)) ?_
      have st := ac.step tp3 ea5 (d := rowD L.rows[i]) (v := .ref qr) (H2 := H7) (fun S t hm => nw S (t.same ((Same.refl H5).new hT))) (Keep.of_same sm57)
      refine ⟨⟨_, _, _, rfl⟩, ?_, ?_⟩
      · rw [List.take_succ, hri, List.map_append]
        exact st.2
      · rw [upd_ne nplr]; exact sm57 _ _ hp5
    · rintro σ H5 ⟨⟨v4, v5, v6, rfl⟩, ac5, hp5⟩
      rw [lrx, List.take_length] at ac5
      have k5 : Keep [p] H H5 := k3.trans ac5.kp
      have hq5 : H5 q1 = some (.lst (L.pages.map V.str)) := ac5.kp _ _ (by simp [npq]) hq3
      have ht5 : H5 tn = some (.tup (L.pages.map V.str)) := ac5.kp _ _ (by simp [npt.symm]) ht3
      walk_at "v"
      refine w_lst hq5 ?_
      refine dc_by (walk_list (xs := L.pages.map V.str)) fun dw hdw => ⟨fun i H' => ∃ q : Str → Addr, H' dw = some (.dK ((L.pages.take i).map fun x => (Sum.inr x, V.ref (q x)))) ∧
        (∀ x ∈ L.pages.take i, H5 (q x) = none ∧ q x ≠ dw ∧ H' (q x) = some (.lst [])) ∧ (∀ x ∈ L.pages.take i, ∀ y ∈ L.pages.take i, q x = q y → x = y) ∧ Keep [dw] H5 H', ?_, fun i H' _ ⟨q, _, _, _, z⟩ => SqL.of (z _ _ (by simpa using ne_of_none hq5 hdw) hq5), ?_, ?_⟩
      · exact ⟨fun _ => 0, upd_same, by simp, by simp, (Keep.refl _ _).new' hdw⟩
      · rintro i x H6 H7 hi ⟨q, h1, h2, h3, kp⟩ ⟨rfl, hx⟩
        rw [List.getElem?_map] at hx
        obtain ⟨y, hy, rfl⟩ := Option.map_eq_some_iff.mp hx
        have hyl : i < L.pages.length := by simpa using hi
        have yn : y ∉ L.pages.take i := by
          intro hm
          have nd := ok.nd
          have : (L.pages.take (i + 1)).Nodup := nd.sublist (List.take_sublist _ _)
          rw [List.take_succ, hy] at this
          have := (List.nodup_append.mp this).2.2 y hm y (by simp)
          exact this rfl
        walk_at "v"
        refine ⟨by decide, fun T hT => ⟨_, .inr y, rfl, h_new h1 hT, ?_, ?_⟩⟩
        · rw [List.length_map, List.length_take]; exact small1000 (by omega)
        have nTd : T ≠ dw := (ne_of_none h1 hT).symm
        have nT5 : H5 T = none := kp.free hT
        refine ⟨fun x => if x = y then T else q x, ?_, ?_, ?_, ?_⟩
        · rw [upd_same]
          have e1 : putK ((L.pages.take i).map fun x => ((Sum.inr x : Key), V.ref (q x))) (.inr y) (.ref T) = (L.pages.take i).map (fun x => ((Sum.inr x : Key), V.ref (q x))) ++ [(.inr y, .ref T)] := by
            unfold putK
            rw [if_neg]
            intro h
            rw [List.any_map, List.any_eq_true] at h
            obtain ⟨z, hz, e⟩ := h
            simp at e; subst e; exact yn hz
          rw [e1, List.take_succ, hy]
          simp only [Option.toList_some, List.map_append, List.map_cons, List.map_nil, if_true]
          congr 3
          refine List.map_congr_left fun z hz => ?_
          have : z ≠ y := fun e => yn (e ▸ hz)
          simp [this]
        · intro x hx
          rw [List.take_succ, hy] at hx
          rcases List.mem_append.mp
                hx with hx | hx
          · have : x ≠ y := fun e => yn (e ▸ hx)
            obtain ⟨a1, a2, a3⟩ := h2 x hx
            simp only [this, if_false]
            exact ⟨a1, a2, by rw [upd_ne a2, upd_ne (ne_of_none a3 hT)]; exact a3⟩
          · simp at hx; subst hx
            simp only [if_true]
            exact ⟨nT5, nTd, by rw [upd_ne nTd, upd_same]⟩
        · intro x hx z hz e
          rw [List.take_succ, hy] at hx hz
          have qT : ∀ u ∈ L.pages.take i, q u ≠ T := fun u hu => ne_of_none (h2 u hu).2.2 hT
          rcases List.mem_append.mp hx with a1 | a1 <;> rcases List.mem_append.mp hz with b1 | b1
          · have x1 : x ≠ y := fun e => yn (e ▸ a1)
            have z1 : z ≠ y := fun e => yn (e ▸ b1)
            simp only [x1, z1, if_false] at e
            exact h3 x a1 z b1 e
          · have b2 : z = y := by simpa using b1
            have x1 : x ≠ y := fun e => yn (e ▸ a1)
            simp only [x1, b2, if_false, if_true] at e
            exact absurd e (qT x a1)
          · have a2 : x = y := by simpa using a1
            have z1 : z ≠ y := fun e => yn (e ▸ b1)
            simp only [z1, a2, if_false, if_true] at e
            exact absurd e.symm (qT z b1)
          · have a2 : x = y := by simpa using a1
            have b2 : z = y := by simpa using b1
            rw [a2, b2]
        · exact (kp.new hT).put (by simp)
      · rintro H6 ⟨q, h1, h2, h3, kp6⟩
        rw [List.length_map, List.take_length] at h1 h2 h3
        walk_at "v"
        have sm56 : Same H5 H6 := (kp6.of_cons hdw).same
        have hp6 := sm56 _ _ hp5
        refine d_put hp6 cLog.cl cLog.nW (Nat.lt_of_le_of_lt (putF_len _ _ _) (Nat.lt_of_le_of_lt (Nat.succ_le_succ (putF_len _ _ _)) (by decide))) ?_
        obtain ⟨H7, eH7⟩ : ∃ H7, H7 = upd H6 p (.ins C dx (putF "writers" (.ref dw) (putF "rows" (.ref lr) (putF "names" (.ref tn) [])))) := ⟨_, rfl⟩
        have hp7 : H7 p = some (.ins C dx (putF "writers" (.ref dw) (putF "rows" (.ref lr) (putF "names" (.ref tn) [])))) := by rw [eH7, upd_same]
        have k57 : Keep [p] H5 H7 := by rw [eH7]; exact (Keep.of_same sm56).put (by simp)
        have npdw : dw ≠ p := (ne_of_none hp5 hdw).symm
        have hdw7 : H7 dw = some (.dK (L.pages.map fun x => (Sum.inr x, V.ref (q x)))) := by rw [eH7, upd_ne npdw]; exact h1
        have npq2 : ∀ x ∈ L.pages, q x ≠ p := fun x hx => (ne_of_none hp5 (h2 x hx).1).symm
        have hq7 : ∀ x ∈ L.pages, H7 (q x) = some (.lst ((wr (L.rows.take 0) x).map V.int)) := fun x hx => by
          rw [eH7, upd_ne (npq2 x hx)]; exact (h2 x hx).2.2
        rw [← eH7]
        clear eH7
        walk_at "v"
        refine ⟨by decide, fun ln hln => ?_⟩
        walk_at "v"
        refine d_put (h_new hp7 hln) cLog.cl cLog.nE (Nat.lt_of_le_of_lt (putF_len _ _ _) (Nat.lt_of_le_of_lt (Nat.succ_le_succ (Nat.le_trans (putF_len _ _ _) (Nat.succ_le_succ (putF_len _ _ _)))) (by decide))) ?_
        have npln : p ≠ ln := ne_of_none hp7 hln
        -- what may still change: p, the writers' lists
        obtain ⟨M, eM⟩ : ∃ M, M = L.pages.map q ++ [p] := ⟨_, rfl⟩
        have pM : p ∈ M := by rw [eM]; simp
        have qM : ∀ x ∈ L.pages, q x ∈ M := fun x hx => by rw [eM]; exact List.mem_append_left _ (List.mem_map.mpr ⟨x, hx, rfl⟩)
        have inM : ∀ m ∈ M, m = p ∨ ∃ x ∈ L.pages, m = q x := fun m hm => by
          rw [eM] at hm
          rcases List.mem_append.mp hm with z | z
          · obtain ⟨x, hx, rfl⟩ := List.mem_map.mp z; exact .inr ⟨x, hx, rfl⟩
          · simp at z; exact .inl z
        have tM7 : Trk M H7 := fun m hm => by
          rcases inM m hm with rfl | ⟨x, hx, rfl⟩
          · exact ⟨_, hp7⟩
          · exact ⟨_, hq7 x hx⟩
        have lnM : ln ∉ M := tM7.nm hln
        have dwM : dw ∉ M := fun z => by
          rcases inM dw z with e | ⟨x, hx, e⟩
          · exact npdw e
          · exact (h2 x hx).2.1 e.symm
        have q1M : q1 ∉ M := fun z => by
          rcases inM q1 z with e | ⟨x, hx, e⟩
          · exact npq e
          · have := (h2 x hx).1; rw [← e, hq5] at this; cases this
        have hq1_7 : H7 q1 = some (.lst (L.pages.map V.str)) := k57 _ _ (by simp [npq]) hq5
        have rowsDt : Dt M H7 (rowsD L.rows) (.ref lr) := by
          have a1 := ac5.done [p] tp3 (fun m hm => hm)
          have a2 := Dt.avoid (T := L.pages.map q) (fun t ht => by obtain ⟨x, hx, rfl⟩ := List.mem_map.mp ht; exact (h2 x hx).1) _ _ a1
          rw [eM]
          exact Dt.keep (k57.mono (by simp)) _ _ a2
        obtain ⟨H8, eH8⟩ : ∃ H8, H8 = upd (upd H7 ln (.lst [])) p (.ins C dx (logF tn lr dw ln)) := ⟨_, rfl⟩
        have hp8 : H8 p = some (.ins C dx (logF tn lr dw ln)) := by rw [eH8, upd_same]
        have ac8 : Acc M H7 H8 ln [] := by rw [eH8]; exact (Acc.start (M := M) (Keep.refl _ _) hln).skip tM7 ((Keep.refl _ _).put pM)
        have hq8 : ∀ x ∈ L.pages, H8 (q x) = some (.lst ((wr (L.rows.take 0) x).map V.int)) := fun x hx => by
          rw [eH8, upd_ne (npq2 x hx), upd_ne (ne_of_none (hq7 x hx) hln)]; exact hq7 x hx
        rw [show (putF "needs" (V.ref ln) (putF "writers" (.ref dw) (putF "rows" (.ref lr) (putF "names" (.ref tn) [])))) = logF tn lr dw ln from rfl, ← eH8]
        clear eH8
        unfold rowsD at rowsDt
        obtain ⟨lr', lrx, elr, nlrM, hlr7, dta⟩ := (by unfold Dt at rowsDt; exact rowsDt : ∃ a xs, V.ref lr = .ref a ∧ a ∉ M ∧ H7 a = some (.lst xs) ∧ DtAll M H7 (L.rows.map rowD) xs)
        cases elr
        have lrxl : lrx.length = L.rows.length := by rw [dta.length]; simp
        have needsAt : ∀ n : Nat, n ≤ L.rows.length → (needs L).take n = (List.range n).map (fun i => standing (L.rows.take i) ((L.rows[i]?.getD ([], [])).1)) := fun n hn => by
          unfold needs
          rw [List.take_append_of_le_length (by simp; exact hn), ← List.map_take, List.take_range, Nat.min_eq_left hn]
        walk_at "v"
        refine d_fld hp8 cLog.cl cLog.nR (logF_rows _ _ _ _) ?_
        walk_at "v"
        refine w_enu (ac8.kp _ _ nlrM hlr7) ?_
        refine for_by (walk_enumK (xs := lrx)) ⟨fun i σ H' => (∃ v4 v5 v6 v7 v8 : Option V, σ = [some (.ref p), some vp, some (.ref rq), some (.ref q1), v4, v5, v6, v7, v8]) ∧ Acc M H7 H' ln (((needs L).take i).map needD) ∧ H' p = some (.ins C dx (logF tn lr dw ln)) ∧
          (∀ x ∈ L.pages, H' (q x) = some (.lst ((wr (L.rows.take i) x).map V.int))), ?_, fun i σ H' _ ⟨_, z, _⟩ => SqL.of (z.kp _ _ nlrM hlr7), ?_, ?_⟩
        · exact ⟨⟨_, _, _, _, _, rfl⟩, by simpa using ac8, hp8, hq8⟩
        · rintro i x σ H9 H10 hi ⟨⟨v4, v5, v6, v7, v8, rfl⟩, ac, hp9, hq9⟩ ⟨T, y0, y, rfl, hT, rfl, e0, hy⟩
          obtain rfl : y0 = .int ((1 : Int) + (i : Nat)) := (Option.some.inj e0).symm
          have hil : i < L.rows.length := by omega
          have hri : L.rows[i]? = some L.rows[i] := by simp [hil]
          obtain ⟨di, hdi, hdx⟩ := dta.get' hy
          rw [List.getElem?_map, hri] at hdi
          obtain rfl : di = rowD L.rows[i] := (Option.some.inj hdi).symm
          have reads := ok.reads _ (List.mem_of_getElem? hri)
          have writes := ok.writes _ (List.mem_of_getElem? hri)
          obtain ⟨ri, wi, eri⟩ : ∃ ri wi, L.rows[i] = (ri, wi) := ⟨_, _, rfl⟩
          rw [eri] at hdx reads writes
          obtain ⟨ty, tys, rfl, ntyM, hty, dty⟩ := (by unfold rowD Dt at hdx; exact hdx : ∃ a xs, y = .ref a ∧ a ∉ M ∧ H7 a = some (.tup xs) ∧ DtAll M H7 [.tuple (ri.map .str), .tuple (wi.map .str)] xs)
          obtain ⟨z1, tys', rfl, dz1, dty'⟩ := DtAll.cons_iff.mp dty
          obtain ⟨z2, tys'', rfl, dz2, dty''⟩ := DtAll.cons_iff.mp dty'
          obtain rfl := DtAll.nil_iff.mp dty''
          obtain ⟨t1, xs1, rfl, nt1, ht1, dt1⟩ := (by unfold Dt at dz1; exact dz1 : ∃ a xs, z1 = .ref a ∧ a ∉ M ∧ H7 a = some (.tup xs) ∧ DtAll M H7 (ri.map .str) xs)
          obtain ⟨t2, xs2, rfl, nt2, ht2, dt2⟩ := (by unfold Dt at dz2; exact dz2 : ∃ a xs, z2 = .ref a ∧ a ∉ M ∧ H7 a = some (.tup xs) ∧ DtAll M H7 (wi.map .str) xs)
          obtain rfl := DtAll.of_strs dt1
          obtain rfl := DtAll.of_strs dt2
          refine g_two upd_same ?_
          walk_at "v"
          have sm9 : Same H9 (upd H9 T (.tup [.int ((1 : Int) + (i : Nat)), .ref ty])) := (Same.refl H9).new hT
          refine d_fld (sm9 _ _ hp9) cLog.cl cLog.nE (logF_needs _ _ _ _) ?_
          obtain ⟨acc, ea9, la9, _⟩ := id ac.ex
          refine i_tyl (sm9 _ _ ea9) ?_
          walk_at "v"
          refine ⟨p, dx, _, rfl, sm9 _ _ hp9, logF_none _ _ _ _ (by decide +kernel) (by decide +kernel) (by decide +kernel) (by decide +kernel), ?_⟩
          walk_at "v"
          refine i_ixT (sm9 _ _ (ac.kp _ _ ntyM hty)) (atI_nat (j := 0) rfl) ?_
          walk_at "v"
          refine ⟨p, dx, t1, dw, _, _, ri, L.pages, L.rows.take i, q, _, rfl, sm9 _ _ hp9, logF_writers _ _ _ _, sm9 _ _ (ac.kp _ _ dwM hdw7), ⟨rfl, fun x hx => sm9 _ _ (hq9 x hx)⟩, sm9 _ _ (ac.kp _ _ nt1 ht1), .inr rfl, fun x hx => reads.subset hx, ?_, fun v H11 nv sm11 => ?_⟩
          · have := reads.length_le; simp at this; omega
          have sm911 : Same H9 H11 := sm9.trans sm11
          walk_at "v"
          have needi : (needs L).take (i + 1) = (needs L).take i ++ [standing (L.rows.take i) ri] := by
            rw [needsAt _ hil, needsAt _ (Nat.le_of_lt hil), List.range_succ, List.map_append]
            simp [hri, eri]
          have lenN : (((needs L).take i).map needD).length ≤ 1000 := by rw [needsAt _ (Nat.le_of_lt hil)]; simp; have := ok.few; omega
          refine i_app (sm911 _ _ ea9) (small1000 (by rw [la9]; exact lenN)) ?_
          have st := (ac.step tM7 ea9 (d := needD (standing (L.rows.take i) ri)) (v := v) (H2 := H11) (fun S t hm => nv S (t.same sm9)) (Keep.of_same sm911)).2
          obtain ⟨H12, eH12⟩ : ∃ H12, H12 = upd H11 ln (.lst (acc ++ [v])) := ⟨_, rfl⟩
          rw [← eH12] at st ⊢
          have hp12 : H12 p = some (.ins C dx (logF tn lr dw ln)) := by rw [eH12, upd_ne npln]; exact sm911 _ _ hp9
          have hq12 : ∀ x ∈ L.pages, H12 (q x) = some (.lst ((wr (L.rows.take i) x).map V.int)) := fun x hx => by
            rw [eH12, upd_ne (show q x ≠ ln from fun e => lnM (by rw [← e]; exact qM x hx))]; exact sm911 _ _ (hq9 x hx)
          have hty12 := st.kp _ _ ntyM hty
          have ht2_12 := st.kp _ _ nt2 ht2
          clear eH12
          walk_at "v"
          refine w_tpl ht2_12 ?_
          have wilen : wi.length ≤ 12 := by have := writes.1.length_le; simp at this; omega
          refine for_by (walk_tup (xs := wi.map V.str)) ⟨fun j σ H' => (∃ v4 v5 v7 : Option V, σ = [some (.ref p), some vp, some (.ref rq), some (.ref q1), v4, v5, some (.ref ty), v7, some (.int ((1 : Int) + (i : Nat)))]) ∧ Acc M H7 H' ln (((needs L).take (i + 1)).map needD) ∧ H' p = some (.ins C dx (logF tn lr dw ln)) ∧
            (∀ x ∈ L.pages, H' (q x) = some (.lst ((wr (L.rows.take i) x ++ (if x ∈ wi.take j then [((i : Nat) : Int) + 1] else [])).map V.int))), ?_, fun j σ H' _ ⟨_, z, _⟩ => SqT.of (z.kp _ _ nt2 ht2), ?_, ?_⟩
          · refine ⟨⟨_, _, _, rfl⟩, by rw [needi, List.map_append]; exact st, hp12, fun x hx => by simpa using hq12 x hx⟩
          · rintro j x σ H13 H14 hj ⟨⟨v4, v5, v7, rfl⟩, ac13, hp13, hq13⟩ ⟨rfl, hx⟩
            rw [List.getElem?_map] at hx
            obtain ⟨x, hxj, rfl⟩ := Option.map_eq_some_iff.mp hx
            have hxp : x ∈ L.pages := writes.1.subset (List.mem_of_getElem? hxj)
            have nd := (ok.nd.sublist writes.1)
            have xn : x ∉ wi.take j := fun hm => by
              have nd2 : (wi.take (j + 1)).Nodup := nd.sublist (List.take_sublist _ _)
              rw [List.take_succ, hxj] at nd2
              exact (List.nodup_append.mp nd2).2.2 x hm x (by simp) rfl
            walk_at "v"
            refine d_fld hp13 cLog.cl cLog.nW (logF_writers _ _ _ _) ?_
            walk_at "v"
            refine d_getS (ac13.kp _ _ dwM hdw7) (val_map hxp) ?_
            have hqx := hq13 x hxp
            rw [if_neg xn, List.append_nil] at hqx
            refine i_tyl hqx ?_
            walk_at "v"
            have wrlen : ∀ (t : List Row) (k : Int), (wrF k x t).length ≤ t.length := by
              intro t
              induction t with
              | nil => intro k; simp [wrF]
              | cons r t ih => intro k; simp only [wrF]; split <;> simp <;> have := ih (k + 1) <;> omega
            refine i_app hqx (small1000 ?_) ?_
            · have := wrlen (L.rows.take i) 0
              rw [List.length_take] at this
              have h60 := ok.few
              rw [List.length_map]; unfold wr; omega
            refine ⟨⟨_, _, _, rfl⟩, ac13.skip tM7 ((Keep.refl _ _).put (qM x hxp)), by rw [upd_ne (npq2 x hxp).symm]; exact hp13, fun z hz => ?_⟩
            by_cases e : z = x
            · subst e
              rw [upd_same, if_pos (by rw [List.take_succ, hxj]; simp)]
              rw [List.map_append]
              have : (1 : Int) + (i : Nat) = ((i : Nat) : Int) + 1 := by omega
              rw [this]; rfl
            · have nq : q z ≠ q x := fun h => e (h3 z hz x hxp h)
              rw [upd_ne nq, hq13 z hz]
              have : z ∈ wi.take (j + 1) ↔ z ∈ wi.take j := by rw [List.take_succ, hxj]; simp [e]
              simp only [this]
          · rintro σ H13 ⟨⟨v4, v5, v7, rfl⟩, ac13, hp13, hq13⟩
            rw [List.length_map, List.take_length] at hq13
            walk_at "v"
            refine ⟨⟨_, _, _, _, _, rfl⟩, ac13, hp13, fun x hx => ?_⟩
            rw [hq13 x hx]
            have e1 : L.rows.take (i + 1) = L.rows.take i ++ [(ri, wi)] := by rw [List.take_succ, hri, eri]; rfl
            rw [e1, wr_append, List.length_take, Nat.min_eq_left (Nat.le_of_lt hil)]
        · rintro σ H9 ⟨⟨v4, v5, v6, v7, v8, rfl⟩, ac, hp9, hq9⟩
          rw [lrxl, List.take_length] at hq9
          rw [lrxl] at ac
          have hq1_9 := ac.kp _ _ q1M hq1_7
          walk_at "v"
          refine d_fld hp9 cLog.cl cLog.nE (logF_needs _ _ _ _) ?_
          obtain ⟨acc, ea9, la9, _⟩ := id ac.ex
          refine i_tyl ea9 ?_
          walk_at "v"
          refine ⟨p, dx, _, rfl, hp9, logF_none _ _ _ _ (by decide +kernel) (by decide +kernel) (by decide +kernel) (by decide +kernel), ?_⟩
          walk_at "v"
          refine ⟨p, dx, q1, dw, _, _, L.pages, L.pages, L.rows, q, _, rfl, hp9, logF_writers _ _ _ _, ac.kp _ _ dwM hdw7, ⟨rfl, hq9⟩, hq1_9, .inl rfl, fun x hx => hx, by omega, fun v H11 nv sm11 => ?_⟩
          walk_at "v"
          have nall : needs L = (needs L).take L.rows.length ++ [standing L.rows L.pages] := by
            rw [needsAt _ (Nat.le_refl _)]; rfl
          have lenN : (((needs L).take L.rows.length).map needD).length ≤ 1000 := by rw [needsAt _ (Nat.le_refl _)]; simp; have := ok.few; omega
          refine i_app (sm11 _ _ ea9) (small1000 (by rw [la9]; exact lenN)) ?_
          have st := (ac.step tM7 ea9 (d := needD (standing L.rows L.pages)) (v := v) (H2 := H11) (fun S t hm => nv S t) (Keep.of_same sm11)).2
          obtain ⟨H12, eH12⟩ : ∃ H12, H12 = upd H11 ln (.lst (acc ++ [v])) := ⟨_, rfl⟩
          rw [← eH12] at st ⊢
          have hp12 : H12 p = some (.ins C dx (logF tn lr dw ln)) := by rw [eH12, upd_ne npln]; exact sm11 _ _ hp9
          have hq12 : ∀ x ∈ L.pages, H12 (q x) = some (.lst ((wr L.rows x).map V.int)) := fun x hx => by
            rw [eH12, upd_ne (show q x ≠ ln from fun e => lnM (by rw [← e]; exact qM x hx))]; exact sm11 _ _ (hq9 x hx)
          clear eH12
          have acE : Acc M H7 H12 ln ((needs L).map needD) := by
            rw [nall, List.map_append]; exact st
          have kE : Keep M H7 H12 := acE.kp
          have k5E : Keep M H5 H12 := (k57.mono (fun m hm => by simp at hm; subst hm; exact pM)).trans kE
          have kpE : Keep [p] H H12 := by
            refine ⟨fun a o na e => ?_, fun a o e => (((k5.mono (T := M) (fun m hm => by simp at hm; subst hm; exact pM)).trans k5E)).tr a o e⟩
            have e5 := k5 _ _ na e
            refine k5E _ _ (fun z => ?_) e5
            rcases inM a z with rfl | ⟨x, hx, rfl⟩
            · exact na (by simp)
            · rw [(h2 x hx).1] at e5; cases e5
          refine k H12 kpE fun S' tr npS' => ⟨npS', dx, tn, lr, dw, ln, _, q, hp12, tr.nm ntn, ?_, ?_, ?_, ?_, ⟨rfl, hq12⟩, ?_, ?_⟩
          · refine k5E _ _ (fun z => ?_) ht5
            rcases inM tn z with e | ⟨x, hx, e⟩
            · exact npt e.symm
            · have := (h2 x hx).1; rw [← e, ht5] at this; cases this
          · have t3 : Trk (p :: S') H3 := fun s hs => by
              rcases List.mem_cons.mp
                    hs with rfl | hs
              · exact ⟨_, hp3⟩
              · exact (tr.keep k3) s hs
            have a1 := ac5.done (p :: S') t3 (by simp)
            have a2 := Dt.avoid (T := L.pages.map q) (fun t ht => by obtain ⟨x, hx, rfl⟩ := List.mem_map.mp ht; exact (h2 x hx).1) _ _ a1
            have a3 := Dt.keep (k5E.mono (T := L.pages.map q ++ (p :: S')) (fun m hm => by
              rcases inM m hm with rfl | ⟨x, hx, rfl⟩
              · simp
              · exact List.mem_append_left _ (List.mem_map.mpr ⟨x, hx, rfl⟩))) _ _ a2
            exact Dt.mono (fun s hs => by simp [hs]) _ _ a3
          · exact (tr.keep k5).nm hdw
          · exact kE _ _ dwM hdw7
          · exact fun x hx => (tr.keep k5).nm (h2 x hx).1
          · have t7 : Trk (M ++ S') H7 := fun s hs => by
              rcases List.mem_append.mp hs with hs | hs
              · exact tM7 s hs
              · exact ((tr.keep k5).keep k57) s hs
            exact Dt.mono (fun s hs => by simp [hs]) _ _ (acE.done (M ++ S') t7 (fun m hm => by simp [hm]))
end Lr
set_option Elab.async false
set_option linter.all false
set_option maxRecDepth 100000
set_option maxHeartbeats 4000000
namespace Lr
open PySem PySem.Spec
      PyProof.Rows L2
local macro_rules | `(tactic| walk_at "ne") => `(tactic| (first | assumption | (refine ne_sym ?_; assumption) | (exact ne_of_none (by assumption) (by assumption)) | (exact ne_sym (ne_of_none (by assumption) (by assumption)))))
local macro_rules | `(tactic| walk_at "h") => `(tactic| (first | assumption | exact upd_same | (refine h_new ?_ (by assumption); walk_at "h") | (refine h_ne (by walk_at "ne") ?_; walk_at "h")))
local macro_rules | `(tactic| walk_at "v1") => `(tactic| (with_reducible first
  | refine i_seq ?_ | refine i_asg ?_ | refine i_ret ?_ | refine i_next ?_ | refine i_drop ?_ | refine i_ifS ?_ | refine i_if ?_ | refine i_and ?_ | refine i_or ?_ | refine i_not ?_ | refine i_test ?_ | refine i_tB ?_ | refine i_bl ?_ | refine i_yes ?_
  | refine i_op ?_ | refine i_un ?_ | refine i_chain ?_ | refine i_andV ?_ | refine i_orV ?_ | refine i_notV ?_ | refine i_cb ?_ | refine i_cons ?_ | refine i_nil ?_ | refine i_bm ?_ | refine i_bm0 ?_ | refine i_c ?_ | refine i_name ?_ | refine i_sub ?_
  | refine i_call ?_ | refine i_lst ?_ | refine i_tup ?_ | refine i_par ?_ | refine i_par2 ?_ | refine i_sl ?_ | refine i_np ?_ | refine i_pt ?_ | refine i_int ?_ | refine i_m0 ?_ | refine i_m1 ?_ | refine i_isS ?_
  | refine i_rI0 ?_ | refine i_inSign ?_ | refine i_notInSign ?_ | refine i_int1 ?_ | refine i_tru ?_ | refine i_isN ?_ | refine i_notN ?_ | refine iteT ?_ | refine iteF ?_ | refine i_brk ?_ | refine i_rt ?_ | refine i_nx ?_ | refine i_bk ?_ | refine i_ct ?_ | refine i_for ?_ | refine i_lc ?_ | refine i_dc ?_ | refine i_iL ?_ | refine i_iT ?_ | refine i_iR1 ?_ | refine i_iR2 ?_ | refine i_iS ?_ | refine i_iE ?_ | refine i_iEK ?_ | refine i_iEQ ?_ | refine i_dget ?_ | refine i_fld ?_ | refine i_sfld ?_ | refine i_dput ?_ | refine i_meth ?_ | refine i_rU ?_ | refine i_cont ?_ | refine i_make ?_))
local macro_rules | `(tactic| walk_at "v2") => `(tactic| (first
  | ((with_reducible refine' i_var ?k1 ?_); (case k1 => exact rfl))
  | ((with_reducible refine' i_eq ?k1 ?_); (case k1 => exact rfl))
  | ((with_reducible refine' i_ne ?k1 ?_); (case k1 => exact rfl))
  | ((with_reducible refine' i_ixL ?k1 ?k2 ?_); (case k1 => walk_at "h"); (case k2 => exact rfl))
  | ((with_reducible refine' i_ixT ?k1 ?k2 ?_); (case k1 => walk_at "h"); (case k2 => exact rfl))
  | ((with_reducible refine' i_lenL ?k1 ?_); (case k1 => walk_at "h"))
  | ((with_reducible refine' i_lenT ?k1 ?_); (case k1 => walk_at "h"))
  | (refine i_wipe (show wipe _ _ = wipe _ _ from rfl) ?_)
  | ((with_reducible refine' i_setL ?k1 ?k2 ?_); (case k1 => walk_at "h"); (case k2 => exact rfl))
  | ((with_reducible refine' i_tyl ?k1 ?_); (case k1 => walk_at "h"))))
local macro_rules | `(tactic| walk_at "v") => `(tactic| repeat (first | walk_at "v1" | walk_at "v2"))

variable {P : Program} {w : World} {K :
      PySem.W.Frag} {mg : Str → Option Value} {base : Heap}
abbrev s_law_name : Stmt := top 44
abbrev N_law_name : List Str := ["stream", "signs", "name", "turn"]
abbrev P_law_name : List Str := ["stream"]
theorem sc_law_name : FnScope N_law_name P_law_name (defScope s_law_name) := ⟨rfl, rfl, rfl, by decide +kernel, rfl, by decide +kernel, by decide +kernel⟩
abbrev s_law_names : Stmt := top 45
abbrev N_law_names : List Str := ["stream", "many", "found", "turn", "free", "k", "name"]
abbrev P_law_names : List Str := ["stream", "many"]
theorem sc_law_names : FnScope N_law_names P_law_names (defScope s_law_names) := ⟨rfl, rfl, rfl, by decide +kernel, rfl, by decide +kernel, by decide +kernel⟩
abbrev SG : Str := "abcdefghijklmnopqrstuvwxyz0123456789"
theorem sg_all : ∀ i < 36, (SG.cps.toList[i]?).any (fun c => letB c || figB c) = true := by decide +kernel
theorem sg_let : ∀ i < 26, (SG.cps.toList[i]?).any letB = true := by decide +kernel
theorem sg_at {n : Nat} {f : Nat → Bool} (h : ∀ i < n, (SG.cps.toList[i]?).any f = true) {d : Int} (h0 : 0 ≤ d) (h1 : d < n) : ∃ c, atI SG.cps.toList d = some c ∧ f c = true := by
  have e := h d.toNat (by omega)
  cases q : SG.cps.toList[d.toNat]? with
  | none => rw [q]
        at e; cases e
  | some c =>
    rw [q] at e
    have z := atI_nat q
    rw [Int.toNat_of_nonneg h0] at z
    exact ⟨c, z, e⟩
theorem nameB_one {c : Nat} (h : letB c = true) : nameB ⟨#[c]⟩ = true := by simp [nameB, Str.length, h]
theorem toL_app (x y : Str) : (x ++ y).cps.toList = x.cps.toList ++ y.cps.toList := by
  show (x.cps ++ y.cps).toList = _
  simp
theorem len_app (x y : Str) : (x ++ y).length = x.length + y.length := by
  show (x.cps ++ y.cps).size = _
  simp [Str.length]
theorem nameB_snoc {z : Str} {c : Nat} (h : nameB z = true) (l : z.length < 8) (hc : (letB c || figB c) = true) : nameB (z ++ ⟨#[c]⟩) = true := by
  obtain ⟨l1, l2⟩ := nameB_len h
  simp only [nameB, Bool.and_eq_true, decide_eq_true_eq] at h ⊢
  obtain ⟨⟨⟨_, _⟩, h3⟩, h4⟩ := h
  have e1 : (z ++ (⟨#[c]⟩ : Str)).length = z.length + 1 := len_app _ _
  refine ⟨⟨⟨by omega, by omega⟩, ?_⟩, ?_⟩
  · rw [toL_app, List.all_append, h3]; simpa using hc
  · rw [toL_app]
    cases e : z.cps.toList with
    | nil => rw [e] at h4; cases h4
    | cons a r => rw [e] at h4; simpa using h4
theorem sg_len : SG.length ≤ sizeLine := by decide
def spName (a b : Addr) : Sp := fun vs H Q _ => ∃ n, vs = [.ref a] ∧ StreamAt a b n H ∧ n < 2 ^ 39 ∧ ∀ (z : Str) H', nameB z = true → StreamAt a b (n + 9) H' → Keep [a, b] H H' → Q (.str z) H'
abbrev FdPick (K : PySem.W.Frag) (mg : Str → Option Value) := Fd K mg "_law_pick" s_law_pick P_law_pick
theorem ok_name {a b : Addr} (d : Fd K mg "_law_name" s_law_name P_law_name) (d_law_below : FdB K mg) (d_law_pick : FdPick K mg) (B : Blt mg) : FnOk P w K mg base CX0 3 d.f d.fd P_law_name (spName a b) := by
  have G_law_below : FnOk P w K mg base CX0 1 d_law_below.f d_law_below.fd P_law_below (spBelow a b) := ok_below d_law_below B
  have G_law_pick : FnOk P w K mg base CX0 2 d_law_pick.f d_law_pick.fd P_law_pick (spPick a b) := ok_pick d_law_pick d_law_below B
  refine d.F.ok sc_law_name (fun vs H Q E h => ?_) (fun cdv A outer s H vs Q E hr h => ?_)
  · obtain ⟨n, rfl, _⟩ := h
    rfl
  · obtain ⟨n, rfl, hS, hn, k⟩ := h
    refine ⟨_, (pss_cons (ps_set (i := 1) sc_law_name.nd rfl (by first | exact Or.inl rfl | exact Or.inr rfl) pe_str)
      (pss_cons (ps_set (i := 2) sc_law_name.nd rfl (by first | exact Or.inl rfl | exact Or.inr rfl) (pe_ix ix_str (pv 1) (pe_call G_law_below (hr.mono (by decide)) (by rfl) d_law_below.g d_law_below.F.kp d_law_below.b .nil pass0 (pa_cons (pv 0) (pa_cons pe_int pa_nil))) (fun _ _ => rfl)))
      (pss_cons (ps_for PassesOwn.never rfl (pi_range1 (by rfl) B.range (pa_cons (pe_call G_law_pick (hr.mono (by decide)) (by rfl) d_law_pick.g d_law_pick.F.kp d_law_pick.b .nil pass0 (pa_cons (pv 0) (pa_cons (pe_lst (pa_cons pe_int (pa_cons pe_int (pa_cons pe_int (pa_cons pe_int (pa_cons pe_int (pa_cons pe_int (pa_cons pe_int (pa_cons pe_int (pa_cons pe_int (pa_cons pe_int pa_nil))))))))))) pa_nil))) pa_nil)) (pg_name (i := 3) sc_law_name.nd rfl (by first | exact Or.inl rfl | exact Or.inr rfl))
      (pss_one (ps_set (i := 2) sc_law_name.nd rfl (by first | exact Or.inl rfl | exact Or.inr rfl) (pe_op o_addS (pv 2) (pe_ix ix_str (pv 1) (pe_call G_law_below (hr.mono (by decide)) (by rfl) d_law_below.g d_law_below.F.kp d_law_below.b .nil pass0 (pa_cons (pv 0) (pa_cons pe_int pa_nil))) (fun _ _ => rfl))))))
      (pss_one (ps_ret (pv 2)))))), ?_⟩
    walk_at "v"
    refine ⟨n, 26, rfl, by decide, by decide, hS, by omega, fun d H1 d0 d1 st1 kp1 => ?_⟩
    obtain ⟨c, hc, lc⟩ := sg_at sg_let d0 d1
    refine i_ixS sg_len hc ?_
    walk_at "v"
    refine ⟨by decide, fun l hl => ?_⟩
    walk_at "v"
    refine ⟨n + 1, l, _, rfl, upd_same, (st1.nm hl), by decide, by decide, st1.new hl, by omega, fun x i H2 hx st2 kp2 => ?_⟩
    have hx2 : ∃ m : Nat, m ≤ 7 ∧ x = .int m := by
      have : ∀ i < 10, ∃ m : Nat, m ≤ 7 ∧ ([V.int 0, V.int 0, V.int 1, V.int 1, V.int 2, V.int 3, V.int 4, V.int 5, V.int 6, V.int 7] : List V)[i]? = some (.int (m : Nat)) := by
        intro i hi
        match i, hi with
        | 0, _ => exact ⟨0, by decide, rfl⟩
        | 1, _ => exact ⟨0, by decide, rfl⟩
        | 2, _ => exact ⟨1, by decide, rfl⟩
        | 3, _ => exact ⟨1, by decide, rfl⟩
        | 4, _ => exact ⟨2, by decide, rfl⟩
        | 5, _ => exact ⟨3, by decide, rfl⟩
        | 6, _ => exact ⟨4, by decide, rfl⟩
        | 7, _ => exact ⟨5, by decide, rfl⟩
        | 8, _ => exact ⟨6, by decide, rfl⟩
        | 9, _ => exact ⟨7, by decide, rfl⟩
        | i + 10, h => omega
      have hi : i < 10 := (List.getElem?_eq_some_iff.mp hx).1
      obtain ⟨m, hm, e⟩ := this i hi
      rw [hx] at e
      exact ⟨m, hm, Option.some.inj e⟩
    obtain ⟨m, hm, rfl⟩ := hx2
    walk_at "v"
    refine w_rg1 (by omega) ?_
    refine for_by walk_range ⟨fun i σ H' => ∃ (z : Str) (v3 : Option V), σ = [some (.ref a), some (.str SG), some (.str z), v3] ∧ nameB z = true ∧ z.length = 1 + i ∧ StreamAt a b (n + 2 + i) H' ∧ Keep [a, b] H H', ?_, fun _ _ _ _ _ => trivial, ?_, ?_⟩
    · exact ⟨⟨#[c]⟩, none, rfl, nameB_one lc, rfl, st2, (kp1.new hl).trans kp2⟩
    · rintro i x σ H3 H4 hi ⟨z, v3, rfl, nz, lz, st, kp⟩ ⟨rfl, rfl⟩
      have hi' : i < m := by simpa using hi
      walk_at "v"
      refine ⟨n + 2 + i, 36, rfl, by decide, by decide, st, by omega, fun d H5 d0 d1 st5 kp5 => ?_⟩
      obtain ⟨c, hc, lc⟩ := sg_at sg_all d0 d1
      refine i_ixS sg_len hc ?_
      have l8 := (nameB_len nz).2
      refine i_adds (Nat.le_trans (Nat.add_le_add l8 (Nat.le_refl _)) (by show 8 + 1 ≤ sizeLine; decide)) ?_
      walk_at "v"
      refine ⟨z ++ ⟨#[c]⟩, _, rfl, nameB_snoc nz (by omega) lc, ?_, st5.mono (by omega), kp.trans kp5⟩
      rw [len_app, lz]; show 1 + i + 1 = _; omega
    · rintro σ H3 ⟨z, v3, rfl, nz, lz, st, kp⟩
      walk_at "v"
      refine k z _ nz (st.mono ?_) kp
      have : ((m : Int)).toNat = m := by simp
      rw [this]; omega
end Lr
set_option Elab.async false
set_option linter.all false
set_option maxRecDepth 100000
set_option maxHeartbeats 4000000
namespace Lr
open PySem PySem.Spec
      PyProof.Rows L2
local macro_rules | `(tactic| walk_at "ne") => `(tactic| (first | assumption | (refine ne_sym ?_; assumption) | (exact ne_of_none (by assumption) (by assumption)) | (exact ne_sym (ne_of_none (by assumption) (by assumption)))))
local macro_rules | `(tactic| walk_at "h") => `(tactic| (first | assumption | exact upd_same | (refine h_new ?_ (by assumption); walk_at "h") | (refine h_ne (by walk_at "ne") ?_; walk_at "h")))
local macro_rules | `(tactic| walk_at "v1") => `(tactic| (with_reducible first
  | refine i_seq ?_ | refine i_asg ?_ | refine i_ret ?_ | refine i_next ?_ | refine i_drop ?_ | refine i_ifS ?_ | refine i_if ?_ | refine i_and ?_ | refine i_or ?_ | refine i_not ?_ | refine i_test ?_ | refine i_tB ?_ | refine i_bl ?_ | refine i_yes ?_
  | refine i_op ?_ | refine i_un ?_ | refine i_chain ?_ | refine i_andV ?_ | refine i_orV ?_ | refine i_notV ?_ | refine i_cb ?_ | refine i_cons ?_ | refine i_nil ?_ | refine i_bm ?_ | refine i_bm0 ?_ | refine i_c ?_ | refine i_name ?_ | refine i_sub ?_
  | refine i_call ?_ | refine i_lst ?_ | refine i_tup ?_ | refine i_par ?_ | refine i_par2 ?_ | refine i_sl ?_ | refine i_np ?_ | refine i_pt ?_ | refine i_int ?_ | refine i_m0 ?_ | refine i_m1 ?_ | refine i_isS ?_
  | refine i_rI0 ?_ | refine i_inSign ?_ | refine i_notInSign ?_ | refine i_int1 ?_ | refine i_tru ?_ | refine i_isN ?_ | refine i_notN ?_ | refine iteT ?_ | refine iteF ?_ | refine i_brk ?_ | refine i_rt ?_ | refine i_nx ?_ | refine i_bk ?_ | refine i_ct ?_ | refine i_for ?_ | refine i_lc ?_ | refine i_dc ?_ | refine i_iL ?_ | refine i_iT ?_ | refine i_iR1 ?_ | refine i_iR2 ?_ | refine i_iS ?_ | refine i_iE ?_ | refine i_iEK ?_ | refine i_iEQ ?_ | refine i_dget ?_ | refine i_fld ?_ | refine i_sfld ?_ | refine i_dput ?_ | refine i_meth ?_ | refine i_rU ?_ | refine i_cont ?_ | refine i_make ?_))
local macro_rules | `(tactic| walk_at "v2") => `(tactic| (first
  | ((with_reducible refine' i_var ?k1 ?_); (case k1 => exact rfl))
  | ((with_reducible refine' i_eq ?k1 ?_); (case k1 => exact rfl))
  | ((with_reducible refine' i_ne ?k1 ?_); (case k1 => exact rfl))
  | ((with_reducible refine' i_ixL ?k1 ?k2 ?_); (case k1 => walk_at "h"); (case k2 => exact rfl))
  | ((with_reducible refine' i_ixT ?k1 ?k2 ?_); (case k1 => walk_at "h"); (case k2 => exact rfl))
  | ((with_reducible refine' i_lenL ?k1 ?_); (case k1 => walk_at "h"))
  | ((with_reducible refine' i_lenT ?k1 ?_); (case k1 => walk_at "h"))
  | (refine i_wipe (show wipe _ _ = wipe _ _ from rfl) ?_)
  | ((with_reducible refine' i_setL ?k1 ?k2 ?_); (case k1 => walk_at "h"); (case k2 => exact rfl))
  | ((with_reducible refine' i_tyl ?k1 ?_); (case k1 => walk_at "h"))))
local macro_rules | `(tactic| walk_at "v") => `(tactic| repeat (first | walk_at "v1" | walk_at "v2"))

variable {P : Program} {w : World} {K :
      PySem.W.Frag} {mg : Str → Option Value} {base : Heap}
abbrev FdName (K : PySem.W.Frag) (mg : Str → Option Value) := Fd K mg "_law_name" s_law_name P_law_name
def vn : List Str := (List.range 13).map fun (k : Nat) => ("v" : Str) ++ ((toString (k : Int) : String) : Str)
theorem vn_nd : vn.Nodup := by decide +kernel
theorem vn_name : ∀ x ∈ vn, nameB x = true := by decide +kernel
theorem vn_len : vn.length = 13 := by simp [vn]
theorem vn_short : ∀ i : Nat, i < 13 → (("v" : Str).length + ((toString (i : Int) : String) : Str).length) ≤ 100 := by decide +kernel
theorem nodup_sub : ∀ {vs fs : List Str}, vs.Nodup → (∀ x ∈ vs, x ∈ fs) → vs.length ≤ fs.length
  | [], _, _, _ => by simp
  | v :: vs, fs, nd, h => by
    have hv := h v (by simp)
    rw [List.nodup_cons] at nd
    have ih := nodup_sub (vs := vs) (fs := fs.erase v) nd.2 (fun x hx => (List.mem_erase_of_ne (show x ≠ v from fun e => nd.1 (by rw [← e]; exact hx))).mpr (h x (by simp [hx])))
    rw [List.length_erase_of_mem hv] at ih
    have : 0 < fs.length := List.length_pos_of_mem hv
    simp; omega
theorem pigeon {vs fs : List Str} (nd : vs.Nodup) (h : fs.length < vs.length) : ∃ v ∈ vs, v ∉ fs := by
  apply Classical.byContradiction
  intro z
  have : vs.length ≤ fs.length := nodup_sub nd (fun x hx => Classical.byContradiction fun n => z ⟨x, hx, n⟩)
  omega
def spNames (a b : Addr) : Sp := fun vs H Q _ => ∃ (n many : Nat), vs = [.ref a, .int many] ∧ many ≤ 12 ∧ StreamAt a b n H ∧ n < 2 ^ 38 ∧
  ∀ (ys : List Str) q H', sortedS ys = true → ys.Nodup → (∀ x ∈ ys, nameB x = true) → ys.length = many → H q = none → H' q = some (.lst (ys.map V.str)) → StreamAt a b (n + 9 * many) H' → Keep [a, b] H H' → Q (.ref q) H'
theorem ok_names {a b : Addr} (d : Fd K mg "_law_names" s_law_names P_law_names) (d_law_name : FdName K mg) (d_law_below : FdB K mg) (d_law_pick : FdPick K mg) (B : Blt mg) : FnOk P w K mg base CX0 4 d.f d.fd P_law_names (spNames a b) := by
  have G_law_name : FnOk P w K mg base CX0 3 d_law_name.f d_law_name.fd P_law_name (spName a b) := ok_name d_law_name d_law_below d_law_pick B
  refine d.F.ok sc_law_names (fun vs H Q E h => ?_) (fun cdv A outer s H vs Q E hr h => ?_)
  · obtain ⟨n, many, rfl, _⟩ := h
    rfl
  · obtain ⟨n, many, rfl, hm, hS, hn, k⟩ := h
    refine ⟨_, (pss_cons (ps_set (i := 2) sc_law_names.nd rfl (by first | exact Or.inl rfl | exact Or.inr rfl) (pe_lst pa_nil))
      (pss_cons (ps_for PassesOwn.never rfl (pi_range1 (by rfl) B.range (pa_cons (pv 1) pa_nil)) (pg_name (i := 3) sc_law_names.nd rfl (by first | exact Or.inl rfl | exact Or.inr rfl))
      (pss_cons (ps_set (i := 4) sc_law_names.nd rfl (by first | exact Or.inl rfl | exact Or.inr rfl) (pe_op op_cat (pe_lst (pa_cons (pe_call G_law_name (hr.mono (by decide)) (by rfl) d_law_name.g d_law_name.F.kp d_law_name.b .nil pass0 (pa_cons (pv 0) pa_nil)) pa_nil)) (pe_lc (own := [("k", 5)]) (g := gName 5) (tt := tYes) rfl sc_law_names.nd (pi_range1 (by rfl) B.range (pa_cons pe_int pa_nil)) (blkOk_by (own := [("k", 5)]) (N := N_law_names) (sc := defScope s_law_names) (by decide +kernel)) (fun _ _ _ _ _ => by exact (pg_name (i := 5) sc_law_names.nd rfl (by first | exact Or.inl rfl | exact Or.inr rfl))) (fun _ _ _ _ _ => pts_nil) (fun _ _ _ _ _ => by exact (pe_op o_addS pe_str (pe_callTy c_strI (by rfl) B.str (by decide +kernel) (pa_cons (pv 5) pa_nil)))))))
      (pss_one (ps_expr (e_bm K PySem.F.plainAttrs_list PySem.F.slot_list_append PySem.F.type_list_append mt_append (pv 2) (pa_cons (pe_ix (x_list K) (pe_lc (own := [("name", 6)]) (g := gName 6) rfl sc_law_names.nd (w_list K (pv 4)) (blkOk_by (own := [("name", 6)]) (N := N_law_names) (sc := defScope s_law_names) (by decide +kernel)) (fun _ _ _ _ _ => by exact (pg_name (i := 6) sc_law_names.nd rfl (by first | exact Or.inl rfl | exact Or.inr rfl))) (fun _ _ _ _ _ => by exact (pts_one (pt_cmpR (o_notIn K) (pv 6) (pv 2) (by rfl)))) (fun _ _ _ _ _ => by exact (pv 6))) pe_int (fun _ _ => rfl)) pa_nil))))))
      (pss_one (ps_ret (pe_callB (c_sortS K) (by rfl) B.sorted (by decide +kernel) (pa_cons (pv 2) pa_nil)))))), ?_⟩
    walk_at "v"
    refine ⟨by decide, fun f hf => ?_⟩
    walk_at "v"
    refine w_rg1 (by omega) ?_
    have fm := hS.nm hf
    refine for_by walk_range ⟨fun i σ H' => ∃ (fs : List Str) (v3 v4 v5 v6 : Option V), σ = [some (.ref a), some (.int many), some (.ref f), v3, v4, v5, v6] ∧ fs.Nodup ∧ (∀ x ∈ fs, nameB x = true) ∧ fs.length = i ∧ H' f = some (.lst (fs.map V.str)) ∧ StreamAt a b (n + 9 * i) H' ∧ Keep [a, b] H H', ?_, fun _ _ _ _ _ => trivial, ?_, ?_⟩
    · exact ⟨[], none, none, none, none, rfl, by simp, by simp, rfl, upd_same, hS.new hf, (Keep.refl _ _).new hf⟩
    · rintro i x σ H1 H2 hi ⟨fs, v3, v4, v5, v6, rfl, nd, nm, lf, hf1, st, kp⟩ ⟨rfl, rfl⟩
      have hi' : i < many := by simpa using hi
      walk_at "v"
      refine ⟨n + 9 * i, rfl, st, by omega, fun z H3 nz st3 kp3 => ?_⟩
      have hf3 := kp3 _ _ fm hf1
      walk_at "v"
      refine ⟨show 1 ≤ sizeLine by decide, fun l hl => ?_⟩
      have hf4 : upd H3 l (.lst [.str z]) f = some (.lst (fs.map V.str)) := h_new hf3 hl
      have sm4 : Same H3 (upd H3 l (.lst [.str z])) := (Same.refl H3).new hl
      obtain ⟨H4, eH4⟩ : ∃ H4, H4 = upd H3 l (.lst [.str z]) := ⟨_, rfl⟩
      have hl4 : H4 l = some (.lst [.str z]) := by rw [eH4]; exact upd_same
      rw [← eH4] at hf4 sm4 ⊢
      clear eH4
      walk_at "v"
      refine w_rg1 (n := 13) (by omega) ?_
      refine lc_by walk_range fun D hD => ⟨fun j H' => H' D = some (.lst ((vn.take j).map V.str)) ∧ Same H4 H', ?_, fun _ _ _ _ => trivial, ?_, ?_⟩
      · exact ⟨upd_same, (Same.refl H4).new hD⟩
      · rintro j x H5 H6 hj ⟨h5, sm5⟩ ⟨rfl, rfl⟩
        have hj' : j < 13 := by simpa using hj
        walk_at "v"
        refine i_strI (by have : ∀ i < 13, ((0 : Int) + (i : Nat)).natAbs.log2 < 1920 := by decide
                          exact this j hj') ?_
        have e0 : (0 : Int) + (j : Nat) = (j : Nat) := by omega
        rw [e0]
        refine i_adds (Nat.le_trans (vn_short j hj') (by decide)) ?_
        refine ⟨_, h5, by rw [List.length_map, List.length_take, vn_len]; exact small1000 (by omega), ?_, sm5.put hD⟩
        have : vn[j]? = some (("v" : Str) ++ ((toString (j : Int) : String) : Str)) := by simp [vn, hj']
        rw [List.take_succ, this, List.map_append]
        exact upd_same
      · rintro H5 ⟨h5, sm5⟩
        have e13 : vn.take (((13 : Nat) : Int)).toNat = vn := by
          rw [List.take_of_length_le]; rw [vn_len]; decide
        rw [e13] at h5
        refine i_cat (sm5 _ _ hl4) h5 (by rw [List.length_map, vn_len]; show 1 + 13 ≤ sizeLine; decide) (fun r hr0 => ?_)
        have sm6 : Same H4 (upd H5 r (.lst ([.str z] ++ vn.map V.str))) := sm5.new hr0
        obtain ⟨H6, eH6⟩ : ∃ H6, H6 = upd H5 r (.lst ([.str z] ++ vn.map V.str)) := ⟨_, rfl⟩
        have hr6 : H6 r = some (.lst ((z :: vn).map V.str)) := by rw [eH6]; exact upd_same
        rw [← eH6] at sm6 ⊢
        clear eH6
        have hf6 := sm6 _ _ hf4
        walk_at "v"
        refine w_lst hr6 ?_
        refine lc_by (walk_list (xs := (z :: vn).map V.str)) fun E hE => ⟨fun j H' => H' E = some (.lst ((((z :: vn).take j).filter (fun x => decide (x ∉ fs))).map V.str)) ∧ Same H6 H', ?_, fun j H' _ ⟨_, s⟩ => SqL.of (s _ _ hr6), ?_, ?_⟩
        · exact ⟨upd_same, (Same.refl H6).new hE⟩
        · rintro j x H7 H8 hj ⟨h7, sm7⟩ ⟨rfl, hx⟩
          rw [List.getElem?_map] at hx
          obtain ⟨x, hxj, rfl⟩ := Option.map_eq_some_iff.mp hx
          have et : ((z :: vn).take (j + 1)) = (z :: vn).take j ++ [x] := by rw [List.take_succ, hxj]; rfl
          walk_at "v"
          refine ⟨f, _, rfl, .inl (SqL.of (sm7 _ _ hf6)), rfl, flat_strs _, ?_⟩
          walk_at "v"
          rw [if_pos rfl, inV_strs]
          refine ifn (fun hn => ?_) (fun hn => ?_)
          · walk_at "v"
            refine ⟨_, h7, ?_, ?_, sm7.put hE⟩
            · rw [List.length_map]
              refine small1000 (Nat.le_trans (List.length_filter_le _ _) ?_)
              rw [List.length_take]
              have : (z :: vn).length = 14 := by simp [vn_len]
              omega
            · rw [et, List.filter_append, List.map_append]
              simp only [List.filter_cons, List.filter_nil, hn, not_false_eq_true, decide_true, if_true]
              exact upd_same
          · refine ⟨?_, sm7⟩
            rw [et, List.filter_append]
            simp only [List.filter_cons, List.filter_nil, hn, not_true_eq_false, decide_false]
            simpa using h7
        · rintro H7 ⟨h7, sm7⟩
          rw [List.length_map, List.take_length] at h7
          obtain ⟨v, hv, nv⟩ := pigeon (vs := vn) (fs := fs) vn_nd (by rw [vn_len]; omega)
          cases ef : (z :: vn).filter (fun x => decide (x ∉ fs)) with
          | nil =>
            have : v ∈ (z :: vn).filter (fun x => decide (x ∉ fs)) := by rw [List.mem_filter]; exact ⟨List.mem_cons_of_mem _ hv, by simpa using nv⟩
            rw [ef] at this; cases this
          | cons y r =>
            have hy : y ∈ (z :: vn).filter (fun x => decide (x ∉ fs)) := by rw [ef]; simp
            rw [List.mem_filter] at hy
            rw [ef] at h7
            have hyf : y ∉ fs := by simpa using hy.2
            walk_at "v"
            refine i_ixL h7 (atI_nat (j := 0) rfl) ?_
            walk_at "v"
            have hf7 := sm7 _ _ hf6
            refine i_app hf7 (by rw [List.length_map]; exact small1000 (by omega)) ?_
            have sm37 : Same H3 H7 := (sm4.trans sm6).trans sm7
            have fab := hS.na hf
            refine ⟨fs ++ [y], _, _, _, _, rfl, ?_, ?_, by simp [lf], by rw [List.map_append]; exact upd_same, ?_, ?_⟩
            · rw [List.nodup_append]
              refine ⟨nd, by simp, fun c hc d hd e => ?_⟩
              simp at hd; subst hd; subst e; exact hyf hc
            · intro c hc
              rcases List.mem_append.mp
                    hc with hc | hc
              · exact nm c hc
              · simp at hc; subst hc
                rcases List.mem_cons.mp hy.1 with e | e
                · rw [e]; exact nz
                · exact vn_name _ e
            · have st7 : StreamAt a b (n + 9 * i + 9) H7 := by
                obtain ⟨ne, cells, x, c, k, h1, h2, r⟩ := st3
                exact ⟨ne, cells, x, c, k, sm37 _ _ h1, sm37 _ _ h2, r⟩
              exact (st7.put fab.1 fab.2).mono (by omega)
            · exact ((kp.trans kp3).trans (Keep.of_same sm37)).new' hf
    · rintro σ H1 ⟨fs, v3, v4, v5, v6, rfl, nd, nm, lf, hf1, st, kp⟩
      have lm : fs.length = many := by rw [lf]; simp
      walk_at "v"
      refine ⟨f, _, rfl, SqL.of hf1, by rw [lm]; omega, fun ys q pm so hq => ?_⟩
      walk_at "v"
      refine k ys q _ so (pm.nodup_iff.mpr nd) (fun x hx => nm x (pm.subset hx)) (by rw [pm.length_eq, lm]) (kp.free hq) upd_same ((st.mono ?_).new hq) (kp.new hq)
      rw [← lm]; omega
end Lr
set_option Elab.async false
set_option linter.all false
set_option maxRecDepth 100000
set_option maxHeartbeats 4000000
/-! Vp: ==, in and count over data of any texts, none of it a dict. -/
namespace Lr
open PySem PySem.Spec
      PyProof.Rows L2
section
variable {S : List Addr} {H : Hp}
mutual
theorem Dt.plain : ∀ (d : PyData) (v : V), Dt S H d v → d.plain = true
  | .none, _, _ => rfl
  | .bool _, _, _ => rfl
  | .int _, _, _ => rfl
  | .str _, _, _ => rfl
  | .list ds, _, h => by
    unfold Dt at h
    obtain ⟨a, xs, _, _, _, z⟩ := h
    show PyData.plainAll ds = true
    exact DtAll.plain ds xs z
  | .tuple ds, _, h => by
    unfold Dt at h
    obtain ⟨a, xs, _, _, _, z⟩ := h
    show PyData.plainAll ds = true
    exact DtAll.plain ds xs z
  | .dict _, _, h => by unfold Dt at h; exact h.elim
theorem DtAll.plain : ∀ (ds : List PyData) (xs : List V), DtAll S H ds xs → PyData.plainAll ds = true
  | [], _, _ => rfl
  | d :: ds, _, h => by
    obtain ⟨x, r, _, h1, h2⟩ := DtAll.cons_iff.mp h
    simp only [PyData.plainAll, Dt.plain d x h1, DtAll.plain ds r h2, Bool.and_self]
end
end
section
variable {X : Cx} (K : PySem.W.Frag)
def rEqP (K : PySem.W.Frag) : R2 := fun x y H Q => ∃ d e, Dp K H x d ∧ Dp K H y e ∧ d.plain = true ∧ e.plain = true ∧ (d.depth ≤ 60 ∨ e.depth ≤ 60) ∧ Q (.bl (PyData.eqv d e)) H
def rNeP (K : PySem.W.Frag) : R2 := fun x y H Q => ∃ d e, Dp K H x d ∧ Dp K H y e ∧ d.plain = true ∧ e.plain = true ∧ (d.depth ≤ 60 ∨ e.depth ≤ 60) ∧ Q (.bl (!PyData.eqv d e)) H
def rInP (K : PySem.W.Frag) (neg : Bool) : R2 := fun x c H Q => ∃ d xs, Dp K H x d ∧ (Dp K H c (.list xs) ∨ Dp K H c (.tuple xs)) ∧ PyData.plainAll xs = true ∧ d.plain = true ∧ d.depth ≤ 60 ∧ Q (.bl (if neg = true then !(xs.any fun y => PyData.eqv y d) else xs.any fun y => PyData.eqv y d)) H
theorem o_eqP (hu : X.A.units + 64 < cLine) (hK : X.K = K := by rfl) : OpR X (compareOp .Eq) (rEqP K) := by
  subst hK
  intro pins s σ H x
        y v u Q I rx ry h
  obtain ⟨d, e, hd, he, sd, se, dp, q⟩ := h
  obtain ⟨as, r1⟩
        := Dp.reads I d x v hd rx
  obtain ⟨bs, r2⟩
        := Dp.reads I e y u he ry
  refine SeqAt.eq_plain r1 r2 sd se ?_ ⟨.bl _, H, I, rfl, q⟩
  have : min d.depth e.depth ≤ 60 := by rcases dp with z | z <;> omega
  omega
theorem o_neP (hu : X.A.units + 64 < cLine) (hK : X.K = K := by rfl) : OpR X (compareOp .NotEq) (rNeP K) := by
  subst hK
  intro pins s σ H x
        y v u Q I rx ry h
  obtain ⟨d, e, hd, he, sd, se, dp, q⟩ := h
  obtain ⟨as, r1⟩
        := Dp.reads I d x v hd rx
  obtain ⟨bs, r2⟩
        := Dp.reads I e y u he ry
  refine SeqAt.ne_plain r1 r2 sd se ?_ ⟨.bl _, H, I, rfl, q⟩
  have : min d.depth e.depth ≤ 60 := by rcases dp with z | z <;> omega
  omega
theorem o_inP (hu : X.A.units + 64 < cLine) (hK : X.K = K := by rfl) : OpR X (compareOp .In) (rInP K false) := by
  subst hK
  intro pins s σ H x
        y v u Q I rx ry h
  obtain ⟨d, xs, hd, hc, sx, sd, dp, q⟩ := h
  obtain ⟨as, r1⟩
        := Dp.reads I d x v hd rx
  rcases hc with hc | hc
  · obtain ⟨bs, r2⟩ := Dp.reads I _ y u hc ry
    exact SeqAt.in_list_data r2 r1 sx sd (by omega) ⟨.bl _, H, I, rfl, by simpa using q⟩
  · obtain ⟨bs, r2⟩ := Dp.reads I _ y u hc ry
    exact SeqAt.in_tuple_data r2 r1 sx sd (by omega) ⟨.bl _, H, I, rfl, by simpa using q⟩
theorem o_ninP (hu : X.A.units + 64 < cLine) (hK : X.K = K := by rfl) : OpR X (compareOp .NotIn) (rInP K true) := by
  subst hK
  intro pins s σ H x
        y v u Q I rx ry h
  obtain ⟨d, xs, hd, hc, sx, sd, dp, q⟩ := h
  obtain ⟨as, r1⟩
        := Dp.reads I d x v hd rx
  rcases hc with hc | hc
  · obtain ⟨bs, r2⟩ := Dp.reads I _ y u hc ry
    exact SeqAt.notIn_list_data r2 r1 sx sd (by omega) ⟨.bl _, H, I, rfl, by simpa using q⟩
  · obtain ⟨bs, r2⟩ := Dp.reads I _ y u hc ry
    exact SeqAt.notIn_tuple_data r2 r1 sx sd (by omega) ⟨.bl _, H, I, rfl, by simpa using q⟩
def rCntP (K : PySem.W.Frag) : V → List V → Hp → VK → Prop := fun x xs H Q => ∃ (p : Addr) (ys : List V) (ds : List PyData) (y : V) (d : PyData), x = .ref p ∧ xs = [y] ∧ SqL K H p ys ∧ DpAll K H ys ds ∧ Dp K H y d ∧ PyData.plainAll ds = true ∧ d.plain = true ∧ d.depth ≤ 60 ∧ Q (.int ((ds.countP fun z => PyData.eqv z d : Nat) : Int)) H
theorem mt_cntP (hu : X.A.units + 64 < cLine) (hK : X.K = K := by rfl) : MtR X "list.count" (rCntP K) := by
  subst hK
  intro pins s σ H x
        xs v us Q I rx rxs h
  obtain ⟨p, ys, ds, y, d, rfl, rfl, hs, hds, hy, pds, pd, dd, q⟩ := h
  cases rx
  obtain ⟨u, rfl,
        ru⟩ := rxs.one
  obtain ⟨its, rv, ⟨o, n, ho, hc, hdn, hd⟩, hlen⟩ := I.list hs
  obtain ⟨as, r1⟩ := Dp.readsAll I ds ys its hds rv
  obtain ⟨bs, r2⟩ := Dp.reads I d y u hy ru
  exact SeqAt.count_list_data ⟨o, ho, hc, n, hd⟩ (by simpa using r1) r2 pds pd (by omega) ⟨.int _, H, I.tok _, ⟨s.toks, rfl⟩, q⟩
end
section
variable {K : PySem.W.Frag} {S T : List Addr} {H : Hp} {Q : VK}
theorem i_make {σ : L2.St} {C : Addr} {sp : Sp} {dvs : List V} {E : XK} {t : TA} (h : t σ H fun vs H1 => ∀ x dx, H1 x = none → H1 dx = none → dx ≠ x → sp (.ref x :: (vs ++ dvs)) (upd (upd H1 dx (.own x)) x (.ins C dx [])) (fun v H2 => v = .non ∧ Q (.ref x) H2) E) : tMake C sp dvs E t σ H Q := h
theorem i_eqP {x y : V} {d e : PyData} (h1 : Dt S H d x) (h2 : Dt T H e y) (dp : d.depth ≤ 60 ∨ e.depth ≤ 60) (q : Q (.bl (PyData.eqv d e)) H) : rEqP K x y H Q := ⟨d, e, Dt.dp d x h1, Dt.dp e y h2, Dt.plain d x h1, Dt.plain e y h2, dp, q⟩
theorem i_neP {x y : V} {d e : PyData} (h1 : Dt S H d x) (h2 : Dt T H e y) (dp : d.depth ≤ 60 ∨ e.depth ≤ 60) (q : Q (.bl (!PyData.eqv d e)) H) : rNeP K x y H Q := ⟨d, e, Dt.dp d x h1, Dt.dp e y h2, Dt.plain d x h1, Dt.plain e y h2, dp, q⟩
theorem dt_list {p : Addr} {ds : List PyData} {xs : List V} (h : H p = some (.lst xs)) (z : DtAll S H ds xs) (n : p ∉ S) : Dt S H (.list ds) (.ref p) := by
  unfold Dt; exact ⟨p, xs, rfl, n, h, z⟩
theorem dt_tup {p : Addr} {ds : List PyData} {xs : List V} (h : H p = some (.tup xs)) (z : DtAll S H ds xs) (n : p ∉ S) : Dt S H (.tuple ds) (.ref p) := by
  unfold Dt; exact ⟨p, xs, rfl, n, h, z⟩
theorem dt_strs {p : Addr} {l : List Str} (h : H p = some (.lst (l.map V.str))) : Dt [] H (.list (l.map .str)) (.ref p) := dt_list h (DtAll.strs l) (by simp)
theorem dt_nil {p : Addr} (h : H p = some (.lst [])) : Dt [] H (.list []) (.ref p) := dt_list h DtAll.nil (by simp)
theorem dt_s {x : Str} : Dt S H (.str x) (.str x) := by unfold Dt; rfl
theorem dt_i {x : Int} : Dt S H (.int x) (.int x) := by unfold Dt; rfl
theorem dt_n : Dt S H .none .non := by unfold Dt; rfl
theorem dt_b {x : Bool} : Dt S H (.bool x) (.bl x) := by unfold Dt; rfl
theorem depth_strs : ∀ (l : List Str), PyData.depthAll (l.map .str) = 0
  | [] => rfl
  | x :: r => by show max 0 _ = 0; rw [depth_strs r]; rfl
theorem eqvAll_strs : ∀ (l m : List Str), PyData.eqvAll (l.map .str) (m.map .str) = decide (l = m)
  | [], [] => rfl
  | [], _ :: _ => rfl
  | _ :: _, [] => rfl
  | x :: l, y :: m => by
    have e1 : PyData.eqv (.str x) (.str y) = (x == y) := rfl
    show (PyData.eqv (.str x) (.str y) && PyData.eqvAll (l.map .str) (m.map .str)) = _
    rw [eqvAll_strs l m, e1]
    by_cases h : x = y <;> by_cases h' : l = m <;> simp [h, h']
theorem eqv_strs (l m : List Str) : PyData.eqv (.list (l.map .str)) (.list (m.map .str)) = decide (l = m) := eqvAll_strs l m
end
end Lr
set_option Elab.async false
set_option linter.all false
set_option maxRecDepth 100000
set_option maxHeartbeats 4000000
namespace Lr
open PySem PySem.Spec
      PyProof.Rows L2
local macro_rules | `(tactic| walk_at "ne") => `(tactic| (first | assumption | (refine ne_sym ?_; assumption) | (exact ne_of_none (by assumption) (by assumption)) | (exact ne_sym (ne_of_none (by assumption) (by assumption)))))
local macro_rules | `(tactic| walk_at "h") => `(tactic| (first | assumption | exact upd_same | (refine h_new ?_ (by assumption); walk_at "h") | (refine h_ne (by walk_at "ne") ?_; walk_at "h")))
local macro_rules | `(tactic| walk_at "v1") => `(tactic| (with_reducible first
  | refine i_seq ?_ | refine i_asg ?_ | refine i_ret ?_ | refine i_next ?_ | refine i_drop ?_ | refine i_ifS ?_ | refine i_if ?_ | refine i_and ?_ | refine i_or ?_ | refine i_not ?_ | refine i_test ?_ | refine i_tB ?_ | refine i_bl ?_ | refine i_yes ?_
  | refine i_op ?_ | refine i_un ?_ | refine i_chain ?_ | refine i_andV ?_ | refine i_orV ?_ | refine i_notV ?_ | refine i_cb ?_ | refine i_cons ?_ | refine i_nil ?_ | refine i_bm ?_ | refine i_bm0 ?_ | refine i_c ?_ | refine i_name ?_ | refine i_sub ?_
  | refine i_call ?_ | refine i_lst ?_ | refine i_tup ?_ | refine i_par ?_ | refine i_par2 ?_ | refine i_sl ?_ | refine i_np ?_ | refine i_pt ?_ | refine i_int ?_ | refine i_m0 ?_ | refine i_m1 ?_ | refine i_isS ?_
  | refine i_rI0 ?_ | refine i_inSign ?_ | refine i_notInSign ?_ | refine i_int1 ?_ | refine i_tru ?_ | refine i_isN ?_ | refine i_notN ?_ | refine iteT ?_ | refine iteF ?_ | refine i_brk ?_ | refine i_rt ?_ | refine i_nx ?_ | refine i_bk ?_ | refine i_ct ?_ | refine i_for ?_ | refine i_lc ?_ | refine i_dc ?_ | refine i_iL ?_ | refine i_iT ?_ | refine i_iR1 ?_ | refine i_iR2 ?_ | refine i_iS ?_ | refine i_iE ?_ | refine i_iEK ?_ | refine i_iEQ ?_ | refine i_dget ?_ | refine i_fld ?_ | refine i_sfld ?_ | refine i_dput ?_ | refine i_meth ?_ | refine i_rU ?_ | refine i_cont ?_ | refine i_make ?_))
local macro_rules | `(tactic| walk_at "v2") => `(tactic| (first
  | ((with_reducible refine' i_var ?k1 ?_); (case k1 => exact rfl))
  | ((with_reducible refine' i_eq ?k1 ?_); (case k1 => exact rfl))
  | ((with_reducible refine' i_ne ?k1 ?_); (case k1 => exact rfl))
  | ((with_reducible refine' i_ixL ?k1 ?k2 ?_); (case k1 => walk_at "h"); (case k2 => exact rfl))
  | ((with_reducible refine' i_ixT ?k1 ?k2 ?_); (case k1 => walk_at "h"); (case k2 => exact rfl))
  | ((with_reducible refine' i_lenL ?k1 ?_); (case k1 => walk_at "h"))
  | ((with_reducible refine' i_lenT ?k1 ?_); (case k1 => walk_at "h"))
  | (refine i_wipe (show wipe _ _ = wipe _ _ from rfl) ?_)
  | ((with_reducible refine' i_setL ?k1 ?k2 ?_); (case k1 => walk_at "h"); (case k2 => exact rfl))
  | ((with_reducible refine' i_tyl ?k1 ?_); (case k1 => walk_at "h"))))
local macro_rules | `(tactic| walk_at "v") => `(tactic| repeat (first | walk_at "v1" | walk_at "v2"))

variable {P : Program} {w : World} {K :
      PySem.W.Frag} {mg : Str → Option Value} {base : Heap}
abbrev s_law_record : Stmt := top 46
abbrev N_law_record : List Str := ["stream", "pages", "plain", "one", "kind", "writes", "reads"]
abbrev P_law_record : List Str := ["stream", "pages", "plain"]
theorem sc_law_record : FnScope N_law_record P_law_record (defScope s_law_record) := ⟨rfl, rfl, rfl, by decide +kernel, rfl, by decide +kernel, by decide +kernel⟩
abbrev FdLot (K : PySem.W.Frag) (mg : Str → Option Value) := Fd K mg "_law_lot" s_law_lot P_law_lot
theorem NewM.strs {M : List Addr} {H0 H1 : Hp} {p : Addr} (l : List Str) (k : Keep M H0 H1) (h : H1 p = none) : NewM M H0 (upd H1 p (.tup (l.map V.str))) (.tuple (l.map .str)) (.ref p) := NewM.tup k h fun _ _ _ => DtAll.strs l
theorem NewM.row {M : List Addr} {H0 H1 : Hp} {p t1 t2 : Addr} {r w : List Str} (k : Keep M H0 H1) (h : H1 p = none) (n1 : NewM M H0 H1 (.tuple (r.map .str)) (.ref t1)) (n2 : NewM M H0 H1 (.tuple (w.map .str)) (.ref t2)) :
    NewM M H0 (upd H1 p (.tup [.ref t1, .ref t2])) (rowD (r, w)) (.ref p) := NewM.tup k h fun S t m => DtAll.cons (n1 S t m) (DtAll.cons (n2 S t m) DtAll.nil)
def spRecord (a b : Addr) : Sp := fun vs H Q _ => ∃ (n : Nat) (p : Addr) (pages : List Str) (plain : Bool), vs = [.ref a, .ref p, .bl plain] ∧ H p = some (.lst (pages.map V.str)) ∧ p ∉ [a, b] ∧ 1 ≤ pages.length ∧ pages.length ≤ 12 ∧ StreamAt a b n H ∧ n < 2 ^ 38 ∧
  ∀ (r w : List Str) v H', r.Sublist pages → w.Sublist pages → w ≠ [] → NewM [a, b] H H' (rowD (r, w)) v → StreamAt a b (n + 30) H' → Keep [a, b] H H' → Q v H'
theorem StreamAt.same {a b : Addr} {n : Nat} {H H' : Hp} (s : StreamAt a b n H) (k : Same H H') : StreamAt a b n H' := by
  obtain ⟨ne, cells, x, c, m, h1, h2, r⟩ := s
  exact ⟨ne, cells, x, c, m, k _ _ h1, k _ _ h2, r⟩
theorem ok_record {a b : Addr} (d : Fd K mg "_law_record" s_law_record P_law_record) (d_law_below : FdB K mg) (d_law_pick : FdPick K mg) (d_law_lot : FdLot K mg) (B : Blt mg) : FnOk P w K mg base CX0 3 d.f d.fd P_law_record (spRecord a b) := by
  have G_law_below : FnOk P w K mg base CX0 1 d_law_below.f d_law_below.fd P_law_below (spBelow a b) := ok_below d_law_below B
  have G_law_pick : FnOk P w K mg base CX0 2 d_law_pick.f d_law_pick.fd P_law_pick (spPick a b) := ok_pick d_law_pick d_law_below B
  have G_law_lot : FnOk P w K mg base CX0 2 d_law_lot.f d_law_lot.fd P_law_lot (spLot a b) := ok_lot d_law_lot d_law_below B
  refine d.F.ok sc_law_record (fun vs H Q E h => ?_) (fun cdv A outer s H vs Q E hr h => ?_)
  · obtain ⟨n, p, pages, plain, rfl, _⟩ := h
    rfl
  · obtain ⟨n, p, pages, plain, rfl, hp, np, l1, l12, hS, hn, k⟩ := h
    refine ⟨_, (pss_cons (ps_set (i := 3) sc_law_record.nd rfl (by first | exact Or.inl rfl | exact Or.inr rfl) (pe_call G_law_pick (hr.mono (by decide)) (by rfl) d_law_pick.g d_law_pick.F.kp d_law_pick.b .nil pass0 (pa_cons (pv 0) (pa_cons (pv 1) pa_nil))))
      (pss_cons (ps_set (i := 4) sc_law_record.nd rfl (by first | exact Or.inl rfl | exact Or.inr rfl) (pe_call G_law_below (hr.mono (by decide)) (by rfl) d_law_below.g d_law_below.F.kp d_law_below.b .nil pass0 (pa_cons (pv 0) (pa_cons pe_int pa_nil))))
      (pss_cons (ps_if (pt_cmpR op_lt (pv 4) pe_int (nomark _)) (pss_one (ps_ret (pe_tup (pa_cons (pe_tup pa_nil) (pa_cons (pe_tup (pa_cons (pv 3) pa_nil)) pa_nil))))) pss_nil)
      (pss_cons (ps_if (PW.pt (pw_or (pt_cmpR op_eq (pv 4) pe_int (nomark _)) (pw_or1 (pt_val (pv 2))))) (pss_one (ps_ret (pe_tup (pa_cons (pe_tup (pa_cons (pv 3) pa_nil)) (pa_cons (pe_tup (pa_cons (pv 3) pa_nil)) pa_nil))))) pss_nil)
      (pss_cons (ps_if (pt_cmpR op_lt (pv 4) pe_int (nomark _)) (pss_one (ps_ret (pe_tup (pa_cons (pe_tup (pa_cons (pe_call G_law_pick (hr.mono (by decide)) (by rfl) d_law_pick.g d_law_pick.F.kp d_law_pick.b .nil pass0 (pa_cons (pv 0) (pa_cons (pv 1) pa_nil))) pa_nil)) (pa_cons (pe_tup (pa_cons (pv 3) pa_nil)) pa_nil))))) pss_nil)
      (pss_cons (ps_set (i := 5) sc_law_record.nd rfl (by first | exact Or.inl rfl | exact Or.inr rfl) (pe_call G_law_lot (hr.mono (by decide)) (by rfl) d_law_lot.g d_law_lot.F.kp d_law_lot.b .nil pass0 (pa_cons (pv 0) (pa_cons (pv 1) (pa_cons pe_int pa_nil)))))
      (pss_cons (ps_if (pt_cmpR (o_eqP K hr.units) (pv 5) (pe_lst pa_nil) (nomark _)) (pss_one (ps_set (i := 5) sc_law_record.nd rfl (by first | exact Or.inl rfl | exact Or.inr rfl) (pe_lst (pa_cons (pv 3) pa_nil)))) pss_nil)
      (pss_cons (ps_set (i := 6) sc_law_record.nd rfl (by first | exact Or.inl rfl | exact Or.inr rfl) (pe_ifExp (pt_cmpR op_eq (pv 4) pe_int (nomark _)) (pe_lst pa_nil) (pe_call G_law_lot (hr.mono (by decide)) (by rfl) d_law_lot.g d_law_lot.F.kp d_law_lot.b .nil pass0 (pa_cons (pv 0) (pa_cons (pv 1) (pa_cons pe_int pa_nil))))))
      (pss_one (ps_ret (pe_tup (pa_cons (pe_callTy (c_tuple K) (by rfl) B.tuple (by decide +kernel) (pa_cons (pv 6) pa_nil)) (pa_cons (pe_callTy (c_tuple K) (by rfl) B.tuple (by decide +kernel) (pa_cons (pv 5) pa_nil)) pa_nil))))))))))))), ?_⟩
    have lm : (pages.map V.str).length = pages.length := by simp
    walk_at "v"
    refine ⟨n, p, _, rfl, hp, np, by omega, by omega, hS, by omega, fun x i H1 hx st1 kp1 => ?_⟩
    rw [List.getElem?_map] at hx
    obtain ⟨one, hone, rfl⟩ := Option.map_eq_some_iff.mp hx
    have om : one ∈ pages := List.mem_of_getElem? hone
    have osub : [one].Sublist pages := List.singleton_sublist.mpr om
    walk_at "v"
    refine ⟨n + 1, 9, rfl, by decide, by decide, st1, by omega, fun kind H2 k0 k9 st2 kp2 => ?_⟩
    have kp02 := kp1.trans kp2
    have row1 : ∀ (r : List Str) (H3 : Hp) (t1 : Addr) (n3 : Nat), r.Sublist pages → n3 ≤ n + 30 → NewM [a, b] H H3 (.tuple (r.map .str)) (.ref t1) → StreamAt a b n3 H3 → Keep [a, b] H H3 →
        (∀ (v : V) H', (∃ r w : List Str, r.Sublist pages ∧ w.Sublist pages ∧ w ≠ [] ∧ NewM [a, b] H H' (rowD (r, w)) v ∧ StreamAt a b (n + 30) H' ∧ Keep [a, b] H H') → Q v H') →
        ∀ t2, H3 t2 = none → ∀ p, upd H3 t2 (.tup [.str one]) p = none → Q (.ref p) (upd (upd H3 t2 (.tup [.str one])) p (.tup [.ref t1, .ref t2])) := fun r H3 t1 n3 sr hn3 n1 st3 kp3 k' t2 h2 p hp => by
      have s2 : Same H3 (upd H3 t2 (.tup [.str one])) := (Same.refl H3).new h2
      refine k' _ _ ⟨r, [one], sr, osub, by simp, NewM.row (kp3.trans (Keep.of_same s2)) hp (n1.keep (Keep.of_same s2)) (NewM.strs [one] kp3 h2), ((st3.new h2).new hp).mono hn3, (kp3.new h2).new hp⟩
    have kk : ∀ (v : V) H', (∃ r w : List Str, r.Sublist pages ∧ w.Sublist pages ∧ w ≠ [] ∧ NewM [a, b] H H' (rowD (r, w)) v ∧ StreamAt a b (n + 30) H' ∧ Keep [a, b] H H') → Q v H' := fun v H' ⟨r, w, h1, h2, h3, h4, h5, h6⟩ => k r w v H' h1 h2 h3 h4 h5 h6
    walk_at "v"
    refine ifd (fun c1 => ?_) (fun c1 => ?_)
    · walk_at "v"
      refine ⟨by decide, fun t1 h1 => ?_⟩
      walk_at "v"
      refine ⟨show 1 ≤ sizeLine by decide, fun t2 h2 => ?_⟩
      walk_at "v"
      refine ⟨show 2 ≤ sizeLine by decide, fun p' hp' => ?_⟩
      walk_at "v"
      exact row1 [] _ t1 (n + 2) (List.nil_sublist _) (by omega) (NewM.strs [] kp02 h1) (st2.new h1) (kp02.new h1) kk t2 h2 p' hp'
    · walk_at "v"
      have two : ∀ t1, H2 t1 = none → ∀ t2, upd H2 t1 (.tup [.str one]) t2 = none → ∀ p', upd (upd H2 t1 (.tup [.str one])) t2 (.tup [.str one]) p' = none → Q (.ref p') (upd (upd (upd H2 t1 (.tup [.str one])) t2 (.tup [.str one])) p' (.tup [.ref t1, .ref t2])) := fun t1 h1 t2 h2 p' hp' =>
        row1 [one] _ t1 (n + 2) osub (by omega) (NewM.strs [one] kp02 h1) (st2.new h1) (kp02.new h1) kk t2 h2 p' hp'
      refine ifd (fun c2 => ?_) (fun c2 => ?_)
      · walk_at "v"
        refine ⟨show 1 ≤ sizeLine by decide, fun t1 h1 => ?_⟩
        walk_at "v"
        refine ⟨show 1 ≤ sizeLine by decide, fun t2 h2 => ?_⟩
        walk_at "v"
        exact ⟨show 2 ≤ sizeLine by decide, two t1 h1 t2 h2⟩
      · walk_at "v"
        cases plain with
        | true =>
          refine iteT ?_
          walk_at "v"
          refine ⟨show 1 ≤ sizeLine by decide, fun t1 h1 => ?_⟩
          walk_at "v"
          refine ⟨show 1 ≤ sizeLine by decide, fun t2 h2 => ?_⟩
          walk_at "v"
          exact ⟨show 2 ≤ sizeLine by decide, two t1 h1 t2 h2⟩
        | false =>
          refine iteF ?_
          walk_at "v"
          refine ifd (fun c3 => ?_) (fun c3 => ?_)
          · walk_at "v"
            refine ⟨n + 2, p, _, rfl, kp02 _ _ np hp, np, by omega, by omega, st2, by omega, fun x i H3 hx st3 kp3 => ?_⟩
            rw [List.getElem?_map] at hx
            obtain ⟨rd, hrd, rfl⟩ := Option.map_eq_some_iff.mp hx
            have rsub : [rd].Sublist pages := List.singleton_sublist.mpr (List.mem_of_getElem? hrd)
            have kp03 := kp02.trans kp3
            walk_at "v"
            refine ⟨show 1 ≤ sizeLine by decide, fun t1 h1 => ?_⟩
            walk_at "v"
            refine ⟨show 1 ≤ sizeLine by decide, fun t2 h2 => ?_⟩
            walk_at "v"
            exact ⟨show 2 ≤ sizeLine by decide, row1 [rd] _ t1 (n + 3) rsub (by omega) (NewM.strs [rd] kp03 h1) (st3.new h1) (kp03.new h1) kk t2 h2⟩
          · walk_at "v"
            refine ⟨n + 2, p, _, 3, rfl, kp02 _ _ np hp, np, by decide, by decide, by omega, st2, by omega, fun q ys H3 sb hq hq3 st3 kp3 => ?_⟩
            obtain ⟨ws, wsub, rfl⟩ := List.sublist_map_iff.mp sb
            have kp03 := kp02.trans kp3
            walk_at "v"
            refine ⟨show 0 ≤ sizeLine by decide, fun l hl => ?_⟩
            walk_at "v"
            refine i_eqP (d := .list (ws.map .str)) (e := .list []) (dt_strs (h_new hq3 hl)) (dt_nil upd_same) (.inr (by decide)) ?_
            have ee : PyData.eqv (.list (ws.map .str)) (.list []) = decide (ws = []) := eqv_strs ws []
            rw [ee]
            walk_at "v"
            have hqH : H q = none := (kp02.free hq)
            have hlH : H l = none := kp03.free hl
            have fin : ∀ (W : Addr) (wl : List Str) (H4 : Hp), wl.Sublist pages → wl ≠ [] → H4 W = some (.lst (wl.map V.str)) → H W = none → StreamAt a b (n + 2 + pages.length) H4 → Keep [a, b] H H4 →
                tSeq (tAsg (tIf (tTest (tOp rEq (tVar 4) (tC (V.int 6)))) (tLst tNil) (tCall (spLot a b) [] E0 (tCons (tVar 0) (tCons (tVar 1) (tCons (tC (V.int 2)) tNil))))) (gName 6))
                  (tRet (tTup (tCons (tCB (rTuple K) (tCons (tVar 6) tNil)) (tCons (tCB (rTuple K) (tCons (tVar 5) tNil)) tNil)))) { nx := fun x H' => Q V.non H', rt := Q }
                  [some (.ref a), some (.ref p), some (.bl false), some (.str one), some (.int kind), some (.ref W), none] H4 := fun W wl H4 sw nw hW hWH st4 kp4 => by
              have nW := hS.nm hWH
              have fin2 : ∀ (R : Addr) (rl : List Str) (H5 : Hp), rl.Sublist pages → H5 R = some (.lst (rl.map V.str)) → H5 W = some (.lst (wl.map V.str)) → StreamAt a b (n + 30) H5 → Keep [a, b] H H5 →
                  (tRet (tTup (tCons (tCB (rTuple K) (tCons (tVar 6) tNil)) (tCons (tCB (rTuple K) (tCons (tVar 5) tNil)) tNil)))) { nx := fun x H' => Q V.non H', rt := Q }
                  [some (.ref a), some (.ref p), some (.bl false), some (.str one), some (.int kind), some (.ref W), some (.ref R)] H5 := fun R rl H5 sr hR hW5 st5 kp5 => by
                walk_at "v"
                refine i_tupleL hR (fun t1 h1 => ?_)
                walk_at "v"
                refine i_tupleL (h_new hW5 h1) (fun t2 h2 => ?_)
                walk_at "v"
                refine ⟨show 2 ≤ sizeLine by decide, fun p' hp' => ?_⟩
                walk_at "v"
                have kp6 := kp5.new (o := .tup (rl.map V.str)) h1
                have s2 : Same (upd H5 t1 (.tup (rl.map V.str))) (upd (upd H5 t1 (.tup (rl.map V.str))) t2 (.tup (wl.map V.str))) := (Same.refl _).new h2
                exact kk _ _ ⟨rl, wl, sr, sw, nw, NewM.row (kp6.new h2) hp' ((NewM.strs rl kp5 h1).keep (Keep.of_same s2)) (NewM.strs wl kp6 h2), ((st5.new h1).new h2).new hp', (kp6.new h2).new hp'⟩
              walk_at "v"
              refine ifd (fun c5 => ?_) (fun c5 => ?_)
              · walk_at "v"
                refine ⟨show 0 ≤ sizeLine by decide, fun R hR => ?_⟩
                exact fin2 R [] _ (List.nil_sublist _) upd_same (h_new hW hR) ((st4.new hR).mono (by omega)) (kp4.new hR)
              · walk_at "v"
                refine ⟨n + 2 + pages.length, p, _, 2, rfl, kp4 _ _ np hp, np, by decide, by decide, by omega, st4, by omega, fun R ys H5 sb hR hR5 st5 kp5 => ?_⟩
                obtain ⟨rl, rsub, rfl⟩ := List.sublist_map_iff.mp sb
                exact fin2 R rl _ rsub hR5 (kp5 _ _ nW hW) (st5.mono (by omega)) (kp4.trans kp5)
            have st3' : StreamAt a b (n + 2 + pages.length) H3 := st3.mono (by omega)
            refine ifd (fun c4 => ?_) (fun c4 => ?_)
            · walk_at "v"
              refine ⟨show 1 ≤ sizeLine by decide, fun W hW => ?_⟩
              exact fin W [one] _ osub (by simp) upd_same ((kp03.new hl).free hW) ((st3'.new hl).new hW) ((kp03.new hl).new hW)
            ·              exact fin q ws _ wsub c4 (h_new hq3 hl) hqH (st3'.new hl) (kp03.new hl)
end Lr
set_option Elab.async false
set_option linter.all false
set_option maxRecDepth 100000
set_option maxHeartbeats 4000000
namespace Lr
open PySem PySem.Spec
      PyProof.Rows L2
local macro_rules | `(tactic| walk_at "ne") => `(tactic| (first | assumption | (refine ne_sym ?_; assumption) | (exact ne_of_none (by assumption) (by assumption)) | (exact ne_sym (ne_of_none (by assumption) (by assumption)))))
local macro_rules | `(tactic| walk_at "h") => `(tactic| (first | assumption | exact upd_same | (refine h_new ?_ (by assumption); walk_at "h") | (refine h_ne (by walk_at "ne") ?_; walk_at "h")))
local macro_rules | `(tactic| walk_at "v1") => `(tactic| (with_reducible first
  | refine i_seq ?_ | refine i_asg ?_ | refine i_ret ?_ | refine i_next ?_ | refine i_drop ?_ | refine i_ifS ?_ | refine i_if ?_ | refine i_and ?_ | refine i_or ?_ | refine i_not ?_ | refine i_test ?_ | refine i_tB ?_ | refine i_bl ?_ | refine i_yes ?_
  | refine i_op ?_ | refine i_un ?_ | refine i_chain ?_ | refine i_andV ?_ | refine i_orV ?_ | refine i_notV ?_ | refine i_cb ?_ | refine i_cons ?_ | refine i_nil ?_ | refine i_bm ?_ | refine i_bm0 ?_ | refine i_c ?_ | refine i_name ?_ | refine i_sub ?_
  | refine i_call ?_ | refine i_lst ?_ | refine i_tup ?_ | refine i_par ?_ | refine i_par2 ?_ | refine i_sl ?_ | refine i_np ?_ | refine i_pt ?_ | refine i_int ?_ | refine i_m0 ?_ | refine i_m1 ?_ | refine i_isS ?_
  | refine i_rI0 ?_ | refine i_inSign ?_ | refine i_notInSign ?_ | refine i_int1 ?_ | refine i_tru ?_ | refine i_isN ?_ | refine i_notN ?_ | refine iteT ?_ | refine iteF ?_ | refine i_brk ?_ | refine i_rt ?_ | refine i_nx ?_ | refine i_bk ?_ | refine i_ct ?_ | refine i_for ?_ | refine i_lc ?_ | refine i_dc ?_ | refine i_iL ?_ | refine i_iT ?_ | refine i_iR1 ?_ | refine i_iR2 ?_ | refine i_iS ?_ | refine i_iE ?_ | refine i_iEK ?_ | refine i_iEQ ?_ | refine i_dget ?_ | refine i_fld ?_ | refine i_sfld ?_ | refine i_dput ?_ | refine i_meth ?_ | refine i_rU ?_ | refine i_cont ?_ | refine i_make ?_))
local macro_rules | `(tactic| walk_at "v2") => `(tactic| (first
  | ((with_reducible refine' i_var ?k1 ?_); (case k1 => exact rfl))
  | ((with_reducible refine' i_eq ?k1 ?_); (case k1 => exact rfl))
  | ((with_reducible refine' i_ne ?k1 ?_); (case k1 => exact rfl))
  | ((with_reducible refine' i_ixL ?k1 ?k2 ?_); (case k1 => walk_at "h"); (case k2 => exact rfl))
  | ((with_reducible refine' i_ixT ?k1 ?k2 ?_); (case k1 => walk_at "h"); (case k2 => exact rfl))
  | ((with_reducible refine' i_lenL ?k1 ?_); (case k1 => walk_at "h"))
  | ((with_reducible refine' i_lenT ?k1 ?_); (case k1 => walk_at "h"))
  | (refine i_wipe (show wipe _ _ = wipe _ _ from rfl) ?_)
  | ((with_reducible refine' i_setL ?k1 ?k2 ?_); (case k1 => walk_at "h"); (case k2 => exact rfl))
  | ((with_reducible refine' i_tyl ?k1 ?_); (case k1 => walk_at "h"))))
local macro_rules | `(tactic| walk_at "v") => `(tactic| repeat (first | walk_at "v1" | walk_at "v2"))

variable {P : Program} {w : World} {K :
      PySem.W.Frag} {mg : Str → Option Value} {base : Heap}
abbrev s_law_log : Stmt := top 47
abbrev N_law_log : List Str := ["stream", "size", "many", "count", "pages", "plain", "k"]
abbrev P_law_log : List Str := ["stream", "size"]
theorem sc_law_log : FnScope N_law_log P_law_log (defScope s_law_log) := ⟨rfl, rfl, rfl, by decide +kernel, rfl, by decide +kernel, by decide +kernel⟩
abbrev FdNames (K : PySem.W.Frag) (mg : Str → Option Value) := Fd K mg "_law_names" s_law_names P_law_names
abbrev FdRecord (K : PySem.W.Frag) (mg : Str → Option Value) := Fd K mg "_law_record" s_law_record P_law_record
abbrev FdChance (K : PySem.W.Frag) (mg : Str → Option Value) := Fd K mg "_law_chance" s_law_chance P_law_chance
def logD (L : LG) : PyData := .list [.list (L.pages.map .str), .list (L.rows.map rowD)]
theorem three (x y z : Int) (k : Nat) (h : k < 3) : ∃ m : Int, (m = x ∨ m = y ∨ m = z) ∧ atI [V.int x, V.int y, V.int z] (k : Nat) = some (.int m) := by
  match k, h with
  | 0, _ => exact ⟨x, .inl rfl, atI_nat (j := 0) rfl⟩
  | 1, _ => exact ⟨y, .inr (.inl rfl), atI_nat (j := 1) rfl⟩
  | 2, _ => exact ⟨z, .inr (.inr rfl), atI_nat (j := 2) rfl⟩
def spLog (a b : Addr) : Sp := fun vs H Q _ => ∃ (n k : Nat), vs = [.ref a, .int k] ∧ k < 3 ∧ StreamAt a b n H ∧ n < 2 ^ 37 ∧
  ∀ (L : LG) v H', L.Ok → NewM [a, b] H H' (logD L) v → StreamAt a b (n + 2000) H' → Keep [a, b] H H' → Q v H'
theorem StreamAt.trk {a b : Addr} {n : Nat} {H : Hp} (s : StreamAt a b n H) : Trk [a, b] H := by
  obtain ⟨ne, cells, x, c, m, h1, h2, r⟩ := s
  intro q hq
  rcases List.mem_cons.mp
        hq with rfl | hq
  · exact ⟨_, h1⟩
  · simp at hq; subst hq; exact ⟨_, h2⟩
theorem ok_log {a b : Addr} (d : Fd K mg "_law_log" s_law_log P_law_log) (d_law_below : FdB K mg) (d_law_pick : FdPick K mg) (d_law_lot : FdLot K mg) (d_law_chance : FdChance K mg) (d_law_name : FdName K mg) (d_law_names : FdNames K mg) (d_law_record : FdRecord K mg) (B : Blt mg) : FnOk P w K mg base CX0 5 d.f d.fd P_law_log (spLog a b) := by
  have G_law_below : FnOk P w K mg base CX0 1 d_law_below.f d_law_below.fd P_law_below (spBelow a b) := ok_below d_law_below B
  have G_law_chance : FnOk P w K mg base CX0 2 d_law_chance.f d_law_chance.fd P_law_chance (spChance a b) := ok_chance d_law_chance d_law_below B
  have G_law_names : FnOk P w K mg base CX0 4 d_law_names.f d_law_names.fd P_law_names (spNames a b) := ok_names d_law_names d_law_name d_law_below d_law_pick B
  have G_law_record : FnOk P w K mg base CX0 3 d_law_record.f d_law_record.fd P_law_record (spRecord a b) := ok_record d_law_record d_law_below d_law_pick d_law_lot B
  refine d.F.ok sc_law_log (fun vs H Q E h => ?_) (fun cdv A outer s H vs Q E hr h => ?_)
  · obtain ⟨n, k, rfl, _⟩ := h
    rfl
  · obtain ⟨n, sz, rfl, hsz, hS, hn, k⟩ := h
    refine ⟨_, (pss_cons (ps_set (i := 2) sc_law_log.nd rfl (by first | exact Or.inl rfl | exact Or.inr rfl) (pe_op op_add pe_int (pe_call G_law_below (hr.mono (by decide)) (by rfl) d_law_below.g d_law_below.F.kp d_law_below.b .nil pass0 (pa_cons (pv 0) (pa_cons (pe_ix (x_list K) (pe_lst (pa_cons pe_int (pa_cons pe_int (pa_cons pe_int pa_nil)))) (pv 1) (fun _ _ => rfl)) pa_nil)))))
      (pss_cons (ps_set (i := 3) sc_law_log.nd rfl (by first | exact Or.inl rfl | exact Or.inr rfl) (pe_call G_law_below (hr.mono (by decide)) (by rfl) d_law_below.g d_law_below.F.kp d_law_below.b .nil pass0 (pa_cons (pv 0) (pa_cons (pe_ix (x_list K) (pe_lst (pa_cons pe_int (pa_cons pe_int (pa_cons pe_int pa_nil)))) (pv 1) (fun _ _ => rfl)) pa_nil))))
      (pss_cons (ps_if (PW.pt (pw_and (pt_cmpR op_eq (pv 1) pe_int (nomark _)) (pw_and1 (pt_val (pe_call G_law_chance (hr.mono (by decide)) (by rfl) d_law_chance.g d_law_chance.F.kp d_law_chance.b .nil pass0 (pa_cons (pv 0) (pa_cons pe_int pa_nil))))))) (pss_one (ps_asg (pe_tup (pa_cons pe_int (pa_cons pe_int pa_nil))) (g_tup K (n := 2) rfl (pgs_cons (pg_name (i := 2) sc_law_log.nd rfl (by first | exact Or.inl rfl | exact Or.inr rfl)) (pgs_cons (pg_name (i := 3) sc_law_log.nd rfl (by first | exact Or.inl rfl | exact Or.inr rfl)) pgs_nil))))) pss_nil)
      (pss_cons (ps_set (i := 4) sc_law_log.nd rfl (by first | exact Or.inl rfl | exact Or.inr rfl) (pe_call G_law_names (hr.mono (by decide)) (by rfl) d_law_names.g d_law_names.F.kp d_law_names.b .nil pass0 (pa_cons (pv 0) (pa_cons (pv 2) pa_nil))))
      (pss_cons (ps_set (i := 5) sc_law_log.nd rfl (by first | exact Or.inl rfl | exact Or.inr rfl) (pe_call G_law_chance (hr.mono (by decide)) (by rfl) d_law_chance.g d_law_chance.F.kp d_law_chance.b .nil pass0 (pa_cons (pv 0) (pa_cons pe_int pa_nil))))
      (pss_one (ps_ret (pe_lst (pa_cons (pv 4) (pa_cons (pe_lc (own := [("k", 6)]) (g := gName 6) (tt := tYes) rfl sc_law_log.nd (pi_range1 (by rfl) B.range (pa_cons (pv 3) pa_nil)) (blkOk_by (own := [("k", 6)]) (N := N_law_log) (sc := defScope s_law_log) (by decide +kernel)) (fun _ _ _ _ _ => by exact (pg_name (i := 6) sc_law_log.nd rfl (by first | exact Or.inl rfl | exact Or.inr rfl))) (fun _ _ _ _ _ => pts_nil) (fun _ _ _ _ _ => by exact (pe_call G_law_record (hr.mono (by decide)) (by rfl) d_law_record.g d_law_record.F.kp d_law_record.b .nil pass0 (pa_cons (pv 0) (pa_cons (pv 4) (pa_cons (pv 5) pa_nil)))))) pa_nil)))))))))), ?_⟩
    walk_at "v"
    refine ⟨show 3 ≤ sizeLine by decide, fun l hl => ?_⟩
    walk_at "v"
    obtain ⟨m1, hm1, e1⟩ := three 4 6 12 sz hsz
    refine i_ixL upd_same e1 ?_
    walk_at "v"
    refine ⟨n, m1, rfl, by omega, by omega, hS.new hl, by omega, fun d1 H1 d10 d11 st1 kp1 => ?_⟩
    walk_at "v"
    refine ⟨show 3 ≤ sizeLine by decide, fun l2 hl2 => ?_⟩
    walk_at "v"
    obtain ⟨m2, hm2, e2⟩ := three 7 15 61 sz hsz
    refine i_ixL upd_same e2 ?_
    walk_at "v"
    have kp01 : Keep [a, b] H H1 := ((Keep.refl _ _).new hl).trans kp1
    refine ⟨n + 1, m2, rfl, by omega, by omega, st1.new hl2, by omega, fun d2 H2 d20 d21 st2 kp2 => ?_⟩
    have kp02 : Keep [a, b] H H2 := (kp01.new hl2).trans kp2
    have fin : ∀ (many count : Nat) (H3 : Hp), 1 ≤ many → many ≤ 12 → count ≤ 60 → StreamAt a b (n + 3) H3 → Keep [a, b] H H3 →
        tSeq (tAsg (tCall (spNames a b) [] E0 (tCons (tVar 0) (tCons (tVar 2) tNil))) (gName 4)) (tSeq (tAsg (tCall (spChance a b) [] E0 (tCons (tVar 0) (tCons (tC (V.int 8)) tNil))) (gName 5))
          (tRet (tLst (tCons (tVar 4) (tCons (tLc (iRng1 (tCons (tVar 3) tNil)) (gName 6) tYes (tCall (spRecord a b) [] E0 (tCons (tVar 0) (tCons (tVar 4) (tCons (tVar 5) tNil)))) [6]) tNil))))) { nx := fun x H' => Q V.non H', rt := Q }
          [some (.ref a), some (.int sz), some (.int many), some (.int count), none, none, none] H3 := fun many count H3 hm1 hm12 hc st3 kp3 => by
      walk_at "v"
      refine ⟨n + 3, many, rfl, hm12, st3, by omega, fun ys q H4 so nd nm ly hq hq4 st4 kp4 => ?_⟩
      have kp04 := kp3.trans kp4
      have nq := st3.nm hq
      walk_at "v"
      refine ⟨n + 3 + 9 * many, 8, rfl, by decide, by decide, st4, by omega, fun pl H5 st5 kp5 => ?_⟩
      have hq5 := kp5 _ _ nq hq4
      have kp05 := kp04.trans kp5
      have np : NewM [a, b] H H5 (.list (ys.map .str)) (.ref q) := fun S t m => by
        unfold Dt; exact ⟨q, _, rfl, t.nm (kp3.free hq), hq5, DtAll.strs _⟩
      walk_at "v"
      refine w_rg1 (by omega) ?_
      refine lc_by walk_range fun D hD => ⟨fun i H' => ∃ rows : List Row, rows.length = i ∧ (∀ r ∈ rows, r.1.Sublist ys ∧ r.2.Sublist ys ∧ r.2 ≠ []) ∧ Acc [a, b] H H' D (rows.map rowD) ∧ StreamAt a b (n + 4 + 9 * many + 30 * i) H' ∧ Keep [a, b] H5 H', ?_, fun _ _ _ _ => trivial, ?_, ?_⟩
      · exact ⟨[], rfl, by simp, Acc.start kp05 hD, (st5.new hD).mono (by omega), (Keep.refl _ _).new hD⟩
      · rintro i x H6 H7 hi ⟨rows, lr, okr, ac, st6, kp6⟩ ⟨rfl, rfl⟩
        have hi' : i < count := by simpa using hi
        walk_at "v"
        refine ⟨n + 4 + 9 * many + 30 * i, q, ys, pl, rfl, kp6 _ _ nq hq5, nq, by omega, by omega, st6, by omega, fun r w v H8 sr sw nw nv st8 kp8 => ?_⟩
        obtain ⟨acc, ea, la, _⟩ := id ac.ex
        obtain ⟨e8, ac8⟩ := ac.step hS.trk ea nv kp8
        have hDab := st5.nm hD
        simp only [List.mem_cons, List.not_mem_nil, or_false, not_or] at hDab
        refine ⟨acc, e8, by rw [la, List.length_map, lr]; exact small1000 (by omega), rows ++ [(r, w)], by simp [lr], fun z hz => ?_, by rw [List.map_append]; exact ac8, (st8.put hDab.1 hDab.2).mono (by omega), (kp6.trans kp8).new' hD⟩
        rcases List.mem_append.mp
              hz with hz | hz
        · exact okr z hz
        · simp at hz; subst hz; exact ⟨sr, sw, nw⟩
      · rintro H6 ⟨rows, lr, okr, ac, st6, kp6⟩
        have lc : rows.length = count := by rw [lr]; simp
        walk_at "v"
        refine ⟨show 2 ≤ sizeLine by decide, fun p hp => ?_⟩
        walk_at "v"
        have kp06 := kp05.trans kp6
        refine k ⟨ys, rows⟩ _ _ ⟨so, nd, nm, show 1 ≤ ys.length by omega, show ys.length ≤ 12 by omega, show rows.length ≤ 60 by omega, fun r hr => (okr r hr).1, fun r hr => (okr r hr).2⟩ (NewM.lst kp06 hp fun S t m => DtAll.cons (np.keep kp6 S t m) (DtAll.cons (ac.done S t m) DtAll.nil)) ((st6.new hp).mono ?_) (kp06.new hp)
        rw [lr] at lc; rw [lc]; omega
    obtain ⟨y1, rfl⟩ : ∃ y : Nat, d1 = y := ⟨d1.toNat, by omega⟩
    obtain ⟨y2, rfl⟩ : ∃ y : Nat, d2 = y := ⟨d2.toNat, by omega⟩
    have e1' : (1 : Int) + (y1 : Nat) = ((1 + y1 : Nat) : Int) := by omega
    rw [e1']
    walk_at "v"
    refine ifd (fun c1 => ?_) (fun c1 => ?_)
    · walk_at "v"
      refine ⟨n + 2, 2, rfl, by decide, by decide, st2, by omega, fun b1 H3 st3 kp3 => ?_⟩
      walk_at "v"
      have kp03 := kp02.trans kp3
      cases b1 with
      | true =>
        refine iteT ?_
        walk_at "v"
        refine ⟨show 2 ≤ sizeLine by decide, fun t ht => ?_⟩
        refine g_two upd_same ?_
        exact fin 12 60 _ (by decide) (by decide) (by decide) (st3.new ht) (kp03.new ht)
      | false =>
        refine iteF ?_
        exact fin (1 + y1) y2 _ (by omega) (by omega) (by omega) st3 kp03
    · refine iteF ?_
      exact fin (1 + y1) y2 _ (by omega) (by omega) (by omega) (st2.mono (by omega)) kp02
end Lr
set_option Elab.async false
set_option linter.all false
set_option maxRecDepth 100000
set_option maxHeartbeats 4000000
namespace Lr
open PySem PySem.Spec
      PyProof.Rows L2
local macro_rules | `(tactic| walk_at "ne") => `(tactic| (first | assumption | (refine ne_sym ?_; assumption) | (exact ne_of_none (by assumption) (by assumption)) | (exact ne_sym (ne_of_none (by assumption) (by assumption)))))
local macro_rules | `(tactic| walk_at "h") => `(tactic| (first | assumption | exact upd_same | (refine h_new ?_ (by assumption); walk_at "h") | (refine h_ne (by walk_at "ne") ?_; walk_at "h")))
local macro_rules | `(tactic| walk_at "v1") => `(tactic| (with_reducible first
  | refine i_seq ?_ | refine i_asg ?_ | refine i_ret ?_ | refine i_next ?_ | refine i_drop ?_ | refine i_ifS ?_ | refine i_if ?_ | refine i_and ?_ | refine i_or ?_ | refine i_not ?_ | refine i_test ?_ | refine i_tB ?_ | refine i_bl ?_ | refine i_yes ?_
  | refine i_op ?_ | refine i_un ?_ | refine i_chain ?_ | refine i_andV ?_ | refine i_orV ?_ | refine i_notV ?_ | refine i_cb ?_ | refine i_cons ?_ | refine i_nil ?_ | refine i_bm ?_ | refine i_bm0 ?_ | refine i_c ?_ | refine i_name ?_ | refine i_sub ?_
  | refine i_call ?_ | refine i_lst ?_ | refine i_tup ?_ | refine i_par ?_ | refine i_par2 ?_ | refine i_sl ?_ | refine i_np ?_ | refine i_pt ?_ | refine i_int ?_ | refine i_m0 ?_ | refine i_m1 ?_ | refine i_isS ?_
  | refine i_rI0 ?_ | refine i_inSign ?_ | refine i_notInSign ?_ | refine i_int1 ?_ | refine i_tru ?_ | refine i_isN ?_ | refine i_notN ?_ | refine iteT ?_ | refine iteF ?_ | refine i_brk ?_ | refine i_rt ?_ | refine i_nx ?_ | refine i_bk ?_ | refine i_ct ?_ | refine i_for ?_ | refine i_lc ?_ | refine i_dc ?_ | refine i_iL ?_ | refine i_iT ?_ | refine i_iR1 ?_ | refine i_iR2 ?_ | refine i_iS ?_ | refine i_iE ?_ | refine i_iEK ?_ | refine i_iEQ ?_ | refine i_dget ?_ | refine i_fld ?_ | refine i_sfld ?_ | refine i_dput ?_ | refine i_meth ?_ | refine i_rU ?_ | refine i_cont ?_ | refine i_make ?_))
local macro_rules | `(tactic| walk_at "v2") => `(tactic| (first
  | ((with_reducible refine' i_var ?k1 ?_); (case k1 => exact rfl))
  | ((with_reducible refine' i_eq ?k1 ?_); (case k1 => exact rfl))
  | ((with_reducible refine' i_ne ?k1 ?_); (case k1 => exact rfl))
  | ((with_reducible refine' i_ixL ?k1 ?k2 ?_); (case k1 => walk_at "h"); (case k2 => exact rfl))
  | ((with_reducible refine' i_ixT ?k1 ?k2 ?_); (case k1 => walk_at "h"); (case k2 => exact rfl))
  | ((with_reducible refine' i_lenL ?k1 ?_); (case k1 => walk_at "h"))
  | ((with_reducible refine' i_lenT ?k1 ?_); (case k1 => walk_at "h"))
  | (refine i_wipe (show wipe _ _ = wipe _ _ from rfl) ?_)
  | ((with_reducible refine' i_setL ?k1 ?k2 ?_); (case k1 => walk_at "h"); (case k2 => exact rfl))
  | ((with_reducible refine' i_tyl ?k1 ?_); (case k1 => walk_at "h"))))
local macro_rules | `(tactic| walk_at "v") => `(tactic| repeat (first | walk_at "v1" | walk_at "v2"))

variable {P : Program} {w : World} {K :
      PySem.W.Frag} {mg : Str → Option Value} {base : Heap}
abbrev s_law_same : Stmt := top 39
abbrev N_law_same : List Str := ["found", "due", "x", "y"]
abbrev P_law_same : List Str := ["found", "due"]
theorem sc_law_same : FnScope N_law_same P_law_same (defScope s_law_same) := ⟨rfl, rfl, rfl, by decide +kernel, rfl, by decide +kernel, by decide +kernel⟩
/-- at most k - 1 deep, no row beyond a thousand -/
def Fit : Nat → PyData → Prop
  | 0, _ => False
  | _ + 1, .none => True
  | _ + 1, .bool _ => True
  | _ + 1, .int _ => True
  | _ + 1, .str _ => True
  | k + 1, .list ds => ds.length ≤ 1000 ∧ ∀ d ∈ ds, Fit k d
  | k + 1, .tuple ds => ds.length ≤ 1000 ∧ ∀ d ∈ ds, Fit k d
  | _ + 1, .dict _ => False
theorem w_zipv {K : PySem.W.Frag} {σ : L2.St} {H : Hp} {R : It → Hp → Prop} {i j : Nat} {a b : Addr} {o1 o2 : HO} {xs ys : List V} (e1 : σ[i]? = some (some (.ref a))) (e2 : σ[j]? = some (some (.ref b)))
    (ho : (o1 = .lst xs ∧ o2 = .lst ys) ∨ (o1 = .tup xs ∧ o2 = .tup ys)) (hn : xs.length = ys.length) (h1 : H a = some o1) (h2 : H b = some o2)
    (f : ∀ J, Walk J xs.length (fun H => H a = some o1 ∧ H b = some o2) (YPair (fun i => xs[i]?) (fun i => ys[i]?)) → R J H) : RZ.iZipA K (tCons (tVar i) (tCons (tVar j) tNil)) σ H R := by
  refine ⟨_, e1, _, e2, a, b, xs, ys, rfl, ?_⟩
  rcases ho with ⟨rfl, rfl⟩ | ⟨rfl, rfl⟩
  · exact .inl ⟨SqL.of h1, SqL.of h2, f _ ((walk_zip (by omega)).mono (fun _ z => ⟨SqL.of z.1, SqL.of z.2⟩) fun _ _ _ _ _ _ y => y)⟩
  · refine .inr ⟨SqT.of h1, SqT.of h2, f _ ⟨fun i H hi q => ?_, fun H q => ⟨xs, ys, SqT.of q.1, SqT.of q.2, by omega⟩, fun i H v H' _ q y => ?_⟩⟩
    · exact ⟨xs, ys, xs[i], ys[i]'(by omega), SqT.of q.1, SqT.of q.2, by simp [hi], by simp [show i < ys.length by omega]⟩
    · obtain ⟨T, x, z, h1,
          h2, h3, h4, h5⟩ := y
      exact ⟨T, x, z, h1, h2, h3, h4 xs (SqT.of q.1), h5 ys (SqT.of q.2)⟩
/-- both as they stand -/
theorem Dt.rows {S T : List Addr} {H : Hp} {d : PyData} {u v : V} (h1 : Dt S H d u) (h2 : Dt T H d v) (hs : (isK "list" d || isK "tuple" d) = true) :
    ∃ (p q : Addr) (o1 o2 : HO) (xs ys : List V), ((o1 = .lst xs ∧ o2 = .lst ys) ∨ (o1 = .tup xs ∧ o2 = .tup ys)) ∧ u = .ref p ∧ v = .ref q ∧ H p = some o1 ∧ H q = some o2 ∧ DtAll S H (kids d) xs ∧ DtAll T H (kids d) ys := by
  cases d with
  | list ds =>
    unfold Dt at h1 h2
    obtain ⟨a, xs, rfl, _, q, z⟩ := h1
    obtain ⟨b, ys, rfl, _, q', z'⟩ := h2
    exact ⟨a, b, _, _, xs, ys, .inl ⟨rfl, rfl⟩, rfl, rfl, q, q', z, z'⟩
  | tuple ds =>
    unfold Dt at h1 h2
    obtain ⟨a, xs, rfl, _, q, z⟩ := h1
    obtain ⟨b, ys, rfl, _, q', z'⟩ := h2
    exact ⟨a, b, _, _, xs, ys, .inr ⟨rfl, rfl⟩, rfl, rfl, q, q', z, z'⟩
  | _ => simp [isK, ptype] at hs
theorem Fit.kids {k : Nat} {d : PyData} (h : Fit (k + 1) d) (hs : (isK "list" d || isK "tuple" d) = true) : (kids d).length ≤ 1000 ∧ ∀ z ∈ kids d, Fit k z := by
  cases d with
  | list ds => exact h
  | tuple ds => exact h
  | _ => simp [isK, ptype] at hs
theorem Dt.same {S : List Addr} {H H' : Hp} {d : PyData} {v : V} (h : Dt S H d v) (k : Same H H') : Dt S H' d v := Dt.keep (Keep.of_same k) _ _ h
def spSame (k : Nat) : Sp := fun vs H Q _ => ∃ (S T : List Addr) (d : PyData) (u v : V), vs = [u, v] ∧ Dt S H d u ∧ Dt T H d v ∧ Fit k d ∧ ∀ H', Same H H' → Q (.bl true) H'
theorem ok_same (d_law_same : Fd K mg "_law_same" s_law_same P_law_same) (B : Blt mg) : ∀ k, FnOk P w K mg base CX0 k d_law_same.f d_law_same.fd P_law_same (spSame k) := by
  intro k
  induction k with
  | zero => exact ⟨fun vs H Q E ⟨S, T, d, u, v, _, _, _, f, _⟩ => f.elim, fun A outer s H args us vs Q E hr he hb hv ⟨S, T, d, u, v, _, _, _, f, _⟩ => f.elim⟩
  | succ k ih =>
  have G_law_same := ih
  refine d_law_same.F.ok sc_law_same (fun vs H Q E h => ?_) (fun cdv A outer s H vs Q E hr h => ?_)
  · obtain ⟨S, T, d, u, v, rfl, _⟩ := h
    rfl
  · obtain ⟨S, T, d, u, v, rfl, h1, h2, ft, k'⟩ := h
    refine ⟨_, (pss_cons (ps_if (pt_val (pe_callB (c_isiT K) (by rfl) B.isinstance (by decide +kernel) (pa_cons (pv 1) (pa_cons (pe_tup (pa_cons (e_ty "list" B.list (by decide +kernel)) (pa_cons (e_ty "tuple" B.tuple (by decide +kernel)) pa_nil))) pa_nil)))) (pss_cons (ps_if (PW.pt (pw_or (pt_cmpR op_ne (pe_callB (c_isi K) (by rfl) B.isinstance (by decide +kernel) (pa_cons (pv 0) (pa_cons (e_ty "list" B.list (by decide +kernel)) pa_nil))) (pe_callB (c_isi K) (by rfl) B.isinstance (by decide +kernel) (pa_cons (pv 1) (pa_cons (e_ty "list" B.list (by decide +kernel)) pa_nil))) (nomark _)) (pw_or1 (pt_cmpR op_ne (pe_callB (c_isi K) (by rfl) B.isinstance (by decide +kernel) (pa_cons (pv 0) (pa_cons (e_ty "tuple" B.tuple (by decide +kernel)) pa_nil))) (pe_callB (c_isi K) (by rfl) B.isinstance (by decide +kernel) (pa_cons (pv 1) (pa_cons (e_ty "tuple" B.tuple (by decide +kernel)) pa_nil))) (nomark _))))) (pss_one (ps_ret pe_bl)) pss_nil)
      (pss_one (ps_ret (pe_and (pe_cmpR op_eq (pe_callB (c_len K) (by rfl) B.len (by decide +kernel) (pa_cons (pv 0) pa_nil)) (pe_callB (c_len K) (by rfl) B.len (by decide +kernel) (pa_cons (pv 1) pa_nil)) (nomark _)) (pe_one (pe_callB (c_all K rfl) (by rfl) B.all (by decide +kernel) (pa_cons (pe_lc (own := [("x", 2), ("y", 3)]) (g := _) (tt := tYes) rfl sc_law_same.nd (w_zip K (by rfl) B.zip (pa_cons (pv 0) (pa_cons (pv 1) pa_nil))) (blkOk_by (own := [("x", 2), ("y", 3)]) (N := N_law_same) (sc := defScope s_law_same) (by decide +kernel)) (fun _ _ _ _ _ => by exact (g_tup K (n := 2) rfl (pgs_cons (pg_name (i := 2) sc_law_same.nd rfl (by first | exact Or.inl rfl | exact Or.inr rfl)) (pgs_cons (pg_name (i := 3) sc_law_same.nd rfl (by first | exact Or.inl rfl | exact Or.inr rfl)) pgs_nil)))) (fun _ _ _ _ _ => pts_nil) (fun _ _ _ _ _ => by exact (pe_call G_law_same (hr.mono (by omega)) (by rfl) d_law_same.g d_law_same.F.kp d_law_same.b .nil pass0 (pa_cons (pv 2) (pa_cons (pv 3) pa_nil))))) pa_nil))))))) pss_nil)
      (pss_cons (ps_if (pt_val (pe_callB (c_isi K) (by rfl) B.isinstance (by decide +kernel) (pa_cons (pv 1) (pa_cons (e_ty "dict" B.dict (by decide +kernel)) pa_nil)))) (pss_one ps_never) pss_nil)
      (pss_cons (ps_if (pt_val (pe_callB (c_isi K) (by rfl) B.isinstance (by decide +kernel) (pa_cons (pv 1) (pa_cons (e_ty "int" B.int (by decide +kernel)) pa_nil)))) (pss_one (ps_ret (pe_and (pe_callB (c_isi K) (by rfl) B.isinstance (by decide +kernel) (pa_cons (pv 0) (pa_cons (e_ty "int" B.int (by decide +kernel)) pa_nil))) (pe_and (pe_cmpR op_eq (pe_callB (c_isi K) (by rfl) B.isinstance (by decide +kernel) (pa_cons (pv 0) (pa_cons (e_ty "bool" B.bool (by decide +kernel)) pa_nil))) (pe_callB (c_isi K) (by rfl) B.isinstance (by decide +kernel) (pa_cons (pv 1) (pa_cons (e_ty "bool" B.bool (by decide +kernel)) pa_nil))) (nomark _)) (pe_one (pe_cmpR op_eq (pv 0) (pv 1) (nomark _))))))) pss_nil)
      (pss_cons (ps_if (pt_cmpR o_isN (pv 1) pe_non (nomark _)) (pss_one (ps_ret (pe_cmpR o_isN (pv 0) pe_non (nomark _)))) pss_nil)
      (pss_cons (ps_if (pt_val (pe_callB (c_isi K) (by rfl) B.isinstance (by decide +kernel) (pa_cons (pv 1) (pa_cons (e_ty "str" B.str (by decide +kernel)) pa_nil)))) (pss_one (ps_ret (pe_and (pe_callB (c_isi K) (by rfl) B.isinstance (by decide +kernel) (pa_cons (pv 0) (pa_cons (e_ty "str" B.str (by decide +kernel)) pa_nil))) (pe_one (pe_cmpR op_eq (pv 0) (pv 1) (nomark _)))))) pss_nil)
      (pss_one ps_never)))))), ?_⟩
    walk_at "v"
    refine ⟨show 2 ≤ sizeLine by decide, fun tp htp => ?_⟩
    have s1 : Same H (upd H tp (.tup [.ty "list", .ty "tuple"])) := (Same.refl H).new htp
    walk_at "v"
    refine i_isLT (h2.same s1) upd_same ?_
    obtain ⟨H1, e1⟩ : ∃ H1, H1 = upd H tp (.tup [.ty "list", .ty "tuple"]) := ⟨_, rfl⟩
    rw [← e1] at s1 ⊢
    clear e1
    have h1' := h1.same s1
    have h2' := h2.same s1
    walk_at "v"
    cases hs : (isK "list" d || isK "tuple" d) with
    | true =>
      refine iteT ?_
      walk_at "v"
      refine i_isi h1' (by simp) ?_
      walk_at "v"
      refine i_isi h2' (by simp) ?_
      walk_at "v"
      refine ifn (fun n => absurd rfl n) (fun _ => ?_)
      walk_at "v"
      refine i_isi h1' (by simp) ?_
      walk_at "v"
      refine i_isi h2' (by simp) ?_
      walk_at "v"
      refine ifn (fun n => absurd rfl n) (fun _ => ?_)
      obtain ⟨p, q, o1, o2, xs, ys, ho, rfl, rfl, hp, hq, dx, dy⟩ := Dt.rows h1' h2' hs
      have lx := dx.length
      have ly := dy.length
      obtain ⟨l1000, fk⟩ := ft.kids hs
      walk_at "v"
      refine i_lenO (o := o1) (ho.imp (fun z => z.1) (fun z => z.1)) hp ?_
      walk_at "v"
      refine i_lenO (o := o2) (ho.imp (fun z => z.2) (fun z => z.2)) hq ?_
      walk_at "v"
      refine ifd (fun _ => ?_) (fun z => absurd (by rw [lx, ly]) z)
      walk_at "v"
      refine w_zipv rfl rfl ho (by rw [lx, ly]) hp hq (fun J wk => ?_)
      refine lc_by wk fun D hD => ⟨fun i H' => H' D = some (.lst ((List.replicate i true).map V.bl)) ∧ Same H1 H', ?_, fun i H' _ ⟨_, s⟩ => ⟨s _ _ hp, s _ _ hq⟩, ?_, ?_⟩
      · exact ⟨upd_same, (Same.refl H1).new hD⟩
      · rintro i x H2 H3 hi ⟨hD2, s2⟩ ⟨Z, y0, y, rfl, hZ, rfl, ex, ey⟩
        obtain ⟨d1, g1, z1⟩ := dx.get' ex
        obtain ⟨d2, g2, z2⟩ := dy.get' ey
        rw [g1] at g2
        cases g2
        refine g_two upd_same ?_
        walk_at "v"
        have s3 : Same H1 (upd H2 Z (.tup [y0, y])) := s2.new hZ
        refine ⟨S, T, d1, y0, y, rfl, z1.same s3, z2.same s3, fk _ (List.mem_of_getElem? g1), fun H4 s4 => ?_⟩
        have hD4 := s4 _ _ (h_new (o := .tup [y0, y]) hD2 hZ)
        refine ⟨_, hD4, by rw [List.length_map, List.length_replicate]; exact small1000 (by omega), ?_, (s3.trans s4).put hD⟩
        rw [List.replicate_succ', List.map_append]
        exact upd_same
      · rintro H2 ⟨hD2, s2⟩
        walk_at "v"
        refine ⟨D, _, rfl, SqL.of hD2, ?_⟩
        have e : (List.replicate xs.length true).all id = true := by simp
        rw [e]
        walk_at "v"
        exact k' _ (s1.trans s2)
    | false =>
      refine iteF ?_
      walk_at "v"
      refine i_isi h2' (by simp) ?_
      walk_at "v"
      cases d with
      | none =>
        unfold Dt at h1' h2'
        subst h1' h2'
        refine iteF ?_
        walk_at "v"
        refine i_isi (d := .none) (S := []) dt_n (by simp) ?_
        walk_at "v"
        refine iteF ?_
        walk_at "v"
        refine iteT ?_
        walk_at "v"
        exact k' _ s1
      | bool b =>
        unfold Dt at h1' h2'
        subst h1' h2'
        refine iteF ?_
        walk_at "v"
        refine i_isi (d := .bool b) (S := []) dt_b (by simp) ?_
        walk_at "v"
        refine iteT ?_
        walk_at "v"
        refine i_isi (d := .bool b) (S := []) dt_b (by simp) ?_
        walk_at "v"
        refine iteT ?_
        walk_at "v"
        refine i_isi (d := .bool b) (S := []) dt_b (by simp) ?_
        walk_at "v"
        refine i_isi (d := .bool b) (S := []) dt_b (by simp) ?_
        walk_at "v"
        refine ifd (fun _ => ?_) (fun z => absurd rfl z)
        walk_at "v"
        rw [decide_eq_true (rfl : V.bl b = V.bl b)]
        exact k' _ s1
      | int b =>
        unfold Dt at h1' h2'
        subst h1' h2'
        refine iteF ?_
        walk_at "v"
        refine i_isi (d := .int b) (S := []) dt_i (by simp) ?_
        walk_at "v"
        refine iteT ?_
        walk_at "v"
        refine i_isi (d := .int b) (S := []) dt_i (by simp) ?_
        walk_at "v"
        refine iteT ?_
        walk_at "v"
        refine i_isi (d := .int b) (S := []) dt_i (by simp) ?_
        walk_at "v"
        refine i_isi (d := .int b) (S := []) dt_i (by simp) ?_
        walk_at "v"
        refine ifd (fun _ => ?_) (fun z => absurd rfl z)
        walk_at "v"
        rw [decide_eq_true (rfl : V.int b = V.int b)]
        exact k' _ s1
      | str b =>
        unfold Dt at h1' h2'
        subst h1' h2'
        refine iteF ?_
        walk_at "v"
        refine i_isi (d := .str b) (S := []) dt_s (by simp) ?_
        walk_at "v"
        refine iteF ?_
        walk_at "v"
        refine iteF ?_
        walk_at "v"
        refine i_isi (d := .str b) (S := []) dt_s (by simp) ?_
        walk_at "v"
        refine iteT ?_
        walk_at "v"
        refine i_isi (d := .str b) (S := []) dt_s (by simp) ?_
        walk_at "v"
        refine iteT ?_
        walk_at "v"
        rw [decide_eq_true (rfl : V.str b = V.str b)]
        exact k' _ s1
      | list ds => simp [isK, ptype] at hs
      | tuple ds => simp [isK, ptype] at hs
      | dict kv => exact ft.elim
end Lr
set_option Elab.async false
set_option linter.all false
set_option maxRecDepth 100000
set_option maxHeartbeats 4000000
namespace Lr
open PySem PySem.Spec
      PyProof.Rows L2
local macro_rules | `(tactic| walk_at "ne") => `(tactic| (first | assumption | (refine ne_sym ?_; assumption) | (exact ne_of_none (by assumption) (by assumption)) | (exact ne_sym (ne_of_none (by assumption) (by assumption)))))
local macro_rules | `(tactic| walk_at "h") => `(tactic| (first | assumption | exact upd_same | (refine h_new ?_ (by assumption); walk_at "h") | (refine h_ne (by walk_at "ne") ?_; walk_at "h")))
local macro_rules | `(tactic| walk_at "v1") => `(tactic| (with_reducible first
  | refine i_seq ?_ | refine i_asg ?_ | refine i_ret ?_ | refine i_next ?_ | refine i_drop ?_ | refine i_ifS ?_ | refine i_if ?_ | refine i_and ?_ | refine i_or ?_ | refine i_not ?_ | refine i_test ?_ | refine i_tB ?_ | refine i_bl ?_ | refine i_yes ?_
  | refine i_op ?_ | refine i_un ?_ | refine i_chain ?_ | refine i_andV ?_ | refine i_orV ?_ | refine i_notV ?_ | refine i_cb ?_ | refine i_cons ?_ | refine i_nil ?_ | refine i_bm ?_ | refine i_bm0 ?_ | refine i_c ?_ | refine i_name ?_ | refine i_sub ?_
  | refine i_call ?_ | refine i_lst ?_ | refine i_tup ?_ | refine i_par ?_ | refine i_par2 ?_ | refine i_sl ?_ | refine i_np ?_ | refine i_pt ?_ | refine i_int ?_ | refine i_m0 ?_ | refine i_m1 ?_ | refine i_isS ?_
  | refine i_rI0 ?_ | refine i_inSign ?_ | refine i_notInSign ?_ | refine i_int1 ?_ | refine i_tru ?_ | refine i_isN ?_ | refine i_notN ?_ | refine iteT ?_ | refine iteF ?_ | refine i_brk ?_ | refine i_rt ?_ | refine i_nx ?_ | refine i_bk ?_ | refine i_ct ?_ | refine i_for ?_ | refine i_lc ?_ | refine i_dc ?_ | refine i_iL ?_ | refine i_iT ?_ | refine i_iR1 ?_ | refine i_iR2 ?_ | refine i_iS ?_ | refine i_iE ?_ | refine i_iEK ?_ | refine i_iEQ ?_ | refine i_dget ?_ | refine i_fld ?_ | refine i_sfld ?_ | refine i_dput ?_ | refine i_meth ?_ | refine i_rU ?_ | refine i_cont ?_ | refine i_make ?_))
local macro_rules | `(tactic| walk_at "v2") => `(tactic| (first
  | ((with_reducible refine' i_var ?k1 ?_); (case k1 => exact rfl))
  | ((with_reducible refine' i_eq ?k1 ?_); (case k1 => exact rfl))
  | ((with_reducible refine' i_ne ?k1 ?_); (case k1 => exact rfl))
  | ((with_reducible refine' i_ixL ?k1 ?k2 ?_); (case k1 => walk_at "h"); (case k2 => exact rfl))
  | ((with_reducible refine' i_ixT ?k1 ?k2 ?_); (case k1 => walk_at "h"); (case k2 => exact rfl))
  | ((with_reducible refine' i_lenL ?k1 ?_); (case k1 => walk_at "h"))
  | ((with_reducible refine' i_lenT ?k1 ?_); (case k1 => walk_at "h"))
  | (refine i_wipe (show wipe _ _ = wipe _ _ from rfl) ?_)
  | ((with_reducible refine' i_setL ?k1 ?k2 ?_); (case k1 => walk_at "h"); (case k2 => exact rfl))
  | ((with_reducible refine' i_tyl ?k1 ?_); (case k1 => walk_at "h"))))
local macro_rules | `(tactic| walk_at "v") => `(tactic| repeat (first | walk_at "v1" | walk_at "v2"))

variable {P : Program} {w : World} {K :
      PySem.W.Frag} {mg : Str → Option Value} {base : Heap}
abbrev s_law_copied : Stmt := top 38
abbrev N_law_copied : List Str := ["thing", "found", "part", "key"]
abbrev P_law_copied : List Str := ["thing"]
theorem sc_law_copied : FnScope N_law_copied P_law_copied (defScope s_law_copied) := ⟨rfl, rfl, rfl, by decide +kernel, rfl, by decide +kernel, by decide +kernel⟩
abbrev s_law_loose : Stmt := top 40
abbrev N_law_loose : List Str := ["stream", "thing", "found", "part", "key"]
abbrev P_law_loose : List Str := ["stream", "thing"]
theorem sc_law_loose : FnScope N_law_loose P_law_loose (defScope s_law_loose) := ⟨rfl, rfl, rfl, by decide +kernel, rfl, by decide +kernel, by decide +kernel⟩
/-- neither a list nor a tuple: it stands in no heap -/
theorem Dt.flat {S T : List Addr} {H H' : Hp} {d : PyData} {v : V} (h : Dt S H d v) (hs : (isK "list" d || isK "tuple" d) = false) : Dt T H' d v := by
  cases d <;> simp [isK, ptype] at hs <;> (unfold Dt at *; exact h)
mutual
def un : PyData → PyData
  | .list ds => .list (unAll ds)
  | .tuple ds => .list (unAll ds)
  | .none => .none
  | .bool b => .bool b
  | .int i => .int i
  | .str x => .str x
  | .dict z => .dict z
def unAll : List PyData → List PyData
  | [] => []
  | d :: ds => un d :: unAll ds
end
mutual
def nod : PyData → Nat
  | .list ds => nodAll ds + 1
  | .tuple ds => nodAll ds + 1
  | .none => 0
  | .bool _ => 0
  | .int _ => 0
  | .str _ => 0
  | .dict _ => 0
def nodAll : List PyData → Nat
  | [] => 0
  | d :: ds => nod d + nodAll ds
end
theorem unAll_app : ∀ (a b : List PyData), unAll (a ++ b) = unAll a ++ unAll b
  | [], b => by simp [unAll]
  | x :: a, b => by simp [unAll, unAll_app a b]
theorem nodAll_app : ∀ (a b : List PyData), nodAll (a ++ b) = nodAll a + nodAll b
  | [], b => by simp [nodAll]
  | x :: a, b => by simp [nodAll, nodAll_app a b, Nat.add_assoc]
theorem nodAll_take (l : List PyData) (i : Nat) : nodAll (l.take i) ≤ nodAll l := by
  have := nodAll_app (l.take i) (l.drop i)
  rw [List.take_append_drop] at this
  omega
theorem unAll_len : ∀ (a : List PyData), (unAll a).length = a.length
  | [] => rfl
  | x :: a => by simp [unAll, unAll_len a]
theorem un_row {d : PyData} (hs : (isK "list" d || isK "tuple" d) = true) : un d = .list (unAll (kids d)) ∧ nod d = nodAll (kids d) + 1 := by
  cases d with
  | list ds => exact ⟨by simp [un, kids], by simp [nod, kids]⟩
  | tuple ds => exact ⟨by simp [un, kids], by simp [nod, kids]⟩
  | _ => simp [isK, ptype] at hs
theorem of_kids {d : PyData} (hs : (isK "list" d || isK "tuple" d) = true) : (isK "list" d = true ∧ d = .list (kids d)) ∨ (isK "list" d = false ∧ d = .tuple (kids d)) := by
  cases d with
  | list ds => exact .inl ⟨rfl, rfl⟩
  | tuple ds => exact .inr ⟨rfl, rfl⟩
  | _ => simp [isK, ptype] at hs
theorem isDict {S : List Addr} {H : Hp} {d : PyData} {v : V} (h : Dt S H d v) : isK "dict" d = false := by
  cases d <;> first | rfl | (unfold Dt at h; exact h.elim)
theorem Acc.tuple {M : List Addr} {H0 H' : Hp} {D p : Addr} {ds : List PyData} {acc : List V} (a : Acc M H0 H' D ds) (e : H' D = some (.lst acc)) (h : H' p = none) : NewM M H0 (upd H' p (.tup acc)) (.tuple ds) (.ref p) := by
  obtain ⟨acc', e', l, z⟩ := a.ex
  rw [e] at e'; cases e'
  exact NewM.tup a.kp h fun S t m => DtAll.mono (fun x hx => List.mem_cons_of_mem _ hx) _ _ (z S t m)
def spCopied (k : Nat) : Sp := fun vs H Q _ => ∃ (S : List Addr) (d : PyData) (v : V), vs = [v] ∧ Dt S H d v ∧ Fit k d ∧ ∀ v' H', New H H' d v' → Same H H' → Q v' H'
theorem trk_nil {H : Hp} : Trk [] H := fun _ h => nomatch h
theorem ok_copied (d_law_copied : Fd K mg "_law_copied" s_law_copied P_law_copied) (B : Blt mg) : ∀ k, FnOk P w K mg base CX0 k d_law_copied.f d_law_copied.fd P_law_copied (spCopied k) := by
  intro k
  induction k with
  | zero => exact ⟨fun vs H Q E ⟨S, d, v, _, _, f, _⟩ => f.elim, fun A outer s H args us vs Q E hr he hb hv ⟨S, d, v, _, _, f, _⟩ => f.elim⟩
  | succ k ih =>
  have G_law_copied := ih
  refine d_law_copied.F.ok sc_law_copied (fun vs H Q E h => ?_) (fun cdv A outer s H vs Q E hr h => ?_)
  · obtain ⟨S, d, v, rfl, _⟩ := h
    rfl
  · obtain ⟨S, d, v, rfl, h1, ft, k'⟩ := h
    refine ⟨_, (pss_cons (ps_if (pt_val (pe_callB (c_isi K) (by rfl) B.isinstance (by decide +kernel) (pa_cons (pv 0) (pa_cons (e_ty "dict" B.dict (by decide +kernel)) pa_nil)))) (pss_one ps_never) pss_nil)
      (pss_cons (ps_if (pt_not (pt_val (pe_callB (c_isiT K) (by rfl) B.isinstance (by decide +kernel) (pa_cons (pv 0) (pa_cons (pe_tup (pa_cons (e_ty "list" B.list (by decide +kernel)) (pa_cons (e_ty "tuple" B.tuple (by decide +kernel)) pa_nil))) pa_nil))))) (pss_one (ps_ret (pv 0))) pss_nil)
      (pss_cons (ps_setLc (i := 1) (own := [("part", 2)]) (g := gName 2) (tt := tYes) rfl sc_law_copied.nd rfl rfl (sw_true rfl rfl rfl (by decide +kernel)) (w_seq K (pv 0)) (blkOk_by (own := [("part", 2)]) (N := N_law_copied) (sc := defScope s_law_copied) (by decide +kernel)) (fun _ _ _ _ _ => by exact (pg_name (i := 2) sc_law_copied.nd rfl (by first | exact Or.inl rfl | exact Or.inr rfl))) (fun _ _ _ _ _ => pts_nil) (fun _ _ _ _ _ => by exact (pe_call G_law_copied (hr.mono (by omega)) (by rfl) d_law_copied.g d_law_copied.F.kp d_law_copied.b .nil pass0 (pa_cons (pv 2) pa_nil))))
      (pss_one (ps_ret (pe_ifExp (pt_val (pe_callB (c_isi K) (by rfl) B.isinstance (by decide +kernel) (pa_cons (pv 0) (pa_cons (e_ty "list" B.list (by decide +kernel)) pa_nil)))) (pv 1) (pe_callTy (c_tuple K) (by rfl) B.tuple (by decide +kernel) (pa_cons (pv 1) pa_nil)))))))), ?_⟩
    walk_at "v"
    refine i_isi h1 (by simp) ?_
    walk_at "v"
    rw [isDict h1]
    refine iteF ?_
    walk_at "v"
    refine ⟨show 2 ≤ sizeLine by decide, fun tp htp => ?_⟩
    have s1 : Same H (upd H tp (.tup [.ty "list", .ty "tuple"])) := (Same.refl H).new htp
    walk_at "v"
    refine i_isLT (h1.same s1) upd_same ?_
    obtain ⟨H1, e1⟩ : ∃ H1, H1 = upd H tp (.tup [.ty "list", .ty "tuple"]) := ⟨_, rfl⟩
    rw [← e1] at s1 ⊢
    clear e1
    have h1' := h1.same s1
    walk_at "v"
    cases hs : (isK "list" d || isK "tuple" d) with
    | false =>
      refine iteT ?_
      walk_at "v"
      exact k' _ _ (fun S' _ => h1.flat hs) s1
    | true =>
      refine iteF ?_
      obtain ⟨p, o, xs, ho, rfl, hp, np, dx⟩ := h1'.row hs
      have lx := dx.length
      obtain ⟨l1000, fk⟩ := ft.kids hs
      walk_at "v"
      refine w_sqv rfl ho hp (fun J wk => ?_)
      refine lc_by wk fun D hD => ⟨fun i H' => Acc [] H1 H' D ((kids d).take i) ∧ Same H1 H', ?_, fun i H' _ ⟨_, s⟩ => s _ _ hp, ?_, ?_⟩
      · exact ⟨Acc.start (Keep.refl _ _) hD, (Same.refl H1).new hD⟩
      · rintro i x H2 H3 hi ⟨ac, s2⟩ ⟨rfl, ex⟩
        obtain ⟨d1, g1, z1⟩ := dx.get' ex
        walk_at "v"
        refine ⟨S, d1, x, rfl, z1.same s2, fk _ (List.mem_of_getElem? g1), fun v' H4 nv s4 => ?_⟩
        obtain ⟨acc, ea, la, _⟩ := id ac.ex
        obtain ⟨e4, ac4⟩ := ac.step trk_nil ea nv.toM (Keep.of_same s4)
        refine ⟨acc, e4, ?_, ?_, (s2.trans s4).put hD⟩
        · rw [la, List.length_take]; exact small1000 (by omega)
        · rw [List.take_succ, g1]; exact ac4
      · rintro H2 ⟨ac, s2⟩
        rw [lx, List.take_length] at ac
        obtain ⟨acc, ea, la, _⟩ := id ac.ex
        walk_at "v"
        refine i_isi (h1'.same s2) (by simp) ?_
        walk_at "v"
        have post : ∀ v' H', NewM [] H1 H' d v' → Same H1 H' → Q v' H' := fun v' H' n s => k' v' H' (fun S' t => n S' (t.same s1) (fun _ h => nomatch h)) (s1.trans s)
        rcases of_kids hs with ⟨e, ed⟩ | ⟨e, ed⟩
        · rw [e]
          refine iteT ?_
          walk_at "v"
          exact post _ _ (by rw [ed]; exact ac.done) s2
        · rw [e]
          refine iteF ?_
          walk_at "v"
          refine i_tupleL ea (fun t ht => ?_)
          walk_at "v"
          exact post _ _ (by rw [ed]; exact ac.tuple ea ht) (s2.new ht)
def spLoose (a b : Addr) (k : Nat) : Sp := fun vs H Q _ => ∃ (n : Nat) (d : PyData) (v : V), vs = [.ref a, v] ∧ Dt [a, b] H d v ∧ Fit k d ∧ StreamAt a b n H ∧ n + nod d < 2 ^ 39 ∧
  ∀ d' v' H', un d' = un d → NewM [a, b] H H' d' v' → StreamAt a b (n + nod d) H' → Keep [a, b] H H' → Q v' H'
theorem ok_loose {a b : Addr} (d_law_loose : Fd K mg "_law_loose" s_law_loose P_law_loose) (d_law_below : FdB K mg) (B : Blt mg) : ∀ k, FnOk P w K mg base CX0 (k + 1) d_law_loose.f d_law_loose.fd P_law_loose (spLoose a b k) := by
  have G_law_below : FnOk P w K mg base CX0 1 d_law_below.f d_law_below.fd P_law_below (spBelow a b) := ok_below d_law_below B
  intro k
  induction k with
  | zero => exact ⟨fun vs H Q E ⟨n, d, v, _, _, f, _⟩ => f.elim, fun A outer s H args us vs Q E hr he hb hv ⟨n, d, v, _, _, f, _⟩ => f.elim⟩
  | succ k ih =>
  have G_law_loose := ih
  refine d_law_loose.F.ok sc_law_loose (fun vs H Q E h => ?_) (fun cdv A outer s H vs Q E hr h => ?_)
  · obtain ⟨n, d, v, rfl, _⟩ := h
    rfl
  · obtain ⟨n, d, v, rfl, h1, ft, hS, hn, k'⟩ := h
    refine ⟨_, (pss_cons (ps_if (pt_val (pe_callB (c_isi K) (by rfl) B.isinstance (by decide +kernel) (pa_cons (pv 1) (pa_cons (e_ty "dict" B.dict (by decide +kernel)) pa_nil)))) (pss_one ps_never) pss_nil)
      (pss_cons (ps_if (pt_not (pt_val (pe_callB (c_isiT K) (by rfl) B.isinstance (by decide +kernel) (pa_cons (pv 1) (pa_cons (pe_tup (pa_cons (e_ty "list" B.list (by decide +kernel)) (pa_cons (e_ty "tuple" B.tuple (by decide +kernel)) pa_nil))) pa_nil))))) (pss_one (ps_ret (pv 1))) pss_nil)
      (pss_cons (ps_setLc (i := 2) (own := [("part", 3)]) (g := gName 3) (tt := tYes) rfl sc_law_loose.nd rfl rfl (sw_true rfl rfl rfl (by decide +kernel)) (w_seq K (pv 1)) (blkOk_by (own := [("part", 3)]) (N := N_law_loose) (sc := defScope s_law_loose) (by decide +kernel)) (fun _ _ _ _ _ => by exact (pg_name (i := 3) sc_law_loose.nd rfl (by first | exact Or.inl rfl | exact Or.inr rfl))) (fun _ _ _ _ _ => pts_nil) (fun _ _ _ _ _ => by exact (pe_call G_law_loose (hr.mono (by omega)) (by rfl) d_law_loose.g d_law_loose.F.kp d_law_loose.b .nil pass0 (pa_cons (pv 0) (pa_cons (pv 3) pa_nil)))))
      (pss_one (ps_ret (pe_ifExp (pt_cmpR op_eq (pe_call G_law_below (hr.mono (by omega)) (by rfl) d_law_below.g d_law_below.F.kp d_law_below.b .nil pass0 (pa_cons (pv 0) (pa_cons pe_int pa_nil))) pe_int (nomark _)) (pv 2) (pe_callTy (c_tuple K) (by rfl) B.tuple (by decide +kernel) (pa_cons (pv 2) pa_nil)))))))), ?_⟩
    walk_at "v"
    refine i_isi h1 (by simp) ?_
    walk_at "v"
    rw [isDict h1]
    refine iteF ?_
    walk_at "v"
    refine ⟨show 2 ≤ sizeLine by decide, fun tp htp => ?_⟩
    have s1 : Same H (upd H tp (.tup [.ty "list", .ty "tuple"])) := (Same.refl H).new htp
    walk_at "v"
    refine i_isLT (h1.same s1) upd_same ?_
    obtain ⟨H1, e1⟩ : ∃ H1, H1 = upd H tp (.tup [.ty "list", .ty "tuple"]) := ⟨_, rfl⟩
    rw [← e1] at s1 ⊢
    clear e1
    have h1' := h1.same s1
    have hS1 := hS.same s1
    walk_at "v"
    cases hs : (isK "list" d || isK "tuple" d) with
    | false =>
      refine iteT ?_
      walk_at "v"
      exact k' d _ _ rfl (fun S' _ _ => h1.flat hs) (hS1.mono (Nat.le_add_right _ _)) (Keep.of_same s1)
    | true =>
      refine iteF ?_
      obtain ⟨p, o, xs, ho, rfl, hp, np, dx⟩ := h1'.row hs
      have lx := dx.length
      obtain ⟨l1000, fk⟩ := ft.kids hs
      obtain ⟨eu, en⟩ := un_row hs
      walk_at "v"
      refine w_sqv rfl ho hp (fun J wk => ?_)
      refine lc_by wk fun D hD => ⟨fun i H' => ∃ ds, unAll ds = unAll ((kids d).take i) ∧ Acc [a, b] H1 H' D ds ∧ Keep [a, b] H1 H' ∧ StreamAt a b (n + nodAll ((kids d).take i)) H', ?_, fun i H' _ ⟨_, _, _, s, _⟩ => s _ _ np hp, ?_, ?_⟩
      · exact ⟨[], rfl, Acc.start (Keep.refl _ _) hD, (Keep.refl _ _).new hD, by simpa [nodAll] using hS1.new hD⟩
      · rintro i x H2 H3 hi ⟨ds, e2, ac, s2, st2⟩ ⟨rfl, ex⟩
        obtain ⟨d1, g1, z1⟩ := dx.get' ex
        have et : (kids d).take (i + 1) = (kids d).take i ++ [d1] := by rw [List.take_succ, g1]; rfl
        have e3 := nodAll_take (kids d) (i + 1)
        have e4 : nodAll ((kids d).take (i + 1)) = nodAll ((kids d).take i) + nod d1 := by rw [et, nodAll_app]; simp [nodAll]
        walk_at "v"
        refine ⟨n + nodAll ((kids d).take i), d1, x, rfl, Dt.keep s2 _ _ z1, fk _ (List.mem_of_getElem? g1), st2, by omega, fun d' v' H4 eu' nv st4 s4 => ?_⟩
        obtain ⟨acc, ea, la, _⟩ := id ac.ex
        obtain ⟨e5, ac4⟩ := ac.step hS1.trk ea nv s4
        have hDab := hS1.na hD
        refine ⟨acc, e5, ?_, ds ++ [d'], ?_, ac4, (s2.trans s4).new' hD, (st4.put hDab.1 hDab.2).mono (by omega)⟩
        · have e6 := unAll_len ds
          rw [e2, unAll_len, List.length_take] at e6
          rw [la]; exact small1000 (by omega)
        · rw [et, unAll_app, unAll_app, e2]; simp [unAll, eu']
      · rintro H2 ⟨ds, e2, ac, s2, st2⟩
        rw [lx, List.take_length] at e2 st2
        obtain ⟨acc, ea, la, _⟩ := id ac.ex
        have nD := hS1.nm hD
        walk_at "v"
        refine ⟨n + nodAll (kids d), 2, rfl, by decide, by decide, st2, by omega, fun m H3 m0 m1 st3 kp3 => ?_⟩
        have ac3 := ac.skip hS1.trk kp3
        have ea3 := kp3 _ _ nD ea
        have post : ∀ d' v' H', un d' = un d → NewM [a, b] H1 H' d' v' → StreamAt a b (n + nodAll (kids d) + 1) H' → Keep [a, b] H1 H' → Q v' H' := fun d' v' H' e n' st s => k' d' v' H' e (fun S' t m => n' S' (t.same s1) m) (st.mono (by omega)) ((Keep.of_same s1).trans s)
        walk_at "v"
        refine ifd (fun _ => ?_) (fun _ => ?_)
        · walk_at "v"
          exact post (.list ds) _ _ (by rw [eu, un, e2]) ac3.done st3 (s2.trans kp3)
        · walk_at "v"
          refine i_tupleL ea3 (fun t ht => ?_)
          walk_at "v"
          exact post (.tuple ds) _ _ (by rw [eu, un, e2]) (ac3.tuple ea3 ht) (st3.new ht) ((s2.trans kp3).new ht)
end Lr
set_option Elab.async false
set_option linter.all false
set_option maxRecDepth 100000
set_option maxHeartbeats 4000000
namespace Lr
open PySem PySem.Spec
      PyProof.Rows L2
local macro_rules | `(tactic| walk_at "ne") => `(tactic| (first | assumption | (refine ne_sym ?_; assumption) | (exact ne_of_none (by assumption) (by assumption)) | (exact ne_sym (ne_of_none (by assumption) (by assumption)))))
local macro_rules | `(tactic| walk_at "h") => `(tactic| (first | assumption | exact upd_same | (refine h_new ?_ (by assumption); walk_at "h") | (refine h_ne (by walk_at "ne") ?_; walk_at "h")))
local macro_rules | `(tactic| walk_at "v1") => `(tactic| (with_reducible first
  | refine i_seq ?_ | refine i_asg ?_ | refine i_ret ?_ | refine i_next ?_ | refine i_drop ?_ | refine i_ifS ?_ | refine i_if ?_ | refine i_and ?_ | refine i_or ?_ | refine i_not ?_ | refine i_test ?_ | refine i_tB ?_ | refine i_bl ?_ | refine i_yes ?_
  | refine i_op ?_ | refine i_un ?_ | refine i_chain ?_ | refine i_andV ?_ | refine i_orV ?_ | refine i_notV ?_ | refine i_cb ?_ | refine i_cons ?_ | refine i_nil ?_ | refine i_bm ?_ | refine i_bm0 ?_ | refine i_c ?_ | refine i_name ?_ | refine i_sub ?_
  | refine i_call ?_ | refine i_lst ?_ | refine i_tup ?_ | refine i_par ?_ | refine i_par2 ?_ | refine i_sl ?_ | refine i_np ?_ | refine i_pt ?_ | refine i_int ?_ | refine i_m0 ?_ | refine i_m1 ?_ | refine i_isS ?_
  | refine i_rI0 ?_ | refine i_inSign ?_ | refine i_notInSign ?_ | refine i_int1 ?_ | refine i_tru ?_ | refine i_isN ?_ | refine i_notN ?_ | refine iteT ?_ | refine iteF ?_ | refine i_brk ?_ | refine i_rt ?_ | refine i_nx ?_ | refine i_bk ?_ | refine i_ct ?_ | refine i_for ?_ | refine i_lc ?_ | refine i_dc ?_ | refine i_iL ?_ | refine i_iT ?_ | refine i_iR1 ?_ | refine i_iR2 ?_ | refine i_iS ?_ | refine i_iE ?_ | refine i_iEK ?_ | refine i_iEQ ?_ | refine i_dget ?_ | refine i_fld ?_ | refine i_sfld ?_ | refine i_dput ?_ | refine i_meth ?_ | refine i_rU ?_ | refine i_cont ?_ | refine i_make ?_))
local macro_rules | `(tactic| walk_at "v2") => `(tactic| (first
  | ((with_reducible refine' i_var ?k1 ?_); (case k1 => exact rfl))
  | ((with_reducible refine' i_eq ?k1 ?_); (case k1 => exact rfl))
  | ((with_reducible refine' i_ne ?k1 ?_); (case k1 => exact rfl))
  | ((with_reducible refine' i_ixL ?k1 ?k2 ?_); (case k1 => walk_at "h"); (case k2 => exact rfl))
  | ((with_reducible refine' i_ixT ?k1 ?k2 ?_); (case k1 => walk_at "h"); (case k2 => exact rfl))
  | ((with_reducible refine' i_lenL ?k1 ?_); (case k1 => walk_at "h"))
  | ((with_reducible refine' i_lenT ?k1 ?_); (case k1 => walk_at "h"))
  | (refine i_wipe (show wipe _ _ = wipe _ _ from rfl) ?_)
  | ((with_reducible refine' i_setL ?k1 ?k2 ?_); (case k1 => walk_at "h"); (case k2 => exact rfl))
  | ((with_reducible refine' i_tyl ?k1 ?_); (case k1 => walk_at "h"))))
local macro_rules | `(tactic| walk_at "v") => `(tactic| repeat (first | walk_at "v1" | walk_at "v2"))

variable {P : Program} {w : World} {K :
      PySem.W.Frag} {mg : Str → Option Value} {base : Heap}
abbrev s_law_is_once : Stmt := top 42
abbrev N_law_is_once : List Str := ["thing", "many", "key", "part"]
abbrev P_law_is_once : List Str := ["thing"]
theorem sc_law_is_once : FnScope N_law_is_once P_law_is_once (defScope s_law_is_once) := ⟨rfl, rfl, rfl, by decide +kernel, rfl, by decide +kernel, by decide +kernel⟩
abbrev s_law_spoilt : Stmt := top 41
abbrev N_law_spoilt : List Str := ["thing", "key", "part"]
abbrev P_law_spoilt : List Str := ["thing"]
theorem sc_law_spoilt : FnScope N_law_spoilt P_law_spoilt (defScope s_law_spoilt) := ⟨rfl, rfl, rfl, by decide +kernel, rfl, by decide +kernel, by decide +kernel⟩
abbrev s_law_apart : Stmt := top 43
abbrev N_law_apart : List Str := ["thing"]
abbrev P_law_apart : List Str := ["thing"]
theorem sc_law_apart : FnScope N_law_apart P_law_apart (defScope s_law_apart) := ⟨rfl, rfl, rfl, by decide +kernel, rfl, by decide +kernel, by decide +kernel⟩
abbrev LATE : PyData := .str ("LATE" : Str)
/-- one mark in each list, none in a tuple -/
def Once : Nat → PyData → Prop
  | 0, _ => False
  | _ + 1, .none => True
  | _ + 1, .bool _ => True
  | _ + 1, .int _ => True
  | _ + 1, .str _ => True
  | k + 1, .list ds => ds.length ≤ 1001 ∧ ds.countP (fun z => PyData.eqv z LATE) = 1 ∧ ∀ d ∈ ds, Once k d
  | k + 1, .tuple ds => ds.length ≤ 1001 ∧ ds.countP (fun z => PyData.eqv z LATE) = 0 ∧ ∀ d ∈ ds, Once k d
  | _ + 1, .dict _ => False
theorem Once.kids {k : Nat} {d : PyData} (h : Once (k + 1) d) (hs : (isK "list" d || isK "tuple" d) = true) : (kids d).length ≤ 1001 ∧ (kids d).countP (fun z => PyData.eqv z LATE) = (if isK "list" d = true then 1 else 0) ∧ ∀ z ∈ Lr.kids d, Once k z := by
  cases d with
  | list ds => exact h
  | tuple ds => exact h
  | _ => simp [isK, ptype] at hs
theorem DtAll.dp' {S : List Addr} {H : Hp} {ds : List PyData} {xs : List V} (h : DtAll S H ds xs) : DpAll K H xs ds := DtAll.dp ds xs h
def spOnce (k : Nat) : Sp := fun vs H Q _ => ∃ (S : List Addr) (d : PyData) (v : V), vs = [v] ∧ Dt S H d v ∧ Once k d ∧ ∀ H', Same H H' → Q (.bl true) H'
theorem ok_once (d_law_is_once : Fd K mg "_law_is_once" s_law_is_once P_law_is_once) (B : Blt mg) : ∀ k, FnOk P w K mg base CX0 k d_law_is_once.f d_law_is_once.fd P_law_is_once (spOnce k) := by
  intro k
  induction k with
  | zero => exact ⟨fun vs H Q E ⟨S, d, v, _, _, f, _⟩ => f.elim, fun A outer s H args us vs Q E hr he hb hv ⟨S, d, v, _, _, f, _⟩ => f.elim⟩
  | succ k ih =>
  have G_law_is_once := ih
  refine d_law_is_once.F.ok sc_law_is_once (fun vs H Q E h => ?_) (fun cdv A outer s H vs Q E hr h => ?_)
  · obtain ⟨S, d, v, rfl, _⟩ := h
    rfl
  · obtain ⟨S, d, v, rfl, h1, ft, k'⟩ := h
    refine ⟨_, (pss_cons (ps_if (pt_val (pe_callB (c_isi K) (by rfl) B.isinstance (by decide +kernel) (pa_cons (pv 0) (pa_cons (e_ty "dict" B.dict (by decide +kernel)) pa_nil)))) (pss_one ps_never) pss_nil)
      (pss_cons (ps_if (pt_val (pe_callB (c_isiT K) (by rfl) B.isinstance (by decide +kernel) (pa_cons (pv 0) (pa_cons (pe_tup (pa_cons (e_ty "list" B.list (by decide +kernel)) (pa_cons (e_ty "tuple" B.tuple (by decide +kernel)) pa_nil))) pa_nil)))) (pss_cons (ps_set (i := 1) sc_law_is_once.nd rfl (by first | exact Or.inl rfl | exact Or.inr rfl) (pe_callTy c_int1 (by rfl) B.int (by decide +kernel) (pa_cons (pe_callB (c_isi K) (by rfl) B.isinstance (by decide +kernel) (pa_cons (pv 0) (pa_cons (e_ty "list" B.list (by decide +kernel)) pa_nil))) pa_nil)))
      (pss_one (ps_ret (pe_and (pe_cmpR op_eq (e_bm K PySem.F.plainAttrs_list PySem.F.slot_list_count PySem.F.type_list_count (mt_cntP K hr.units) (pe_callTy (c_list K) (by rfl) B.list (by decide +kernel) (pa_cons (pv 0) pa_nil)) (pa_cons pe_str pa_nil)) (pv 1) (nomark _)) (pe_one (pe_callB (c_all K rfl) (by rfl) B.all (by decide +kernel) (pa_cons (pe_lc (own := [("part", 3)]) (g := gName 3) (tt := tYes) rfl sc_law_is_once.nd (w_seq K (pv 0)) (blkOk_by (own := [("part", 3)]) (N := N_law_is_once) (sc := defScope s_law_is_once) (by decide +kernel)) (fun _ _ _ _ _ => by exact (pg_name (i := 3) sc_law_is_once.nd rfl (by first | exact Or.inl rfl | exact Or.inr rfl))) (fun _ _ _ _ _ => pts_nil) (fun _ _ _ _ _ => by exact (pe_call G_law_is_once (hr.mono (by omega)) (by rfl) d_law_is_once.g d_law_is_once.F.kp d_law_is_once.b .nil pass0 (pa_cons (pv 3) pa_nil)))) pa_nil))))))) pss_nil)
      (pss_one (ps_ret
            pe_bl)))), ?_⟩
    walk_at "v"
    refine i_isi h1 (by simp) ?_
    walk_at "v"
    rw [isDict h1]
    refine iteF ?_
    walk_at "v"
    refine ⟨show 2 ≤ sizeLine by decide, fun tp htp => ?_⟩
    have s1 : Same H (upd H tp (.tup [.ty "list", .ty "tuple"])) := (Same.refl H).new htp
    walk_at "v"
    refine i_isLT (h1.same s1) upd_same ?_
    obtain ⟨H1, e1⟩ : ∃ H1, H1 = upd H tp (.tup [.ty "list", .ty "tuple"]) := ⟨_, rfl⟩
    rw [← e1] at s1 ⊢
    clear e1
    have h1' := h1.same s1
    walk_at "v"
    cases hs : (isK "list" d || isK "tuple" d) with
    | false =>
      refine iteF ?_
      walk_at "v"
      exact k' _ s1
    | true =>
      refine iteT ?_
      obtain ⟨p, o, xs, ho, rfl, hp, np, dx⟩ := h1'.row hs
      have lx := dx.length
      obtain ⟨l1000, cnt, fk⟩ := ft.kids hs
      walk_at "v"
      refine i_isi h1' (by simp) ?_
      walk_at "v"
      refine i_intB ?_
      walk_at "v"
      refine ⟨p, xs, rfl, ho.imp (fun z => SqL.of (by rw [hp, z])) (fun z => SqT.of (by rw [hp, z])), fun l hl => ?_⟩
      have s2 : Same H1 (upd H1 l (.lst xs)) := (Same.refl H1).new hl
      refine i_tyl upd_same ?_
      walk_at "v"
      refine ⟨l, xs, kids d, _, LATE, rfl, rfl, SqL.of upd_same, DtAll.dp _ _ (DtAll.keep (Keep.of_same s2) _ _ dx), .str _, DtAll.plain _ _ dx, rfl, by decide, ?_⟩
      obtain ⟨H2, e2⟩ : ∃ H2, H2 = upd H1 l (.lst xs) := ⟨_, rfl⟩
      rw [← e2] at s2 ⊢
      clear e2
      rw [cnt]
      walk_at "v"
      refine ifd (fun _ => ?_) (fun z => absurd (by cases isK "list" d <;> rfl) z)
      walk_at "v"
      refine w_sqv rfl ho (s2 _ _ hp) (fun J wk => ?_)
      refine lc_by wk fun D hD => ⟨fun i H' => H' D = some (.lst ((List.replicate i true).map V.bl)) ∧ Same H2 H', ?_, fun i H' _ ⟨_, s⟩ => s _ _ (s2 _ _ hp), ?_, ?_⟩
      · exact ⟨upd_same, (Same.refl H2).new hD⟩
      · rintro i x H3 H4 hi ⟨hD3, s3⟩ ⟨rfl, ex⟩
        obtain ⟨d1, g1, z1⟩ := dx.get' ex
        walk_at "v"
        refine ⟨S, d1, x, rfl, (z1.same s2).same s3, fk _ (List.mem_of_getElem? g1), fun H5 s5 => ?_⟩
        refine ⟨_, s5 _ _ hD3, ?_, ?_, (s3.trans s5).put hD⟩
        · rw [List.length_map, List.length_replicate]; exact Nat.lt_of_lt_of_le (show i < 1002 by omega) (by decide)
        · rw [List.replicate_succ', List.map_append]; exact upd_same
      · rintro H3 ⟨hD3, s3⟩
        walk_at "v"
        refine ⟨D, _, rfl, SqL.of hD3, ?_⟩
        have e : (List.replicate xs.length true).all id = true := by simp
        rw [e]
        walk_at "v"
        exact k' _ ((s1.trans s2).trans s3)
/-- no list within -/
def Tupled : Nat → PyData → Prop
  | 0, _ => False
  | _ + 1, .none => True
  | _ + 1, .bool _ => True
  | _ + 1, .int _ => True
  | _ + 1, .str _ => True
  | k + 1, .tuple ds => ∀ d ∈ ds, Tupled k d
  | _ + 1, .list _ => False
  | _ + 1, .dict _ => False
theorem Tupled.avoid {S : List Addr} {H : Hp} {p : Addr} {l : List V} (hp : H p = some (.lst l)) : ∀ (k : Nat) (d : PyData) (v : V), Tupled k d → Dt S H d v → Dt [p] H d v := by
  intro k
  induction k with
  | zero => intro d v h; exact h.elim
  | succ k ih =>
    intro d v h z
    cases d with
    | tuple ds =>
      unfold Dt at z ⊢
      obtain ⟨a, xs, e, n, q, z⟩ := z
      have nap : a ∉ [p] := by
        intro m; simp at m; rw [m, hp] at q; cases q
      refine ⟨a, xs, e, nap, q, ?_⟩
      have h' : ∀ d ∈ ds, Tupled k d := h
      clear h q e nap
      induction ds generalizing xs with
      | nil => rw [DtAll.nil_iff] at z ⊢; exact z
      | cons d ds ihd =>
        obtain ⟨x, r, e, z1, z2⟩ := DtAll.cons_iff.mp z
        exact DtAll.cons_iff.mpr ⟨x, r, e, ih d x (h' d (by simp)) z1, ihd r z2 (fun d hd => h' d (by simp [hd]))⟩
    | list ds => exact h.elim
    | dict ds => exact h.elim
    | _ => unfold Dt at *; exact z
def spSpoilt (k : Nat) : Sp := fun vs H Q _ => (∃ (S : List Addr) (d : PyData) (v : V), vs = [v] ∧ Dt S H d v ∧ Tupled k d ∧ ∀ H', Same H H' → Q .non H') ∨
  ∃ (j : Nat) (S : List Addr) (ds : List PyData) (p : Addr) (xs : List V), k = j + 1 ∧ vs = [.ref p] ∧ H p = some (.lst xs) ∧ DtAll S H ds xs ∧ ds.length ≤ 1000 ∧ (∀ d ∈ ds, Tupled j d) ∧ ∀ H', Keep [p] H H' → H' p = some (.lst (xs ++ [.str ("LATE" : Str)])) → Q .non H'
theorem ok_spoilt (d_law_spoilt : Fd K mg "_law_spoilt" s_law_spoilt P_law_spoilt) (B : Blt mg) : ∀ k, FnOk P w K mg base CX0 k d_law_spoilt.f d_law_spoilt.fd P_law_spoilt (spSpoilt k) := by
  have no0 : ∀ vs H Q E, ¬ spSpoilt 0 vs H Q E := by
    rintro vs H Q E (⟨S, d, v, _, _, f, _⟩ | ⟨j, _, _, _, _, e, _⟩)
    · exact f
    · cases e
  intro k
  induction k with
  | zero => exact ⟨fun vs H Q E h => (no0 _ _ _ _ h).elim, fun A outer s H args us vs Q E hr he hb hv h => (no0 _ _ _ _ h).elim⟩
  | succ k ih =>
  have G_law_spoilt := ih
  refine d_law_spoilt.F.ok sc_law_spoilt (fun vs H Q E h => ?_) (fun cdv A outer s H vs Q E hr h => ?_)
  · rcases h with ⟨S, d, v, rfl, _⟩ | ⟨j, S, ds, p, xs, _, rfl, _⟩ <;> rfl
  · refine ⟨_, (pss_cons (ps_if (pt_val (pe_callB (c_isi K) (by rfl) B.isinstance (by decide +kernel) (pa_cons (pv 0) (pa_cons (e_ty "dict" B.dict (by decide +kernel)) pa_nil)))) (pss_cons ps_never
      (pss_one ps_never)) pss_nil)
      (pss_cons (ps_if (pt_val (pe_callB (c_isiT K) (by rfl) B.isinstance (by decide +kernel) (pa_cons (pv 0) (pa_cons (pe_tup (pa_cons (e_ty "list" B.list (by decide +kernel)) (pa_cons (e_ty "tuple" B.tuple (by decide +kernel)) pa_nil))) pa_nil)))) (pss_one (ps_for PassesOwn.never rfl (w_seq K (pv 0)) (pg_name (i := 2) sc_law_spoilt.nd rfl (by first | exact Or.inl rfl | exact Or.inr rfl))
      (pss_one (ps_expr (pe_call G_law_spoilt (hr.mono (by omega)) (by rfl) d_law_spoilt.g d_law_spoilt.F.kp d_law_spoilt.b .nil pass0 (pa_cons (pv 2) pa_nil)))))) pss_nil)
      (pss_one (ps_if (pt_val (pe_callB (c_isi K) (by rfl) B.isinstance (by decide +kernel) (pa_cons (pv 0) (pa_cons (e_ty "list" B.list (by decide +kernel)) pa_nil)))) (pss_one (ps_expr (e_bm K PySem.F.plainAttrs_list PySem.F.slot_list_append PySem.F.type_list_append mt_append (pv 0) (pa_cons pe_str pa_nil)))) pss_nil)))), ?_⟩
    rcases h with ⟨S, d, v, rfl, h1, ft, k'⟩ | ⟨j, S, ds, p, xs, ej, rfl, hp, dx, l1000, ft, k'⟩
    · walk_at "v"
      refine i_isi h1 (by simp) ?_
      walk_at "v"
      rw [isDict h1]
      refine iteF ?_
      walk_at "v"
      refine ⟨show 2 ≤ sizeLine by decide, fun tp htp => ?_⟩
      have s1 : Same H (upd H tp (.tup [.ty "list", .ty "tuple"])) := (Same.refl H).new htp
      walk_at "v"
      refine i_isLT (h1.same s1) upd_same ?_
      obtain ⟨H1, e1⟩ : ∃ H1, H1 = upd H tp (.tup [.ty "list", .ty "tuple"]) := ⟨_, rfl⟩
      rw [← e1] at s1 ⊢
      clear e1
      have h1' := h1.same s1
      walk_at "v"
      cases hs : (isK "list" d || isK "tuple" d) with
      | false =>
        refine iteF ?_
        walk_at "v"
        refine i_isi h1' (by simp) ?_
        walk_at "v"
        rw [Bool.or_eq_false_iff] at hs
        rw [hs.1]
        refine iteF ?_
        walk_at "v"
        exact k' _ s1
      | true =>
        refine iteT ?_
        obtain ⟨ds, rfl⟩ : ∃ ds, d = .tuple ds := by
          cases d with
          | tuple ds => exact ⟨ds, rfl⟩
          | list ds => exact ft.elim
          | _ => simp [isK, ptype] at hs
        obtain ⟨p, o, xs, ho, rfl, hp, np, dx⟩ := h1'.row hs
        walk_at "v"
        refine w_sqv rfl ho hp (fun J wk => ?_)
        refine for_by wk ⟨fun i σ H' => (∃ v1 v2, σ = [some (.ref p), v1, v2]) ∧ Same H1 H', ⟨⟨_, _, rfl⟩, Same.refl _⟩, fun i σ H' _ ⟨_, s⟩ => s _ _ hp, ?_, ?_⟩
        · rintro i x σ H2 H3 hi ⟨⟨v1, v2, rfl⟩, s2⟩ ⟨rfl, ex⟩
          obtain ⟨d1, g1, z1⟩ := dx.get' ex
          walk_at "v"
          refine .inl ⟨S, d1, x, rfl, z1.same s2, ft _ (List.mem_of_getElem? g1), fun H4 s4 => ?_⟩
          exact ⟨⟨_, _, rfl⟩, s2.trans s4⟩
        · rintro σ H2 ⟨⟨v1, v2, rfl⟩, s2⟩
          walk_at "v"
          refine i_isi (h1'.same s2) (by simp) ?_
          walk_at "v"
          refine iteF ?_
          walk_at "v"
          exact k' _ (s1.trans s2)
    · obtain rfl : k = j := by omega
      have h1 : Dt [] H (.list ds) (.ref p) := by
        unfold Dt; exact ⟨p, xs, rfl, by simp, hp, DtAll.mono (by simp) _ _ dx⟩
      walk_at "v"
      refine i_isi h1 (by simp) ?_
      walk_at "v"
      refine iteF ?_
      walk_at "v"
      refine ⟨show 2 ≤ sizeLine by decide, fun tp htp => ?_⟩
      have s1 : Same H (upd H tp (.tup [.ty "list", .ty "tuple"])) := (Same.refl H).new htp
      walk_at "v"
      refine i_isLT (h1.same s1) upd_same ?_
      walk_at "v"
      refine iteT ?_
      obtain ⟨H1, e1⟩ : ∃ H1, H1 = upd H tp (.tup [.ty "list", .ty "tuple"]) := ⟨_, rfl⟩
      rw [← e1] at s1 ⊢
      clear e1
      have hp1 := s1 _ _ hp
      walk_at "v"
      refine w_sqv rfl (.inl rfl) hp1 (fun J wk => ?_)
      refine for_by wk ⟨fun i σ H' => (∃ v1 v2, σ = [some (.ref p), v1, v2]) ∧ Same H1 H', ⟨⟨_, _, rfl⟩, Same.refl _⟩, fun i σ H' _ ⟨_, s⟩ => s _ _ hp1, ?_, ?_⟩
      · rintro i x σ H2 H3 hi ⟨⟨v1, v2, rfl⟩, s2⟩ ⟨rfl, ex⟩
        obtain ⟨d1, g1, z1⟩ := dx.get' ex
        walk_at "v"
        refine .inl ⟨S, d1, x, rfl, (z1.same s1).same s2, ft _ (List.mem_of_getElem? g1), fun H4 s4 => ?_⟩
        exact ⟨⟨_, _, rfl⟩, s2.trans s4⟩
      · rintro σ H2 ⟨⟨v1, v2, rfl⟩, s2⟩
        walk_at "v"
        refine i_isi (h1.same (s1.trans s2)) (by simp) ?_
        walk_at "v"
        refine iteT ?_
        walk_at "v"
        refine i_tyl (s2 _ _ hp1) ?_
        walk_at "v"
        have lx := dx.length
        refine i_app (s2 _ _ hp1) (small1000 (by omega)) ?_
        exact k' _ ((Keep.of_same (s1.trans s2)).put (by simp)) upd_same
abbrev FdSpoilt (K : PySem.W.Frag) (mg : Str → Option Value) := Fd K mg "_law_spoilt" s_law_spoilt P_law_spoilt
abbrev FdOnce (K : PySem.W.Frag) (mg : Str → Option Value) := Fd K mg "_law_is_once" s_law_is_once P_law_is_once
def spApart : Sp := fun vs H Q _ => ∃ (S : List Addr) (ds : List PyData) (p : Addr) (xs : List V), vs = [.ref p] ∧ H p = some (.lst xs) ∧ DtAll S H ds xs ∧ ds.length ≤ 1000 ∧ (∀ d ∈ ds, Tupled 8 d ∧ Once 8 d ∧ PyData.eqv d LATE = false) ∧ ∀ H', Keep [p] H H' → Q (.bl true) H'
theorem ok_apart (d : Fd K mg "_law_apart" s_law_apart P_law_apart) (d_law_spoilt : FdSpoilt K mg) (d_law_is_once : FdOnce K mg) (B : Blt mg) : FnOk P w K mg base CX0 10 d.f d.fd P_law_apart spApart := by
  have G_law_spoilt : FnOk P w K mg base CX0 9 d_law_spoilt.f d_law_spoilt.fd P_law_spoilt (spSpoilt 9) := ok_spoilt d_law_spoilt B 9
  have G_law_is_once : FnOk P w K mg base CX0 9 d_law_is_once.f d_law_is_once.fd P_law_is_once (spOnce 9) := ok_once d_law_is_once B 9
  refine d.F.ok sc_law_apart (fun vs H Q E h => ?_) (fun cdv A outer s H vs Q E hr h => ?_)
  · obtain ⟨S, ds, p, xs, rfl, _⟩ := h
    rfl
  · obtain ⟨S, ds, p, xs, rfl, hp, dx, l1000, al, k⟩ := h
    refine ⟨_, (pss_cons (ps_expr (pe_call G_law_spoilt (hr.mono (by decide)) (by rfl) d_law_spoilt.g d_law_spoilt.F.kp d_law_spoilt.b .nil pass0 (pa_cons (pv 0) pa_nil)))
      (pss_one (ps_ret (pe_call G_law_is_once (hr.mono (by decide)) (by rfl) d_law_is_once.g d_law_is_once.F.kp d_law_is_once.b .nil pass0 (pa_cons (pv 0) pa_nil))))), ?_⟩
    walk_at "v"
    refine .inr ⟨8, S, ds, p, xs, rfl, rfl, hp, dx, l1000, fun d hd => (al d hd).1, fun H1 k1 hp1 => ?_⟩
    have dx' : DtAll [p] H ds xs := by
      clear hp1 k1 k l1000
      have al' : ∀ d ∈ ds, Tupled 8 d := fun d hd => (al d hd).1
      clear al
      have key : ∀ (ds : List PyData) (ys : List V), DtAll S H ds ys → (∀ d ∈ ds, Tupled 8 d) → DtAll [p] H ds ys := by
        intro ds
        induction ds with
        | nil => intro ys z _; rw [DtAll.nil_iff] at z ⊢; exact z
        | cons d ds ihd =>
          intro ys z h'
          obtain ⟨x, r, e, z1, z2⟩ := DtAll.cons_iff.mp z
          exact DtAll.cons_iff.mpr ⟨x, r, e, Tupled.avoid hp 8 d x (h' d (by simp)) z1, ihd r z2 (fun d hd => h' d (by simp [hd]))⟩
      exact key ds xs dx al'
    have dt1 : Dt [] H1 (.list (ds ++ [LATE])) (.ref p) := by
      unfold Dt
      exact ⟨p, _, rfl, by simp, hp1, DtAll.append (DtAll.mono (by simp) _ _ (DtAll.keep k1 _ _ dx')) (DtAll.one (by unfold Dt; rfl))⟩
    walk_at "v"
    refine ⟨[], _, _, rfl, dt1, ⟨by simp; omega, ?_, fun d hd => ?_⟩, fun H2 s2 => k _ (k1.trans (Keep.of_same s2))⟩
    · rw [List.countP_append]
      have e0 : ds.countP (fun z => PyData.eqv z LATE) = 0 := by
        rw [List.countP_eq_zero]; intro d hd; rw [(al d hd).2.2]; simp
      rw [e0]; rfl
    · rcases List.mem_append.mp hd with hd | hd
      · exact (al d hd).2.1
      · simp at hd; subst hd; trivial
end Lr
set_option Elab.async false
set_option linter.all false
set_option maxRecDepth 100000
set_option maxHeartbeats 4000000
namespace Lr
open PySem PySem.Spec
      PyProof.Rows L2
local macro_rules | `(tactic| walk_at "ne") => `(tactic| (first | assumption | (refine ne_sym ?_; assumption) | (exact ne_of_none (by assumption) (by assumption)) | (exact ne_sym (ne_of_none (by assumption) (by assumption)))))
local macro_rules | `(tactic| walk_at "h") => `(tactic| (first | assumption | exact upd_same | (refine h_new ?_ (by assumption); walk_at "h") | (refine h_ne (by walk_at "ne") ?_; walk_at "h")))
local macro_rules | `(tactic| walk_at "v1") => `(tactic| (with_reducible first
  | refine i_seq ?_ | refine i_asg ?_ | refine i_ret ?_ | refine i_next ?_ | refine i_drop ?_ | refine i_ifS ?_ | refine i_if ?_ | refine i_and ?_ | refine i_or ?_ | refine i_not ?_ | refine i_test ?_ | refine i_tB ?_ | refine i_bl ?_ | refine i_yes ?_
  | refine i_op ?_ | refine i_un ?_ | refine i_chain ?_ | refine i_andV ?_ | refine i_orV ?_ | refine i_notV ?_ | refine i_cb ?_ | refine i_cons ?_ | refine i_nil ?_ | refine i_bm ?_ | refine i_bm0 ?_ | refine i_c ?_ | refine i_name ?_ | refine i_sub ?_
  | refine i_call ?_ | refine i_lst ?_ | refine i_tup ?_ | refine i_par ?_ | refine i_par2 ?_ | refine i_sl ?_ | refine i_np ?_ | refine i_pt ?_ | refine i_int ?_ | refine i_m0 ?_ | refine i_m1 ?_ | refine i_isS ?_
  | refine i_rI0 ?_ | refine i_inSign ?_ | refine i_notInSign ?_ | refine i_int1 ?_ | refine i_tru ?_ | refine i_isN ?_ | refine i_notN ?_ | refine iteT ?_ | refine iteF ?_ | refine i_brk ?_ | refine i_rt ?_ | refine i_nx ?_ | refine i_bk ?_ | refine i_ct ?_ | refine i_for ?_ | refine i_lc ?_ | refine i_dc ?_ | refine i_iL ?_ | refine i_iT ?_ | refine i_iR1 ?_ | refine i_iR2 ?_ | refine i_iS ?_ | refine i_iE ?_ | refine i_iEK ?_ | refine i_iEQ ?_ | refine i_dget ?_ | refine i_fld ?_ | refine i_sfld ?_ | refine i_dput ?_ | refine i_meth ?_ | refine i_rU ?_ | refine i_cont ?_ | refine i_make ?_))
local macro_rules | `(tactic| walk_at "v2") => `(tactic| (first
  | ((with_reducible refine' i_var ?k1 ?_); (case k1 => exact rfl))
  | ((with_reducible refine' i_eq ?k1 ?_); (case k1 => exact rfl))
  | ((with_reducible refine' i_ne ?k1 ?_); (case k1 => exact rfl))
  | ((with_reducible refine' i_ixL ?k1 ?k2 ?_); (case k1 => walk_at "h"); (case k2 => exact rfl))
  | ((with_reducible refine' i_ixT ?k1 ?k2 ?_); (case k1 => walk_at "h"); (case k2 => exact rfl))
  | ((with_reducible refine' i_lenL ?k1 ?_); (case k1 => walk_at "h"))
  | ((with_reducible refine' i_lenT ?k1 ?_); (case k1 => walk_at "h"))
  | (refine i_wipe (show wipe _ _ = wipe _ _ from rfl) ?_)
  | ((with_reducible refine' i_setL ?k1 ?k2 ?_); (case k1 => walk_at "h"); (case k2 => exact rfl))
  | ((with_reducible refine' i_tyl ?k1 ?_); (case k1 => walk_at "h"))))
local macro_rules | `(tactic| walk_at "v") => `(tactic| repeat (first | walk_at "v1" | walk_at "v2"))

variable {P : Program} {w : World} {K :
      PySem.W.Frag} {mg : Str → Option Value} {base : Heap}
abbrev s_law_made : Stmt := top 48
abbrev N_law_made : List Str := ["stream", "log", "rows", "row"]
abbrev P_law_made : List Str := ["stream", "log"]
theorem sc_law_made : FnScope N_law_made P_law_made (defScope s_law_made) := ⟨rfl, rfl, rfl, by decide +kernel, rfl, by decide +kernel, by decide +kernel⟩
theorem Dt.rowE {S : List Addr} {H : Hp} {r w : List Str} {v : V} (h : Dt S H (rowD (r, w)) v) : ∃ ty t1 t2, v = .ref ty ∧ H ty = some (.tup [.ref t1, .ref t2]) ∧ H t1 = some (.tup (r.map V.str)) ∧ H t2 = some (.tup (w.map V.str)) ∧ ty ∉ S ∧ t1 ∉ S ∧ t2 ∉ S := by
  obtain ⟨ty, tys, rfl, n0, hty, dty⟩ := (by unfold rowD Dt at h; exact h : ∃ a xs, v = .ref a ∧ a ∉ S ∧ H a = some (.tup xs) ∧ DtAll S H [.tuple (r.map .str), .tuple (w.map .str)] xs)
  obtain ⟨z1, tys', rfl, dz1, dty'⟩ := DtAll.cons_iff.mp dty
  obtain ⟨z2, tys'', rfl, dz2, dty''⟩ := DtAll.cons_iff.mp dty'
  obtain rfl := DtAll.nil_iff.mp dty''
  obtain ⟨t1, xs1, rfl, n1, ht1, dt1⟩ := (by unfold Dt at dz1; exact dz1 : ∃ a xs, z1 = .ref a ∧ a ∉ S ∧ H a = some (.tup xs) ∧ DtAll S H (r.map .str) xs)
  obtain ⟨t2, xs2, rfl, n2, ht2, dt2⟩ := (by unfold Dt at dz2; exact dz2 : ∃ a xs, z2 = .ref a ∧ a ∉ S ∧ H a = some (.tup xs) ∧ DtAll S H (w.map .str) xs)
  obtain rfl := DtAll.of_strs dt1
  obtain rfl := DtAll.of_strs dt2
  exact ⟨ty, t1, t2, rfl, hty, ht1, ht2, n0, n1, n2⟩
theorem Dt.logE {S : List Addr} {H : Hp} {L : LG} {v : V} (h : Dt S H (logD L) v) : ∃ lp q lr lrx, v = .ref lp ∧ H lp = some (.lst [.ref q, .ref lr]) ∧ H q = some (.lst (L.pages.map V.str)) ∧ H lr = some (.lst lrx) ∧ DtAll S H (L.rows.map rowD) lrx ∧ lp ∉ S ∧ q ∉ S ∧ lr ∉ S := by
  obtain ⟨lp, tys, rfl, n0, hty, dty⟩ := (by unfold logD Dt at h; exact h : ∃ a xs, v = .ref a ∧ a ∉ S ∧ H a = some (.lst xs) ∧ DtAll S H [.list (L.pages.map .str), .list (L.rows.map rowD)] xs)
  obtain ⟨z1, tys', rfl, dz1, dty'⟩ := DtAll.cons_iff.mp dty
  obtain ⟨z2, tys'', rfl, dz2, dty''⟩ := DtAll.cons_iff.mp dty'
  obtain rfl := DtAll.nil_iff.mp dty''
  obtain ⟨t1, xs1, rfl, n1, ht1, dt1⟩ := (by unfold Dt at dz1; exact dz1 : ∃ a xs, z1 = .ref a ∧ a ∉ S ∧ H a = some (.lst xs) ∧ DtAll S H (L.pages.map .str) xs)
  obtain ⟨t2, xs2, rfl, n2, ht2, dt2⟩ := (by unfold Dt at dz2; exact dz2 : ∃ a xs, z2 = .ref a ∧ a ∉ S ∧ H a = some (.lst xs) ∧ DtAll S H (L.rows.map rowD) xs)
  obtain rfl := DtAll.of_strs dt1
  exact ⟨lp, t1, t2, xs2, rfl, hty, ht1, ht2, dt2, n0, n1, n2⟩
theorem NewM.freshS {M : List Addr} {H0 H' : Hp} {q : Addr} {l : List Str} (hq : H0 q = none) (h : H' q = some (.lst (l.map V.str))) : NewM M H0 H' (.list (l.map .str)) (.ref q) := fun S t m => by
  unfold Dt; exact ⟨q, _, rfl, t.nm hq, h, DtAll.strs _⟩
def gS : V → Str
  | .str x => x
  | _ => Str.empty
theorem perm_strs {ys : List V} {r : List Str} (h : ys.Perm (r.map V.str)) : ∃ r' : List Str, ys = r'.map V.str ∧ r'.Perm r := by
  refine ⟨ys.map gS, ?_, ?_⟩
  · rw [List.map_map]
    have : ∀ y ∈ ys, (V.str ∘ gS) y = y := fun y hy => by
      have := h.subset hy
      obtain ⟨x, _, rfl⟩ := List.mem_map.mp this
      rfl
    rw [List.map_congr_left this]; simp
  · have := h.map gS
    rw [List.map_map] at this
    simpa [gS, Function.comp_def] using this
theorem unAll_get : ∀ {ds es : List PyData}, unAll ds = unAll es → ∀ {i : Nat} {d : PyData}, ds[i]? = some d → ∃ e, es[i]? = some e ∧ un d = un e
  | [], _, _, i, d, h => by simp at h
  | x :: ds, [], h, _, _, _ => by simp [unAll] at h
  | x :: ds, y :: es, h, 0, d, g => by
    simp [unAll] at h; simp at g; subst g
    exact ⟨y, rfl, h.1⟩
  | x :: ds, y :: es, h, i + 1, d, g => by
    simp [unAll] at h
    obtain ⟨e, g', u⟩ := unAll_get h.2 (i := i) (d := d) (by simpa using g)
    exact ⟨e, by simpa using g', u⟩
theorem un_isRow {d : PyData} {es : List PyData} (h : un d = .list es) : (isK "list" d || isK "tuple" d) = true ∧ unAll (kids d) = es := by
  cases d with
  | list ds => simp [un] at h; exact ⟨rfl, h⟩
  | tuple ds => simp [un] at h; exact ⟨rfl, h⟩
  | _ => simp [un] at h
theorem un_str {d : PyData} {x : Str} (h : un d = .str x) : d = .str x := by
  cases d <;> simp [un] at h ⊢ <;> exact h
theorem unAll_strs : ∀ {ds : List PyData} {l : List Str}, unAll ds = l.map .str → ds = l.map .str
  | [], [], _ => rfl
  | [], _ :: _, h => by simp [unAll] at h
  | _ :: _, [], h => by simp [unAll] at h
  | d :: ds, x :: l, h => by
    simp [unAll] at h
    rw [un_str h.1, unAll_strs h.2]; rfl
theorem unAll_id : ∀ (l : List Str), unAll (l.map .str) = l.map .str
  | [] => rfl
  | x :: l => by simp [unAll, un]
                 simpa using unAll_id l
theorem nod_strs : ∀ (l : List Str), nodAll (l.map .str) = 0
  | [] => rfl
  | x :: l => by simp only [List.map_cons, nodAll, nod, nod_strs l]
theorem map_strD (l : List Str) : (l.map PyData.str).map strD = l := by
  rw [List.map_map]; simp [Function.comp_def, strD]
theorem all_nameD (l : List Str) : (l.map PyData.str).all nameD = l.all nameB := by
  rw [List.all_map]; rfl
/-- a row of texts, once unpacked -/
theorem strs_row {d : PyData} {l : List Str} (h : un d = .list (l.map .str)) : (isK "list" d || isK "tuple" d) = true ∧ kids d = l.map .str ∧ (l.all nameB = true → l.Nodup → namesD d = some l) := by
  obtain ⟨h1, h2⟩ := un_isRow h
  have h3 := unAll_strs h2
  refine ⟨h1, h3, fun a n => ?_⟩
  cases d with
  | list ds =>
    have h4 : ds = l.map .str := h3
    subst h4
    simp only [namesD, map_strD, all_nameD]
    rw [if_pos ⟨a, n⟩]
  | tuple ds =>
    have h4 : ds = l.map .str := h3
    subst h4
    simp only [namesD, map_strD, all_nameD]
    rw [if_pos ⟨a, n⟩]
  | _ => simp [isK, ptype] at h1
def mixD (r : Row) : PyData := .list [.list (r.1.map .str), .list (r.2.map .str)]
theorem un_mix (r : Row) : un (mixD r) = mixD r := by
  simp only [mixD, un, unAll, unAll_id]
theorem fit_strs {k : Nat} {l : List Str} (h : l.length ≤ 1000) : Fit (k + 2) (.list (l.map .str)) := by
  refine ⟨by simpa using h, fun d hd => ?_⟩
  obtain ⟨x, _, rfl⟩ := List.mem_map.mp hd
  trivial
theorem fit_mix {r : Row} (h1 : r.1.length ≤ 1000) (h2 : r.2.length ≤ 1000) : Fit 3 (mixD r) := by
  refine ⟨by simp, fun d hd => ?_⟩
  simp at hd
  rcases hd with rfl | rfl
  · exact fit_strs h1
  · exact fit_strs h2
theorem nod_mix (r : Row) : nod (mixD r) = 3 := by simp [mixD, nod, nodAll, nod_strs]
theorem nod_mixes : ∀ (l : List Row), nodAll (l.map mixD) = 3 * l.length
  | [] => rfl
  | r :: l => by simp only [List.map_cons, nodAll, nod_mix, nod_mixes l, List.length_cons]; omega
theorem StreamAt.kp {a b : Addr} {n : Nat} {H H' : Hp} {S : List Addr} (s : StreamAt a b n H) (k : Keep S H H') (na : a ∉ S) (nb : b ∉ S) : StreamAt a b n H' := by
  obtain ⟨ne, cells, x, c, m, h1, h2, r⟩ := s
  exact ⟨ne, cells, x, c, m, k _ _ na h1, k _ _ nb h2, r⟩
theorem lot_of {d : PyData} {l ns : List Str} (h : namesD d = some l) (s : ∀ x ∈ l, x ∈ ns) : lotD d ns = some l := by
  unfold lotD; rw [h]; show (if _ then _ else _) = _; rw [if_pos s]
abbrev FdMixed (K : PySem.W.Frag) (mg : Str → Option Value) := Fd K mg "_law_mixed" s_law_mixed P_law_mixed
abbrev FdLoose (K : PySem.W.Frag) (mg : Str → Option Value) := Fd K mg "_law_loose" s_law_loose P_law_loose
abbrev MdInit (K : PySem.W.Frag) (C : Addr) := Md K C "__init__" "Log.__init__" sLog___init__ PLog___init__
abbrev MdStanding (K : PySem.W.Frag) (C : Addr) := Md K C "standing" "Log.standing" sLog_standing PLog_standing
def spMade (a b C : Addr) : Sp := fun vs H Q _ => ∃ (n : Nat) (L : LG) (v : V), vs = [.ref a, v] ∧ Dt [a, b] H (logD L) v ∧ L.Ok ∧ StreamAt a b n H ∧ n < 2 ^ 38 ∧
  ∀ p H', (∀ S, Trk S H → LogAt S C H' p L) → StreamAt a b (n + 4000) H' → Keep [a, b] H H' → Q (.ref p) H'
theorem ok_made {a b C : Addr} (d : Fd K mg "_law_made" s_law_made P_law_made) (d_law_below : FdB K mg) (d_law_mixed : FdMixed K mg) (d_law_loose : FdLoose K mg) (cLog : LogCls K mg C) (dLog___init__ : MdInit K C) (dLog_standing : MdStanding K C) (mkLog : Mk K C dLog___init__.f)
    (drecord_of : FdRecordOf K mg) (dlot_among : FdLotAmong K mg) (dnames_of : FdNamesOf K mg) (dis_name : FdIsName K mg) (B : Blt mg) : FnOk P w K mg base CX0 7 d.f d.fd P_law_made (spMade a b C) := by
  have G_law_mixed : FnOk P w K mg base CX0 2 d_law_mixed.f d_law_mixed.fd P_law_mixed (spMixed a b) := ok_mixed d_law_mixed d_law_below B
  have G_law_loose : FnOk P w K mg base CX0 5 d_law_loose.f d_law_loose.fd P_law_loose (spLoose a b 4) := ok_loose d_law_loose d_law_below B 4
  have GLog___init__ : FnOk P w K mg base CX0 5 dLog___init__.f dLog___init__.fd PLog___init__ (spLogInit C) := ok_loginit cLog dLog___init__ dLog_standing drecord_of dlot_among dnames_of dis_name B
  refine d.F.ok sc_law_made (fun vs H Q E h => ?_) (fun cdv A outer s H vs Q E hr h => ?_)
  · obtain ⟨n, L, v, rfl, _⟩ := h
    rfl
  · obtain ⟨n, L, v, rfl, hd, ok, hS, hn, k⟩ := h
    refine ⟨_, (pss_cons (ps_setLc (i := 2) (own := [("row", 3)]) (g := gName 3) (tt := tYes) rfl sc_law_made.nd rfl rfl (sw_true rfl rfl rfl (by decide +kernel)) (w_list K (pe_ix (x_list K) (pv 1) pe_int (fun _ _ => rfl))) (blkOk_by (own := [("row", 3)]) (N := N_law_made) (sc := defScope s_law_made) (by decide +kernel)) (fun _ _ _ _ _ => by exact (pg_name (i := 3) sc_law_made.nd rfl (by first | exact Or.inl rfl | exact Or.inr rfl))) (fun _ _ _ _ _ => pts_nil) (fun _ _ _ _ _ => by exact (pe_lst (pa_cons (pe_call G_law_mixed (hr.mono (by decide)) (by rfl) d_law_mixed.g d_law_mixed.F.kp d_law_mixed.b .nil pass0 (pa_cons (pv 0) (pa_cons (pe_ix (x_tup K) (pv 3) pe_int (fun _ _ => rfl)) pa_nil))) (pa_cons (pe_call G_law_mixed (hr.mono (by decide)) (by rfl) d_law_mixed.g d_law_mixed.F.kp d_law_mixed.b .nil pass0 (pa_cons (pv 0) (pa_cons (pe_ix (x_tup K) (pv 3) pe_int (fun _ _ => rfl)) pa_nil))) pa_nil)))))
      (pss_one (ps_ret (pe_make mkLog GLog___init__ (hr.mono (by decide)) (by rfl) cLog.g dLog___init__.b .nil pass0 (pa_cons (pe_call G_law_loose (hr.mono (by decide)) (by rfl) d_law_loose.g d_law_loose.F.kp d_law_loose.b .nil pass0 (pa_cons (pv 0) (pa_cons (pe_call G_law_mixed (hr.mono (by decide)) (by rfl) d_law_mixed.g d_law_mixed.F.kp d_law_mixed.b .nil pass0 (pa_cons (pv 0) (pa_cons (pe_ix (x_list K) (pv 1) pe_int (fun _ _ => rfl)) pa_nil))) pa_nil))) (pa_cons (pe_call G_law_loose (hr.mono (by decide)) (by rfl) d_law_loose.g d_law_loose.F.kp d_law_loose.b .nil pass0 (pa_cons (pv 0) (pa_cons (pv 2) pa_nil))) pa_nil)))))), ?_⟩
    obtain ⟨lp, q, lr, lrx, rfl, hlp, hq, hlr, dta, nlp, nq, nlr⟩ := hd.logE
    have lrxl : lrx.length = L.rows.length := by rw [dta.length]; simp
    have few := ok.few
    have most := ok.most
    walk_at "v"
    refine w_lst hlr ?_
    refine lc_by (walk_list (xs := lrx)) fun D hD => ⟨fun i H' => ∃ ms : List Row, ms.length = i ∧ (∀ (j : Nat) (m r : Row), ms[j]? = some m → L.rows[j]? = some r → m.1.Perm r.1 ∧ m.2.Perm r.2) ∧ Acc [a, b] H H' D (ms.map mixD) ∧ StreamAt a b (n + 24 * i) H' ∧ Keep [a, b] H H', ?_, fun i H' _ ⟨_, _, _, _, _, kp⟩ => SqL.of (kp _ _ nlr hlr), ?_, ?_⟩
    · exact ⟨[], rfl, by simp, Acc.start (Keep.refl _ _) hD, hS.new hD, (Keep.refl _ _).new hD⟩
    · rintro i x H2 H1 hi ⟨ms, lm, pm, ac, st1, kp1⟩ ⟨rfl, hx⟩
      have hil : i < L.rows.length := by omega
      have hri : L.rows[i]? = some L.rows[i] := by simp [hil]
      obtain ⟨di, hdi, hdx⟩ := dta.get' hx
      rw [List.getElem?_map, hri] at hdi
      obtain rfl : di = rowD L.rows[i] := (Option.some.inj hdi).symm
      have reads := (ok.reads _ (List.mem_of_getElem? hri)).length_le
      have writes := (ok.writes _ (List.mem_of_getElem? hri)).1.length_le
      obtain ⟨ri, wi, eri⟩ : ∃ ri wi, L.rows[i] = (ri, wi) := ⟨_, _, rfl⟩
      rw [eri] at hdx reads writes hri
      obtain ⟨ty, t1, t2, rfl, hty, ht1, ht2, nty, nt1, nt2⟩ := hdx.rowE
      simp only at reads writes
      walk_at "v"
      refine i_ixT (kp1 _ _ nty hty) (atI_nat (j := 0) rfl) ?_
      walk_at "v"
      refine ⟨n + 24 * i, t1, ri.map V.str, rfl, .inr (kp1 _ _ nt1 ht1), by rw [List.length_map]; omega, st1, by omega, fun q1 ys1 H3 p1 fr1 hq1 st3 kp3 => ?_⟩
      obtain ⟨r', rfl, pr⟩ := perm_strs p1
      have kp13 := kp1.trans kp3
      walk_at "v"
      refine i_ixT (kp13 _ _ nty hty) (atI_nat (j := 1) rfl) ?_
      walk_at "v"
      refine ⟨n + 24 * i + ri.length, t2, wi.map V.str, rfl, .inr (kp13 _ _ nt2 ht2), by rw [List.length_map]; omega, st3.mono (by rw [List.length_map]; omega), by omega, fun q2 ys2 H4 p2 fr2 hq2 st4 kp4 => ?_⟩
      obtain ⟨w', rfl, pw⟩ := perm_strs p2
      rw [List.length_map] at st4
      have nab : ∀ {H0 : Hp} {m : Nat} {x : Addr}, StreamAt a b m H0 → H0 x = none → x ∉ [a, b] := fun st h => st.nm h
      have hq1' := kp4 _ _ (st1.nm fr1) hq1
      walk_at "v"
      refine ⟨show 2 ≤ sizeLine by decide, fun l hl => ?_⟩
      have n1 : NewM [a, b] H1 H4 (.list (r'.map .str)) (.ref q1) := (NewM.freshS fr1 hq1).keep kp4
      have n2 : NewM [a, b] H1 H4 (.list (w'.map .str)) (.ref q2) := (NewM.freshS fr2 hq2).pre kp3
      have nl : NewM [a, b] H1 (upd H4 l (.lst [.ref q1, .ref q2])) (mixD (r', w')) (.ref l) := NewM.lst (kp3.trans kp4) hl fun S t m => DtAll.cons (n1 S t m) (DtAll.cons (n2 S t m) DtAll.nil)
      have kpl : Keep [a, b] H1 (upd H4 l (.lst [.ref q1, .ref q2])) := (kp3.trans kp4).new hl
      obtain ⟨acc, ea, la, _⟩ := id ac.ex
      obtain ⟨e8, ac8⟩ := ac.step hS.trk ea nl kpl
      have hDab := hS.na hD
      refine ⟨acc, e8, by rw [la, List.length_map, lm]; exact small1000 (by omega), ms ++ [(r', w')], by simp [lm], fun j m r h1 h2 => ?_, by rw [List.map_append]; exact ac8, ((st4.new hl).put hDab.1 hDab.2).mono (by omega), (kp1.trans kpl).new' hD⟩
      rcases Nat.lt_or_ge j i with hj | hj
      · exact pm j m r (by rw [List.getElem?_append_left (by omega)] at h1; exact h1) h2
      · have hj' : j = i := by
          have := (List.getElem?_eq_some_iff.mp h1).1
          simp [lm] at this; omega
        subst hj'
        rw [List.getElem?_append_right (by omega), lm] at h1
        simp at h1; subst h1
        rw [hri] at h2; cases h2
        exact ⟨pr, pw⟩
    · rintro H1 ⟨ms, lm, pm, ac, st1, kp1⟩
      rw [lrxl] at lm st1
      walk_at "v"
      refine i_ixL (kp1 _ _ nlp hlp) (atI_nat (j := 0) rfl) ?_
      walk_at "v"
      refine ⟨n + 24 * L.rows.length, q, L.pages.map V.str, rfl, .inl (kp1 _ _ nq hq), by rw [List.length_map]; omega, st1, by omega, fun q1 ys1 H2 p1 fr1 hq1 st2 kp2 => ?_⟩
      obtain ⟨pg, rfl, ppg⟩ := perm_strs p1
      rw [List.length_map] at st2
      have lpg : pg.length = L.pages.length := ppg.length_eq
      walk_at "v"
      refine ⟨_, .list (pg.map .str), .ref q1, rfl, NewM.freshS fr1 hq1 _ st1.trk (fun m h => h), fit_strs (k := 2) (by omega), st2, by simp only [nod, nod_strs]; omega, fun d1 v1 H3 u1 nv1 st3 kp3 => ?_⟩
      have e1 : nod (.list (pg.map .str)) = 1 := by simp only [nod, nod_strs]
      rw [e1] at st3
      rw [un, unAll_id] at u1
      have kp13 := (kp1.trans kp2).trans kp3
      walk_at "v"
      have ac3 : Acc [a, b] H H3 D (ms.map mixD) := ac.skip hS.trk (kp2.trans kp3)
      have ems : ∀ m ∈ ms, m.1.length ≤ 12 ∧ m.2.length ≤ 12 := fun m hm => by
        obtain ⟨j, hj, e⟩ := List.getElem_of_mem hm
        have hjr : j < L.rows.length := by omega
        obtain ⟨z1, z2⟩ := pm j m L.rows[j] (by rw [← e]; simp) (by simp [hjr])
        have hjm : L.rows[j] ∈ L.rows := by simp
        have y1 := (ok.reads _ hjm).length_le
        have y2 := (ok.writes _ hjm).1.length_le
        rw [z1.length_eq, z2.length_eq]; omega
      refine ⟨_, .list (ms.map mixD), .ref D, rfl, ac3.done _ hS.trk (fun m h => h), ⟨by rw [List.length_map]; omega, fun d hd => ?_⟩, st3, by simp only [nod, nod_mixes]; omega, fun d2 v2 H4 u2 nv2 st4 kp4 => ?_⟩
      · obtain ⟨m, hm, rfl⟩ := List.mem_map.mp hd
        have := ems m hm
        exact fit_mix (by omega) (by omega)
      have e2 : nod (.list (ms.map mixD)) = 3 * L.rows.length + 1 := by simp only [nod, nod_mixes, lm]
      rw [e2] at st4
      walk_at "v"
      intro p dx hp hdx dne
      have hp' : upd H4 dx (.own p) p = none := by rw [upd_ne dne.symm]; exact hp
      have sm : Same H4 (upd (upd H4 dx (.own p)) p (.ins C dx [])) := ((Same.refl H4).new hdx).new hp'
      have t2 : Trk [a, b] H2 := st2.trk
      have t3 : Trk [a, b] H3 := st3.trk
      have dv1 : Dt [a, b] H4 d1 v1 := (nv1.keep kp4) _ t2 (fun m h => h)
      have dv2 : Dt [a, b] H4 d2 v2 := nv2 _ t3 (fun m h => h)
      have av : ∀ t ∈ [p], H4 t = none := fun t h => by simp at h; subst h; exact hp
      have dv1' := (Dt.avoid av _ _ dv1).same sm
      have dv2' := (Dt.avoid av _ _ dv2).same sm
      obtain ⟨sr1, kd1, nm1⟩ := strs_row u1
      have nm1' : namesD d1 = some pg := nm1 (by rw [List.all_eq_true]; exact fun x hx => ok.name x (ppg.subset hx)) (ppg.nodup_iff.mpr ok.nd)
      have short : ∀ (l : List Str), (∀ x ∈ l, nameB x = true) → ∀ z ∈ l.map PyData.str, (strD z).length ≤ 1000000 := fun l h z hz => by
        obtain ⟨x, hx, rfl⟩ := List.mem_map.mp hz
        have := (nameB_len (h x hx)).2
        show x.length ≤ 1000000; omega
      have u2' : un d2 = .list (ms.map mixD) := by
        rw [u2, un]
        congr 1
        clear u2 nv2 dv2 dv2' st4 e2 ac3 ac pm lm ems
        induction ms with
        | nil => rfl
        | cons m ms ih => simp only [List.map_cons, unAll, un_mix, ih]
      obtain ⟨sr2, kd2⟩ := un_isRow u2'
      refine ⟨[p] ++ [a, b], p, dx, d1, d2, v1, v2, L, pg, rfl, upd_same, by simp, dv1', dv2', ok, ?_, ?_, nm1', ppg, sr2, ?_, fun i d r h1 h2 => ?_, fun H5 kp5 lg => ?_⟩
      · rw [kd1]; exact short pg (fun x hx => ok.name x (ppg.subset hx))
      · rw [kd1, List.length_map]; omega
      · rw [← unAll_len (kids d2), kd2, List.length_map, lm]
      · have uu : unAll (kids d2) = unAll (ms.map mixD) := by
          rw [kd2]
          clear u2' kd2 u2 nv2 dv2 dv2' st4 e2 ac3 ac pm lm ems
          induction ms with
          | nil => rfl
          | cons m ms ih => simp only [List.map_cons, unAll, un_mix, ← ih]
        obtain ⟨e, g, ue⟩ := unAll_get uu h1
        rw [List.getElem?_map] at g
        obtain ⟨m, hm, rfl⟩ := Option.map_eq_some_iff.mp g
        rw [un_mix] at ue
        obtain ⟨z1, z2⟩ := pm i m r hm h2
        obtain ⟨sr, kd⟩ := un_isRow ue
        have lk : (kids d).length = 2 := by rw [← unAll_len, kd]; rfl
        obtain ⟨da, db, ek⟩ : ∃ da db, kids d = [da, db] := by
          match kids d, lk with
          | [x, y], _ => exact ⟨x, y, rfl⟩
        rw [ek] at kd
        simp only [unAll, List.cons.injEq, and_true] at kd
        have hr' : r ∈ L.rows := List.mem_of_getElem? h2
        have rsub := ok.reads _ hr'
        have wsub := (ok.writes _ hr').1
        have y1 := rsub.length_le
        have y2 := wsub.length_le
        obtain ⟨sa, ka, na⟩ := strs_row kd.1
        obtain ⟨sb, kb, nb⟩ := strs_row kd.2
        have nma : ∀ x ∈ m.1, nameB x = true := fun x hx => ok.name x (rsub.subset (z1.subset hx))
        have nmb : ∀ x ∈ m.2, nameB x = true := fun x hx => ok.name x (wsub.subset (z2.subset hx))
        have na' := na (by rw [List.all_eq_true]; exact nma) (z1.nodup_iff.mpr (ok.nd.sublist rsub))
        have nb' := nb (by rw [List.all_eq_true]; exact nmb) (z2.nodup_iff.mpr (ok.nd.sublist wsub))
        refine ⟨sr, da, db, m.1, m.2, ek, by rw [ka]; exact short _ nma, ?_, by rw [kb]; exact short _ nmb, ?_, lot_of na' (fun x hx => rsub.subset (z1.subset hx)), z1, lot_of nb' (fun x hx => wsub.subset (z2.subset hx)), z2⟩
        · rw [ka, List.length_map, z1.length_eq]; omega
        · rw [kb, List.length_map, z2.length_eq]; omega
      · have kp14 : Keep [a, b] H H4 := kp13.trans kp4
        have pab := st4.na hp
        have kpA : Keep [a, b] H H5 := by
          have k45 : Keep [p] H4 H5 := (Keep.of_same sm).trans kp5
          exact kp14.trans ⟨fun z o nz e => k45 z o (by simp; intro e'; subst e'; rw [hp] at e; cases e) e, k45.tr⟩
        refine ⟨rfl, k p H5 (fun S t => lg S ((t.keep kp14).same sm) ?_) (((st4.same sm).kp kp5 ?_ ?_).mono (by omega)) kpA⟩
        · exact (t.keep kp14).nm hp
        · simp; exact pab.1.symm
        · simp; exact pab.2.symm
end Lr
set_option Elab.async false
set_option linter.all false
set_option maxRecDepth 100000
set_option maxHeartbeats 4000000
namespace Lr
open PySem PySem.Spec
      PyProof.Rows L2
local macro_rules | `(tactic| walk_at "ne") => `(tactic| (first | assumption | (refine ne_sym ?_; assumption) | (exact ne_of_none (by assumption) (by assumption)) | (exact ne_sym (ne_of_none (by assumption) (by assumption)))))
local macro_rules | `(tactic| walk_at "h") => `(tactic| (first | assumption | exact upd_same | (refine h_new ?_ (by assumption); walk_at "h") | (refine h_ne (by walk_at "ne") ?_; walk_at "h")))
local macro_rules | `(tactic| walk_at "v1") => `(tactic| (with_reducible first
  | refine i_seq ?_ | refine i_asg ?_ | refine i_ret ?_ | refine i_next ?_ | refine i_drop ?_ | refine i_ifS ?_ | refine i_if ?_ | refine i_and ?_ | refine i_or ?_ | refine i_not ?_ | refine i_test ?_ | refine i_tB ?_ | refine i_bl ?_ | refine i_yes ?_
  | refine i_op ?_ | refine i_un ?_ | refine i_chain ?_ | refine i_andV ?_ | refine i_orV ?_ | refine i_notV ?_ | refine i_cb ?_ | refine i_cons ?_ | refine i_nil ?_ | refine i_bm ?_ | refine i_bm0 ?_ | refine i_c ?_ | refine i_name ?_ | refine i_sub ?_
  | refine i_call ?_ | refine i_lst ?_ | refine i_tup ?_ | refine i_par ?_ | refine i_par2 ?_ | refine i_sl ?_ | refine i_np ?_ | refine i_pt ?_ | refine i_int ?_ | refine i_m0 ?_ | refine i_m1 ?_ | refine i_isS ?_
  | refine i_rI0 ?_ | refine i_inSign ?_ | refine i_notInSign ?_ | refine i_int1 ?_ | refine i_tru ?_ | refine i_isN ?_ | refine i_notN ?_ | refine iteT ?_ | refine iteF ?_ | refine i_brk ?_ | refine i_rt ?_ | refine i_nx ?_ | refine i_bk ?_ | refine i_ct ?_ | refine i_for ?_ | refine i_lc ?_ | refine i_dc ?_ | refine i_iL ?_ | refine i_iT ?_ | refine i_iR1 ?_ | refine i_iR2 ?_ | refine i_iS ?_ | refine i_iE ?_ | refine i_iEK ?_ | refine i_iEQ ?_ | refine i_dget ?_ | refine i_fld ?_ | refine i_sfld ?_ | refine i_dput ?_ | refine i_meth ?_ | refine i_rU ?_ | refine i_cont ?_ | refine i_make ?_))
local macro_rules | `(tactic| walk_at "v2") => `(tactic| (first
  | ((with_reducible refine' i_var ?k1 ?_); (case k1 => exact rfl))
  | ((with_reducible refine' i_eq ?k1 ?_); (case k1 => exact rfl))
  | ((with_reducible refine' i_ne ?k1 ?_); (case k1 => exact rfl))
  | ((with_reducible refine' i_ixL ?k1 ?k2 ?_); (case k1 => walk_at "h"); (case k2 => exact rfl))
  | ((with_reducible refine' i_ixT ?k1 ?k2 ?_); (case k1 => walk_at "h"); (case k2 => exact rfl))
  | ((with_reducible refine' i_lenL ?k1 ?_); (case k1 => walk_at "h"))
  | ((with_reducible refine' i_lenT ?k1 ?_); (case k1 => walk_at "h"))
  | (refine i_wipe (show wipe _ _ = wipe _ _ from rfl) ?_)
  | ((with_reducible refine' i_setL ?k1 ?k2 ?_); (case k1 => walk_at "h"); (case k2 => exact rfl))
  | ((with_reducible refine' i_tyl ?k1 ?_); (case k1 => walk_at "h"))))
local macro_rules | `(tactic| walk_at "v") => `(tactic| repeat (first | walk_at "v1" | walk_at "v2"))

variable {P : Program} {w : World} {K :
      PySem.W.Frag} {mg : Str → Option Value} {base : Heap}
abbrev s_law_needs : Stmt := top 49
abbrev N_law_needs : List Str := ["log", "page", "now", "found", "index", "row"]
abbrev P_law_needs : List Str := ["log"]
theorem sc_law_needs : FnScope N_law_needs P_law_needs (defScope s_law_needs) := ⟨rfl, rfl, rfl, by decide +kernel, rfl, by decide +kernel, by decide +kernel⟩
def pairD (z : Str × Int) : PyData := .tuple [.str z.1, .int z.2]
/-- the needs as the law has them: lists of pairs -/
def needL (l : List (Str × Int)) : PyData := .list (l.map pairD)
def needsL (L : LG) : PyData := .list ((needs L).map needL)
theorem ver_app (t : List Row) (r : Row) (x : Str) : ver (t ++ [r]) x = if x ∈ r.2 then (t.length : Int) + 1 else ver t x := by
  unfold ver
  rw [wr_append]
  split <;> simp
theorem ver_nil (x : Str) : ver [] x = 0 := rfl
theorem valV_merge {x : Str} : ∀ (l : List Str) (acc : List (Key × V)), valV (mergeK acc (l.map fun y => ((Sum.inr y : Key), V.int 0))) (.inr x) = if x ∈ l then some (.int 0) else valV acc (.inr x)
  | [], acc => by simp [mergeK]
  | y :: l, acc => by
    have ih := valV_merge (x := x) l (putK acc (.inr y) (.int 0))
    show valV (mergeK (putK acc (.inr y) (.int 0)) (l.map fun y => ((Sum.inr y : Key), V.int 0))) (.inr x) = _
    rw [ih, valV_put]
    by_cases h : x ∈ l
    · simp [h]
    · by_cases e : x = y
      · subst e; simp
      · have : ¬ ((Sum.inr x : Key) = Sum.inr y) := fun z => e (Sum.inr.inj z)
        simp [h, e, this]
theorem putK_same {kvs : List (Key × V)} {k : Key} {v y : V} (h : valV kvs k = some y) : (putK kvs k v).length = kvs.length := by
  unfold putK
  rw [valV_any, h]
  simp
theorem paired_of {S : List Addr} {H : Hp} : ∀ (l : List Str) (acc : List V), DtAll S H (l.map fun x => pairD (x, 0)) acc → ∃ ps : List Addr, acc = ps.map V.ref ∧ Paired (fun p (kv : Key × V) => SqT K H p [kV kv.1, kv.2]) ps (l.map fun y => ((Sum.inr y : Key), V.int 0))
  | [], acc, h => by
    rw [show ([] : List Str).map (fun x => pairD (x, 0)) = [] from rfl, DtAll.nil_iff] at h
    subst h
    exact ⟨[], rfl, .nil⟩
  | x :: l, acc, h => by
    obtain ⟨y, r, rfl, h1, h2⟩ := DtAll.cons_iff.mp h
    obtain ⟨ps, rfl, pr⟩ := paired_of l r h2
    obtain ⟨a, xs, rfl, n, q, z⟩ := (by unfold pairD Dt at h1; exact h1 : ∃ a xs, y = .ref a ∧ a ∉ S ∧ H a = some (.tup xs) ∧ DtAll S H [.str x, .int 0] xs)
    obtain ⟨u1, r1, rfl, e1, z1⟩ := DtAll.cons_iff.mp z
    obtain ⟨u2, r2, rfl, e2, z2⟩ := DtAll.cons_iff.mp z1
    obtain rfl := DtAll.nil_iff.mp z2
    unfold Dt at e1 e2
    subst e1 e2
    exact ⟨a :: ps, rfl, .cons (SqT.of q) pr⟩
theorem newPair {M : List Addr} {H0 : Hp} {x : Str} {i : Int} {t : Addr} (ht : H0 t = none) : NewM M H0 (upd H0 t (.tup [.str x, .int i])) (pairD (x, i)) (.ref t) := NewM.tup (Keep.refl _ _) ht fun _ _ _ => DtAll.cons dt_s (DtAll.cons dt_i DtAll.nil)
def spNeeds : Sp := fun vs H Q _ => ∃ (S : List Addr) (L : LG) (v : V), vs = [v] ∧ Dt S H (logD L) v ∧ L.Ok ∧ ∀ v' H', New H H' (needsL L) v' → Same H H' → Q v' H'
theorem needsAt (L : LG) (n : Nat) (hn : n ≤ L.rows.length) : (needs L).take n = (List.range n).map (fun i => standing (L.rows.take i) ((L.rows[i]?.getD ([], [])).1)) := by
  unfold needs
  rw [List.take_append_of_le_length (by simp; exact hn), ← List.map_take, List.take_range, Nat.min_eq_left hn]
theorem needs_len (L : LG) : (needs L).length = L.rows.length + 1 := by simp [needs]
theorem needs_at {L : LG} {i : Nat} {r : Row} (h : L.rows[i]? = some r) : (needs L)[i]? = some (standing (L.rows.take i) r.1) := by
  have hi := (List.getElem?_eq_some_iff.mp h).1
  unfold needs
  rw [List.getElem?_append_left (by simpa using hi), List.getElem?_map, List.getElem?_range hi]
  simp [h]
theorem needs_end (L : LG) : (needs L)[L.rows.length]? = some (standing L.rows L.pages) := by
  unfold needs
  rw [List.getElem?_append_right (by simp)]; simp
theorem ok_needs (d : Fd K mg "_law_needs" s_law_needs P_law_needs) (B : Blt mg) : FnOk P w K mg base CX0 1 d.f d.fd P_law_needs spNeeds := by
  refine d.F.ok sc_law_needs (fun vs H Q E h => ?_) (fun cdv A outer s H vs Q E hr h => ?_)
  · obtain ⟨S, L, v, rfl, _⟩ := h
    rfl
  · obtain ⟨S, L, v, rfl, hd, ok, k⟩ := h
    refine ⟨_, (pss_cons (ps_set (i := 2) sc_law_needs.nd rfl (by first | exact Or.inl rfl | exact Or.inr rfl) (pe_callTy (c_dictP K rfl) (by rfl) B.dict (by decide +kernel) (pa_cons (pe_lc (own := [("page", 1)]) (g := gName 1) (tt := tYes) rfl sc_law_needs.nd (w_list K (pe_ix (x_list K) (pv 0) pe_int (fun _ _ => rfl))) (blkOk_by (own := [("page", 1)]) (N := N_law_needs) (sc := defScope s_law_needs) (by decide +kernel)) (fun _ _ _ _ _ => by exact (pg_name (i := 1) sc_law_needs.nd rfl (by first | exact Or.inl rfl | exact Or.inr rfl))) (fun _ _ _ _ _ => pts_nil) (fun _ _ _ _ _ => by exact (pe_tup (pa_cons (pv 1) (pa_cons pe_int pa_nil))))) pa_nil)))
      (pss_cons (ps_set (i := 3) sc_law_needs.nd rfl (by first | exact Or.inl rfl | exact Or.inr rfl) (pe_lst pa_nil))
      (pss_cons (ps_for PassesOwn.never rfl (w_enumQ K (by rfl) B.enumerate (pa_cons (pe_ix (x_list K) (pv 0) pe_int (fun _ _ => rfl)) pa_nil)) (g_tup K (n := 2) rfl (pgs_cons (pg_name (i := 4) sc_law_needs.nd rfl (by first | exact Or.inl rfl | exact Or.inr rfl)) (pgs_cons (pg_name (i := 5) sc_law_needs.nd rfl (by first | exact Or.inl rfl | exact Or.inr rfl)) pgs_nil)))
      (pss_cons (ps_expr (e_bm K PySem.F.plainAttrs_list PySem.F.slot_list_append PySem.F.type_list_append mt_append (pv 3) (pa_cons (pe_lc (own := [("page", 1)]) (g := gName 1) (tt := tYes) rfl sc_law_needs.nd (w_tup K (pe_ix (x_tup K) (pv 5) pe_int (fun _ _ => rfl))) (blkOk_by (own := [("page", 1)]) (N := N_law_needs) (sc := defScope s_law_needs) (by decide +kernel)) (fun _ _ _ _ _ => by exact (pg_name (i := 1) sc_law_needs.nd rfl (by first | exact Or.inl rfl | exact Or.inr rfl))) (fun _ _ _ _ _ => pts_nil) (fun _ _ _ _ _ => by exact (pe_tup (pa_cons (pv 1) (pa_cons (pe_dget (hu_of hr) (pv 2) (pv 1) (fun _ _ => rfl)) pa_nil))))) pa_nil)))
      (pss_one (ps_for PassesOwn.never rfl (w_tup K (pe_ix (x_tup K) (pv 5) pe_int (fun _ _ => rfl))) (pg_name (i := 1) sc_law_needs.nd rfl (by first | exact Or.inl rfl | exact Or.inr rfl))
      (pss_one (ps_dput (hu_of hr) (pv 2) (pv 1) (pe_op op_add (pv 4) pe_int) rfl))))))
      (pss_cons (ps_expr (e_bm K PySem.F.plainAttrs_list PySem.F.slot_list_append PySem.F.type_list_append mt_append (pv 3) (pa_cons (pe_lc (own := [("page", 1)]) (g := gName 1) (tt := tYes) rfl sc_law_needs.nd (w_list K (pe_ix (x_list K) (pv 0) pe_int (fun _ _ => rfl))) (blkOk_by (own := [("page", 1)]) (N := N_law_needs) (sc := defScope s_law_needs) (by decide +kernel)) (fun _ _ _ _ _ => by exact (pg_name (i := 1) sc_law_needs.nd rfl (by first | exact Or.inl rfl | exact Or.inr rfl))) (fun _ _ _ _ _ => pts_nil) (fun _ _ _ _ _ => by exact (pe_tup (pa_cons (pv 1) (pa_cons (pe_dget (hu_of hr) (pv 2) (pv 1) (fun _ _ => rfl)) pa_nil))))) pa_nil)))
      (pss_one (ps_ret (pv 3))))))), ?_⟩
    obtain ⟨lp, q, lr, lrx, rfl, hlp, hq, hlr, dta, nlp, nq, nlr⟩ := hd.logE
    have lrxl : lrx.length = L.rows.length := by rw [dta.length]; simp
    have few := ok.few
    have most := ok.most
    walk_at "v"
    refine w_lst hq ?_
    refine lc_by (walk_list (xs := L.pages.map V.str)) fun D hD => ⟨fun i H' => Acc [] H H' D ((L.pages.take i).map fun x => pairD (x, 0)), ?_, fun i H' _ ac => SqL.of (ac.kp.same _ _ hq), ?_, ?_⟩
    · exact Acc.start (Keep.refl _ _) hD
    · rintro i x H1 H2 hi ac ⟨rfl, hx⟩
      rw [List.getElem?_map] at hx
      obtain ⟨x, hxi, rfl⟩ := Option.map_eq_some_iff.mp hx
      walk_at "v"
      refine ⟨show 2 ≤ sizeLine by decide, fun t ht => ?_⟩
      obtain ⟨acc, ea, la, _⟩ := id ac.ex
      obtain ⟨e4, ac4⟩ := ac.step trk_nil ea (newPair ht) ((Keep.refl _ _).new ht)
      refine ⟨acc, e4, ?_, ?_⟩
      · rw [la, List.length_map, List.length_take]; exact small1000 (by omega)
      · show Acc [] H _ D ((L.pages.take (i + 1)).map fun x => pairD (x, 0))
        rw [List.take_succ, hxi]; simpa using ac4
    rintro H1 ac
    rw [List.length_map, List.take_length] at ac
    obtain ⟨acc, ea, la, dacc⟩ := ac.ex
    obtain ⟨ps, rfl, pr⟩ := paired_of (K := K) L.pages acc (dacc [] trk_nil (fun _ h => nomatch h))
    have s1 := ac.kp.same
    walk_at "v"
    refine ⟨D, ps, _, rfl, SqL.of ea, pr, fun dw hdw => ?_⟩
    have s2 := s1.new (o := .dK (mergeK [] (L.pages.map fun y => ((Sum.inr y : Key), V.int 0)))) hdw
    obtain ⟨H2, eH2⟩ : ∃ H2, H2 = upd H1 dw (.dK (mergeK [] (L.pages.map fun y => ((Sum.inr y : Key), V.int 0)))) := ⟨_, rfl⟩
    have hw2 : ∃ kvs, H2 dw = some (.dK kvs) ∧ kvs.length ≤ 12 ∧ ∀ x ∈ L.pages, valV kvs (.inr x) = some (.int (ver (L.rows.take 0) x)) := by
      refine ⟨_, by rw [eH2]; exact upd_same, ?_, fun x hx => ?_⟩
      · refine Nat.le_trans (length_mergeK _ _) ?_
        simp; omega
      · rw [valV_merge, if_pos hx]; simp [ver_nil]
    have hdH := s1.free hdw
    rw [← eH2] at s2 ⊢
    have trk2 : Trk [dw] H2 := fun z hz => by simp at hz; subst hz; obtain ⟨kvs, e, _⟩ := hw2; exact ⟨_, e⟩
    clear eH2
    walk_at "v"
    refine ⟨show 0 ≤ sizeLine by decide, fun ln hln => ?_⟩
    walk_at "v"
    have ac2 : Acc [dw] H2 (upd H2 ln (.lst [])) ln [] := Acc.start (Keep.refl _ _) hln
    have ndw : ∀ {z : Addr} {o : HO}, H z = some o → z ∉ [dw] := fun h m => by simp at m; subst m; rw [hdH] at h; cases h
    have hw3 : ∃ kvs, upd H2 ln (.lst []) dw = some (.dK kvs) ∧ kvs.length ≤ 12 ∧ ∀ x ∈ L.pages, valV kvs (.inr x) = some (.int (ver (L.rows.take 0) x)) := by
      obtain ⟨kvs, e, r⟩ := hw2
      exact ⟨kvs, h_new e hln, r⟩
    refine i_ixL (h_new (s2 _ _ hlp) hln) (atI_nat (j := 1) rfl) ?_
    refine ⟨lr, lrx, _, rfl, .inl rfl, h_new (s2 _ _ hlr) hln, fun J wk => ?_⟩
    refine for_by wk ⟨fun i σ H' => (∃ v1 v4 v5 : Option V, σ = [some (.ref lp), v1, some (.ref dw), some (.ref ln), v4, v5]) ∧ Acc [dw] H2 H' ln (((needs L).take i).map needL) ∧
      ∃ kvs, H' dw = some (.dK kvs) ∧ kvs.length ≤ 12 ∧ ∀ x ∈ L.pages, valV kvs (.inr x) = some (.int (ver (L.rows.take i) x)), ⟨⟨_, _, _, rfl⟩, ac2, hw3⟩, fun i σ H' _ ⟨_, z, _⟩ => z.kp _ _ (ndw hlr) (s2 _ _ hlr), ?_, ?_⟩
    · rintro i x σ H4 H5 hi ⟨⟨v1, v4, v5, rfl⟩, ac4, kvs, hw4, lk, hv⟩ ⟨T, y0, y, rfl, hT, rfl, e0, hy⟩
      obtain rfl : y0 = .int ((0 : Int) + (i : Nat)) := (Option.some.inj e0).symm
      have hil : i < L.rows.length := by omega
      have hri : L.rows[i]? = some L.rows[i] := by simp [hil]
      obtain ⟨di, hdi, hdx⟩ := dta.get' hy
      rw [List.getElem?_map, hri] at hdi
      obtain rfl : di = rowD L.rows[i] := (Option.some.inj hdi).symm
      have reads := ok.reads _ (List.mem_of_getElem? hri)
      have writes := (ok.writes _ (List.mem_of_getElem? hri)).1
      obtain ⟨ri, wi, eri⟩ : ∃ ri wi, L.rows[i] = (ri, wi) := ⟨_, _, rfl⟩
      rw [eri] at hdx reads writes hri
      obtain ⟨ty, t1, t2, rfl, hty, ht1, ht2, _, _, _⟩ := hdx.rowE
      have kp : ∀ {z : Addr} {o : HO}, H z = some o → H4 z = some o := fun h => ac4.kp _ _ (ndw h) (s2 _ _ h)
      refine g_two upd_same ?_
      have s5 : Same H4 (upd H4 T (.tup [.int ((0 : Int) + (i : Nat)), .ref ty])) := (Same.refl _).new hT
      obtain ⟨H5, eH5⟩ : ∃ H5, H5 = upd H4 T (.tup [.int ((0 : Int) + (i : Nat)), .ref ty]) := ⟨_, rfl⟩
      rw [← eH5] at s5 ⊢
      clear eH5
      obtain ⟨acc, ea, la, _⟩ := id ac4.ex
      walk_at "v"
      refine i_tyl (s5 _ _ ea) ?_
      walk_at "v"
      refine i_ixT (s5 _ _ (kp hty)) (atI_nat (j := 0) rfl) ?_
      walk_at "v"
      refine w_tpl (s5 _ _ (kp ht1)) ?_
      have rl : ri.length ≤ 12 := by have := reads.length_le; simp at this; omega
      refine lc_by (walk_tup (xs := ri.map V.str)) fun D hD => ⟨fun j H' => Acc [] H5 H' D ((standing (L.rows.take i) (ri.take j)).map pairD), ?_, fun j H' _ ac => SqT.of (ac.kp.same _ _ (s5 _ _ (kp ht1))), ?_, ?_⟩
      · exact Acc.start (Keep.refl _ _) hD
      · rintro j x H6 H7 hj ac6 ⟨rfl, hx⟩
        rw [List.getElem?_map] at hx
        obtain ⟨x, hxj, rfl⟩ := Option.map_eq_some_iff.mp hx
        walk_at "v"
        refine d_getS (ac6.kp.same _ _ (s5 _ _ hw4)) (hv x (reads.subset (List.mem_of_getElem? hxj))) ?_
        walk_at "v"
        refine ⟨show 2 ≤ sizeLine by decide, fun t ht => ?_⟩
        obtain ⟨acc6, ea6, la6, _⟩ := id ac6.ex
        obtain ⟨e8, ac8⟩ := ac6.step trk_nil ea6 (newPair ht) ((Keep.refl _ _).new ht)
        refine ⟨acc6, e8, ?_, ?_⟩
        · rw [la6, List.length_map]; unfold standing; rw [List.length_map, List.length_take]; exact small1000 (by omega)
        · show Acc [] H5 _ D ((standing (L.rows.take i) (ri.take (j + 1))).map pairD)
          have : standing (L.rows.take i) (ri.take (j + 1)) = standing (L.rows.take i) (ri.take j) ++ [(x, ver (L.rows.take i) x)] := by
            unfold standing; rw [List.take_succ, hxj, List.map_append]; rfl
          rw [this, List.map_append]; exact ac8
      · rintro H6 ac6
        rw [List.length_map, List.take_length] at ac6
        have s6 := s5.trans ac6.kp.same
        have n6 : NewM [dw] H4 H6 (needL (standing (L.rows.take i) ri)) (.ref D) := fun S t _ => ac6.done S (t.same s5) (fun _ h => nomatch h)
        have e6 := s6 _ _ ea
        walk_at "v"
        refine i_app e6 ?_ ?_
        · rw [la, List.length_map, needsAt L i (by omega), List.length_map, List.length_range]; exact small1000 (by omega)
        have ac7 := (ac4.step trk2 ea n6 (Keep.of_same s6)).2
        have needi : (needs L).take (i + 1) = (needs L).take i ++ [standing (L.rows.take i) ri] := by
          rw [List.take_succ, needs_at hri]; rfl
        have nln : dw ≠ ln := fun e => by
          have := trk2 dw (by simp)
          obtain ⟨o, ho⟩ := this
          rw [e, hln] at ho; cases ho
        have hw7 : upd H6 ln (.lst (acc ++ [.ref D])) dw = some (.dK kvs) := by rw [upd_ne nln]; exact s6 _ _ hw4
        obtain ⟨H7, eH7⟩ : ∃ H7, H7 = upd H6 ln (.lst (acc ++ [.ref D])) := ⟨_, rfl⟩
        rw [← eH7] at ac7 hw7 ⊢
        clear eH7
        have kp7 : ∀ {z : Addr} {o : HO}, H z = some o → H7 z = some o := fun h => ac7.kp _ _ (ndw h) (s2 _ _ h)
        walk_at "v"
        refine i_ixT (kp7 hty) (atI_nat (j := 1) rfl) ?_
        walk_at "v"
        refine w_tpl (kp7 ht2) ?_
        have wl : wi.length ≤ 12 := by have := writes.length_le; simp at this; omega
        refine for_by (walk_tup (xs := wi.map V.str)) ⟨fun j σ H' => (∃ v1 : Option V, σ = [some (.ref lp), v1, some (.ref dw), some (.ref ln), some (.int ((0 : Int) + (i : Nat))), some (.ref ty)]) ∧ Acc [dw] H2 H' ln (((needs L).take (i + 1)).map needL) ∧
          ∃ kvs, H' dw = some (.dK kvs) ∧ kvs.length ≤ 12 ∧ ∀ x ∈ L.pages, valV kvs (.inr x) = some (.int (if x ∈ wi.take j then (i : Int) + 1 else ver (L.rows.take i) x)), ?_, fun j σ H' _ ⟨_, z, _⟩ => SqT.of (z.kp _ _ (ndw ht2) (s2 _ _ ht2)), ?_, ?_⟩
        · exact ⟨⟨_, rfl⟩, by rw [needi, List.map_append]; exact ac7, kvs, hw7, lk, by simpa using hv⟩
        · rintro j x σ H8 H9 hj ⟨⟨v1, rfl⟩, ac8, kvs8, hw8, lk8, hv8⟩ ⟨rfl, hx⟩
          rw [List.getElem?_map] at hx
          obtain ⟨x, hxj, rfl⟩ := Option.map_eq_some_iff.mp hx
          have hxp : x ∈ L.pages := writes.subset (List.mem_of_getElem? hxj)
          walk_at "v"
          refine ⟨dw, _, rfl, DPut.k (k := .inr x) hw8 (small1000 (by omega)), ?_⟩
          refine ⟨⟨_, rfl⟩, ac8.skip trk2 ((Keep.refl _ _).put (by simp)), _, upd_same, by rw [putK_same (hv8 x hxp)]; exact lk8, fun z hz => ?_⟩
          rw [valV_put]
          have et : z ∈ wi.take (j + 1) ↔ z ∈ wi.take j ∨ z = x := by rw [List.take_succ, hxj]; simp
          by_cases e : z = x
          · subst e
            rw [if_pos rfl, if_pos (et.mpr (.inr rfl))]
            congr 2; omega
          · rw [if_neg (fun h => e (Sum.inr.inj h)), hv8 z hz]
            simp only [et, e, or_false]
        · rintro σ H8 ⟨⟨v1, rfl⟩, ac8, kvs8, hw8, lk8, hv8⟩
          rw [List.length_map, List.take_length] at hv8
          walk_at "v"
          refine ⟨⟨_, _, _, rfl⟩, ac8, kvs8, hw8, lk8, fun x hx => ?_⟩
          have e1 : L.rows.take (i + 1) = L.rows.take i ++ [(ri, wi)] := by rw [List.take_succ, hri]; rfl
          rw [hv8 x hx, e1, ver_app, List.length_take, Nat.min_eq_left (Nat.le_of_lt hil)]
    · rintro σ H4 ⟨⟨v1, v4, v5, rfl⟩, ac4, kvs, hw4, lk, hv⟩
      rw [lrxl] at ac4 hv
      rw [List.take_length] at hv
      have kp : ∀ {z : Addr} {o : HO}, H z = some o → H4 z = some o := fun h => ac4.kp _ _ (ndw h) (s2 _ _ h)
      obtain ⟨acc, ea, la, _⟩ := id ac4.ex
      walk_at "v"
      refine i_ixL (kp hlp) (atI_nat (j := 0) rfl) ?_
      walk_at "v"
      refine w_lst (kp hq) ?_
      refine lc_by (walk_list (xs := L.pages.map V.str)) fun D hD => ⟨fun j H' => Acc [] H4 H' D ((standing L.rows (L.pages.take j)).map pairD), ?_, fun j H' _ ac => SqL.of (ac.kp.same _ _ (kp hq)), ?_, ?_⟩
      · exact Acc.start (Keep.refl _ _) hD
      · rintro j x H6 H7 hj ac6 ⟨rfl, hx⟩
        rw [List.getElem?_map] at hx
        obtain ⟨x, hxj, rfl⟩ := Option.map_eq_some_iff.mp hx
        walk_at "v"
        refine d_getS (ac6.kp.same _ _ hw4) (hv x (List.mem_of_getElem? hxj)) ?_
        walk_at "v"
        refine ⟨show 2 ≤ sizeLine by decide, fun t ht => ?_⟩
        obtain ⟨acc6, ea6, la6, _⟩ := id ac6.ex
        obtain ⟨e8, ac8⟩ := ac6.step trk_nil ea6 (newPair ht) ((Keep.refl _ _).new ht)
        refine ⟨acc6, e8, ?_, ?_⟩
        · rw [la6, List.length_map]; unfold standing; rw [List.length_map, List.length_take]; exact small1000 (by omega)
        · show Acc [] H4 _ D ((standing L.rows (L.pages.take (j + 1))).map pairD)
          have : standing L.rows (L.pages.take (j + 1)) = standing L.rows (L.pages.take j) ++ [(x, ver L.rows x)] := by
            unfold standing; rw [List.take_succ, hxj, List.map_append]; rfl
          rw [this, List.map_append]; exact ac8
      · rintro H6 ac6
        rw [List.length_map, List.take_length] at ac6
        have s6 := ac6.kp.same
        have n6 : NewM [dw] H4 H6 (needL (standing L.rows L.pages)) (.ref D) := fun S t _ => ac6.done S t (fun _ h => nomatch h)
        walk_at "v"
        refine i_app (s6 _ _ ea) ?_ ?_
        · rw [la, List.length_map, needsAt L _ (Nat.le_refl _), List.length_map, List.length_range]; exact small1000 (by omega)
        have ac7 := (ac4.step trk2 ea n6 (Keep.of_same s6)).2
        have nall : (needs L).take L.rows.length ++ [standing L.rows L.pages] = needs L := by
          rw [needsAt L _ (Nat.le_refl _)]; rfl
        have e7 : ((needs L).take L.rows.length).map needL ++ [needL (standing L.rows L.pages)] = (needs L).map needL := by
          rw [← List.map_singleton (f := needL), ← List.map_append, nall]
        rw [e7] at ac7
        walk_at "v"
        have dn := ac7.done
        refine k _ _ (fun S' t => ?_) (fun z o h => ac7.kp _ _ (ndw h) (s2 _ _ h))
        have t2 : Trk (dw :: S') H2 := fun z hz => by
          rcases List.mem_cons.mp
                hz with rfl | hz
          · exact trk2 _ (by simp)
          · exact (t.same s2) z hz
        exact Dt.mono (fun x hx => List.mem_cons_of_mem _ hx) _ _ (dn (dw :: S') t2 (by simp))
end Lr
set_option Elab.async false
set_option linter.all false
set_option maxRecDepth 100000
set_option maxHeartbeats 4000000
/-! Tx: rows as texts, in plain terms: numbers' texts, lines of words, which words are a row of a log. -/
namespace Lr
open PySem PySem.Spec PyProof.Rows L2 TL
def numW (n : Nat) : Str := Str.ofString (toString ((n : Nat) : Int))
theorem tl_numW (n : Nat) : tl (numW n) = numL n := tl_num n
theorem numW_inj {m n : Nat} (h : numW m = numW n) : m = n := numL_inj (by rw [← tl_numW, ← tl_numW, h])
theorem numW_len {n k : Nat} (hk : 0 < k) (h : n < 10 ^ k) : (numW n).length ≤ k := by
  rw [len_tl, tl_numW]; exact numL_len hk h
theorem figL : FIG.cps.toList = [48, 49, 50, 51, 52, 53, 54, 55, 56, 57] := by decide +kernel
theorem fig_iff (c : Nat) : figB c = true ↔ 48 ≤ c ∧ c ≤ 57 := by
  unfold figB
  rw [figL, decide_eq_true_eq]
  simp only [List.mem_cons, List.not_mem_nil, or_false]
  omega
theorem digitsVal_snoc (l : List Nat) (c : Nat) : NumText.digitsVal (l ++ [c]) = NumText.digitsVal l * 10 + (c - 48) := by
  unfold NumText.digitsVal; rw [List.foldl_append]; rfl
theorem val_pos : ∀ (l : List Nat) (a : Nat), (1 ≤ a ∨ ∃ c r, l = c :: r ∧ 49 ≤ c) → 1 ≤ l.foldl (fun acc c => acc * 10 + (c - 48)) a
  | [], a, h => by
    rcases h with h | ⟨c, r, e, _⟩
    · exact h
    · cases e
  | c :: l, a, h => by
    refine val_pos l _ (.inl ?_)
    show 1 ≤ a * 10 + (c - 48)
    rcases h with h | ⟨c', r, e, hc⟩
    · omega
    · cases e; omega
theorem num_back : ∀ (n : Nat) (l : List Nat), l.length = n → NumText.AllDigits l → l ≠ [] → (l.length = 1 ∨ l.head? ≠ some 48) → l = numL (NumText.digitsVal l) := by
  intro n
  induction n with
  | zero => intro l e _ h; exact absurd (List.length_eq_zero_iff.mp e) h
  | succ n ih =>
    intro l e ad hne hz
    obtain ⟨i, c, rfl⟩ : ∃ i c, l = i ++ [c] := ⟨l.dropLast, l.getLast hne, (List.dropLast_concat_getLast hne).symm⟩
    have hc := ad c (by simp)
    rw [digitsVal_snoc]
    cases i with
    | nil =>
      show [c] = numL (0 * 10 + (c - 48))
      rw [numL_lt (by omega)]
      congr 1; omega
    | cons x r =>
      have hx := ad x (by simp)
      have hx49 : 49 ≤ x := by
        rcases hz with h | h
        · simp at h
        · simp at h; omega
      have adi : NumText.AllDigits (x :: r) := fun d hd => ad d (List.mem_append_left _ hd)
      have li : (x :: r).length = n := by simp at e ⊢; omega
      have ihh := ih (x :: r) li adi (by simp) (.inr (by simp; omega))
      have vp : 1 ≤ NumText.digitsVal (x :: r) := val_pos (x :: r) 0 (.inr ⟨x, r, rfl, hx49⟩)
      have e1 : (NumText.digitsVal (x :: r) * 10 + (c - 48)) / 10 = NumText.digitsVal (x :: r) := by omega
      have e2 : (NumText.digitsVal (x :: r) * 10 + (c - 48)) % 10 = c - 48 := by omega
      rw [numL_step (by omega), e1, e2, ← ihh]
      have : 48 + (c - 48) = c := by omega
      rw [this]
theorem numL_head {n : Nat} : (numL n).length = 1 ∨ (numL n).head? ≠ some 48 := by
  induction n using
        Nat.strongRecOn with
  | _ n ih =>
    by_cases h : n < 10
    · rw [numL_lt h]; exact .inl rfl
    · refine .inr ?_
      rw [numL_step (by omega)]
      cases e : numL (n / 10) with
      | nil => exact absurd e (numL_ne _)
      | cons c r =>
        rcases ih (n / 10) (by omega) with z | z
        · rw [e] at z
          simp at z; subst z
          by_cases h2 : n / 10 < 10
          · rw [numL_lt h2] at e
            simp at e ⊢; omega
          · rw [numL_step (by omega)] at e
            cases e2 : numL (n / 10 / 10) with
            | nil => exact absurd e2 (numL_ne _)
            | cons c2 r2 => rw [e2] at e; simp at e
        · rw [e] at z; simpa using z
/-- the number that a word is, if it is one -/
def numO (z : Str) : Option Nat := if 1 ≤ z.length ∧ z.length ≤ 9 ∧ z.cps.toList.all figB = true ∧ (z.length = 1 ∨ z.cps.toList.head? ≠ some 48) then some (NumText.digitsVal (tl z)) else none
theorem numO_some {z : Str} {n : Nat} : numO z = some n ↔ z = numW n ∧ z.length ≤ 9 := by
  unfold numO
  constructor
  · intro h
    split at h
    · rename_i c
      obtain ⟨h1, h2, h3, h4⟩ := c
      refine ⟨ext_tl ?_, h2⟩
      rw [tl_numW, ← Option.some.inj h]
      refine num_back _ (tl z) rfl (fun d hd => (fig_iff d).mp (List.all_eq_true.mp h3 d hd)) (fun e => ?_) ?_
      · rw [len_tl, e] at h1; simp at h1
      · rw [len_tl] at h4; exact h4
    · cases h
  · rintro ⟨rfl, h2⟩
    have e : tl (numW n) = numL n := tl_numW n
    have hl : (numW n).length = (numL n).length := by rw [len_tl, e]
    rw [if_pos]
    · rw [e, numL_val]
    · refine ⟨?_, h2, ?_, ?_⟩
      · rw [hl]; exact List.length_pos_iff.mpr (numL_ne n)
      · rw [List.all_eq_true]
        intro d hd
        rw [fig_iff]
        exact numL_digits n d (by rw [← e]; exact hd)
      · rw [hl]; show _ ∨ (tl (numW n)).head? ≠ _; rw [e]; exact numL_head
theorem numO_of {n : Nat} (h : n < 1000) : numO (numW n) = some n := numO_some.mpr ⟨rfl, Nat.le_trans (numW_len (k := 3) (by decide) h) (by decide)⟩
/-! ### lines and words -/
abbrev SPC : Str := " "
abbrev NLN : Str := "\n"
theorem tl_spc : tl SPC = [32] := by decide +kernel
theorem tl_nln : tl NLN = [10] := by decide +kernel
theorem spl_ne (S : List Nat) : ∀ (l : List Nat) (k : Nat) (acc : List Nat), spl S k acc l ≠ []
  | [], k, acc => by rw [spl_nil]; simp
  | c :: r, 0, acc => by
    unfold spl
    split
    · simp
    · exact spl_ne S r 0 _
  | c :: r, k + 1, acc => by
    unfold spl; exact spl_ne S r k acc
theorem pre1 (s c : Nat) (r : List Nat) : pre [s] (c :: r) = decide (c = s) := by
  unfold pre; simp; by_cases h : c = s <;> simp [h]
theorem join_spl1 (s : Nat) : ∀ (l acc : List Nat), joinL [s] (spl [s] 0 acc l) = acc ++ l
  | [], acc => by rw [spl_nil]; simp [joinL]
  | c :: r, acc => by
    by_cases h : c = s
    · subst h
      rw [spl_hit (by rw [pre1]; simp)]
      have ih := join_spl1 c r []
      cases e : spl [c] ([c].length - 1) [] r with
      | nil => exact absurd e (spl_ne _ _ _ _)
      | cons q t =>
        show acc ++ ([c] ++ joinL [c] (q :: t)) = _
        rw [← e]
        show acc ++ ([c] ++ joinL [c] (spl [c] 0 [] r)) = _
        rw [ih]; simp
    · rw [spl_miss (by rw [pre1]; simp [h]), join_spl1 s r (acc ++ [c])]; simp
theorem spl_free1 (s : Nat) : ∀ (l acc : List Nat), s ∉ acc → ∀ p ∈ spl [s] 0 acc l, s ∉ p
  | [], acc, h, p, hp => by rw [spl_nil] at hp; simp at hp; rw [hp]; exact h
  | c :: r, acc, h, p, hp => by
    by_cases e : c = s
    · subst e
      rw [spl_hit (by rw [pre1]; simp)] at hp
      rcases List.mem_cons.mp
            hp with rfl | hp
      · exact h
      · exact spl_free1 c r [] (by simp) p hp
    · rw [spl_miss (by rw [pre1]; simp [e])] at hp
      exact spl_free1 s r (acc ++ [c]) (by simp [h]; exact fun z => e z.symm) p hp
section
variable {x y : Str} {s : Nat}
theorem kind1 (ey : tl y = [s]) (hs : s < 256) : y.cps.all (· < 256) = true := by
  have : y.cps = #[s] := by
    rw [← Array.toList_inj]; exact ey
  rw [this]; simp [hs]
theorem split_tl (ey : tl y = [s]) (hs : s < 256) : (Txt.split x y).map tl = spl [s] 0 [] (tl x) := by
  rw [split_spl x y (by rw [ey]; simp) (kind_ok (kind1 ey hs)), ey]
theorem split_ne (ey : tl y = [s]) (hs : s < 256) : Txt.split x y ≠ [] := fun h => by
  have := split_tl (x := x) ey hs
  rw [h] at this
  exact spl_ne _ _ _ _ this.symm
theorem join_split (ey : tl y = [s]) (hs : s < 256) : Txt.join y (Txt.split x y) = x := by
  rw [join_eq]
  refine ext_tl ?_
  rw [tl_join, split_tl ey hs, ey, join_spl1]; rfl
theorem split_free (ey : tl y = [s]) (hs : s < 256) : ∀ p ∈ Txt.split x y, s ∉ tl p := fun p hp => by
  have : tl p ∈ (Txt.split x y).map tl := List.mem_map.mpr ⟨p, hp, rfl⟩
  rw [split_tl ey hs] at this
  exact spl_free1 s _ [] (by simp) _ this
theorem split_of (ey : tl y = [s]) (hs : s < 256) {parts : List Str} (hne : parts ≠ []) (hp : ∀ p ∈ parts, s ∉ tl p) (h : Txt.join y parts = x) : Txt.split x y = parts := by
  rw [← h]; exact split_join ey (kind1 ey hs) hne hp
end
def words (line : Str) : List Str := Txt.split line SPC
def lines (text : Str) : List Str := Txt.split text NLN
theorem len_sum_split {x y : Str} {s : Nat} (ey : tl y = [s]) (hs : s < 256) : ∀ p ∈ Txt.split x y, p.length ≤ x.length := by
  intro p hp
  have e := join_split (x := x) ey hs
  have key : ∀ (l : List Str), p ∈ l → p.length ≤ (Str.join y l).length := by
    intro l
    induction l with
    | nil => intro h; cases h
    | cons a r ih =>
      intro h
      cases r with
      | nil => simp at h; subst h; exact Nat.le_refl _
      | cons b r =>
        show _ ≤ (a ++ y ++ Str.join y (b :: r)).length
        rw [len_app, len_app]
        rcases List.mem_cons.mp
              h with rfl | h
        · omega
        · have := ih h; omega
  have := key _ hp
  rw [← join_eq, e] at this
  exact this
/-! ### rows of a log -/
structure Rw where
  k : Nat
  page : Str
  over : Option Nat
def needOf (L : LG) (k : Nat) : List (Str × Int) := (needs L)[k - 1]?.getD []
def OvOk (L : LG) (page : Str) (v : Int) : Option Nat → Prop
  | none => True
  | some j => 1 ≤ j ∧ (j : Int) < v ∧ (j : Int) ∈ wr L.rows page
structure Vd (L : LG) (r : Rw) : Prop where
  lo : 1 ≤ r.k
  hi : r.k ≤ L.rows.length + 1
  ex : ∃ v, (r.page, v) ∈ needOf L r.k ∧ OvOk L r.page v r.over
def firstW (L : LG) (k : Nat) : Str := if k = L.rows.length + 1 then "end" else numW k
def lastW : Option Nat → List Str
  | none => ["lacks"]
  | some j => ["over", numW j]
def wordsOf (L : LG) (r : Rw) : List Str := firstW L r.k :: r.page :: lastW r.over
theorem end_num (n : Nat) : ("end" : Str) ≠ numW n := fun h => by
  have e : tl ("end" : Str) = numL n := by rw [h, tl_numW]
  have : 101 ∈ numL n := by rw [← e]; decide +kernel
  exact numL_free (.inr (by decide)) this
theorem firstW_inj {L : LG} {k k' : Nat} (h : firstW L k = firstW L k') : k = k' := by
  unfold firstW at h
  split at h <;> split at h
  · omega
  · exact absurd h (end_num _)
  · exact absurd h.symm (end_num _)
  · exact numW_inj h
theorem lastW_inj {o o' : Option Nat} (h : lastW o = lastW o') : o = o' := by
  cases o <;> cases o' <;> simp only [lastW, List.cons.injEq, List.nil_eq, and_true, reduceCtorEq, and_false] at h
  · rfl
  · rw [numW_inj h.2]
theorem wordsOf_inj {L : LG} {r r' : Rw} (h : wordsOf L r = wordsOf L r') : r = r' := by
  unfold wordsOf at h
  simp only [List.cons.injEq] at h
  obtain ⟨h1, h2, h3⟩ := h
  cases r; cases r'
  simp only at h1 h2 h3
  rw [firstW_inj h1, h2, lastW_inj h3]
open Classical in
/-- the row that the words are, if they are one -/
noncomputable def parse (L : LG) (ws : List Str) : Option Rw := if h : ∃ r, Vd L r ∧ wordsOf L r = ws then some h.choose else none
theorem parse_some {L : LG} {r : Rw} {ws : List Str} (h : Vd L r) (e : wordsOf L r = ws) : parse L ws = some r := by
  unfold parse
  have hx : ∃ r, Vd L r ∧ wordsOf L r = ws := ⟨r, h, e⟩
  rw [dif_pos hx]
  have := hx.choose_spec
  rw [wordsOf_inj (this.2.trans e.symm)]
theorem parse_none {L : LG} {ws : List Str} (h : ∀ r, Vd L r → wordsOf L r ≠ ws) : parse L ws = none := by
  unfold parse
  rw [dif_neg]
  rintro ⟨r, h1, h2⟩
  exact h r h1 h2
theorem of_parse {L : LG} {r : Rw} {ws : List Str} (h : parse L ws = some r) : Vd L r ∧ wordsOf L r = ws := by
  unfold parse at h
  split at h
  · rename_i hx
    cases h; exact hx.choose_spec
  · cases h
theorem of_parse_none {L : LG} {ws : List Str} (h : parse L ws = none) : ∀ r, Vd L r → wordsOf L r ≠ ws := by
  intro r h1 h2
  rw [parse_some h1 h2] at h; cases h
def ovD : Option Nat → PyData
  | none => .none
  | some j => .int (j : Nat)
def rwD (r : Rw) : PyData := .tuple [.int (r.k : Nat), .str r.page, ovD r.over]
def lineOf (L : LG) (r : Rw) : Str := Txt.join SPC (wordsOf L r)
end Lr
set_option Elab.async false
set_option linter.all false
set_option maxRecDepth 100000
set_option maxHeartbeats 4000000
namespace Lr
open PySem PySem.Spec PyProof.Rows L2 TL
open C8 (InsC call_isC)
local macro_rules | `(tactic| walk_at "ne") => `(tactic| (first | assumption | (refine ne_sym ?_; assumption) | (exact ne_of_none (by assumption) (by assumption)) | (exact ne_sym (ne_of_none (by assumption) (by assumption)))))
local macro_rules | `(tactic| walk_at "h") => `(tactic| (first | assumption | exact upd_same | (refine h_new ?_ (by assumption); walk_at "h") | (refine h_ne (by walk_at "ne") ?_; walk_at "h")))
local macro_rules | `(tactic| walk_at "v1") => `(tactic| (with_reducible first
  | refine i_seq ?_ | refine i_asg ?_ | refine i_ret ?_ | refine i_next ?_ | refine i_drop ?_ | refine i_ifS ?_ | refine i_if ?_ | refine i_and ?_ | refine i_or ?_ | refine i_not ?_ | refine i_test ?_ | refine i_tB ?_ | refine i_bl ?_ | refine i_yes ?_
  | refine i_op ?_ | refine i_un ?_ | refine i_chain ?_ | refine i_andV ?_ | refine i_orV ?_ | refine i_notV ?_ | refine i_cb ?_ | refine i_cons ?_ | refine i_nil ?_ | refine i_bm ?_ | refine i_bm0 ?_ | refine i_c ?_ | refine i_name ?_ | refine i_sub ?_
  | refine i_call ?_ | refine i_lst ?_ | refine i_tup ?_ | refine i_par ?_ | refine i_par2 ?_ | refine i_sl ?_ | refine i_np ?_ | refine i_pt ?_ | refine i_int ?_ | refine i_m0 ?_ | refine i_m1 ?_ | refine i_isS ?_
  | refine i_rI0 ?_ | refine i_inSign ?_ | refine i_notInSign ?_ | refine i_int1 ?_ | refine i_tru ?_ | refine i_isN ?_ | refine i_notN ?_ | refine iteT ?_ | refine iteF ?_ | refine i_brk ?_ | refine i_rt ?_ | refine i_nx ?_ | refine i_bk ?_ | refine i_ct ?_ | refine i_for ?_ | refine i_lc ?_ | refine i_dc ?_ | refine i_iL ?_ | refine i_iT ?_ | refine i_iR1 ?_ | refine i_iR2 ?_ | refine i_iS ?_ | refine i_iE ?_ | refine i_iEK ?_ | refine i_iEQ ?_ | refine i_dget ?_ | refine i_fld ?_ | refine i_sfld ?_ | refine i_dput ?_ | refine i_meth ?_ | refine i_rU ?_ | refine i_cont ?_ | refine i_make ?_))
local macro_rules | `(tactic| walk_at "v2") => `(tactic| (first
  | ((with_reducible refine' i_var ?k1 ?_); (case k1 => exact rfl))
  | ((with_reducible refine' i_eq ?k1 ?_); (case k1 => exact rfl))
  | ((with_reducible refine' i_ne ?k1 ?_); (case k1 => exact rfl))
  | ((with_reducible refine' i_ixL ?k1 ?k2 ?_); (case k1 => walk_at "h"); (case k2 => exact rfl))
  | ((with_reducible refine' i_ixT ?k1 ?k2 ?_); (case k1 => walk_at "h"); (case k2 => exact rfl))
  | ((with_reducible refine' i_lenL ?k1 ?_); (case k1 => walk_at "h"))
  | ((with_reducible refine' i_lenT ?k1 ?_); (case k1 => walk_at "h"))
  | (refine i_wipe (show wipe _ _ = wipe _ _ from rfl) ?_)
  | ((with_reducible refine' i_setL ?k1 ?k2 ?_); (case k1 => walk_at "h"); (case k2 => exact rfl))
  | ((with_reducible refine' i_tyl ?k1 ?_); (case k1 => walk_at "h"))))
local macro_rules | `(tactic| walk_at "v") => `(tactic| repeat (first | walk_at "v1" | walk_at "v2"))

variable {P : Program} {w : World} {K :
      PySem.W.Frag} {mg : Str → Option Value} {base : Heap}
abbrev snumber_in : Stmt := top 14
abbrev Nnumber_in : List Str := ["word", "sign"]
abbrev Pnumber_in : List Str := ["word"]
theorem scnumber_in : FnScope Nnumber_in Pnumber_in (defScope snumber_in) := ⟨rfl, rfl, rfl, by decide +kernel, rfl, by decide +kernel, by decide +kernel⟩
abbrev swords_in : Stmt := top 15
abbrev Nwords_in : List Str := ["line", "words"]
abbrev Pwords_in : List Str := ["line"]
theorem scwords_in : FnScope Nwords_in Pwords_in (defScope swords_in) := ⟨rfl, rfl, rfl, by decide +kernel, rfl, by decide +kernel, by decide +kernel⟩
abbrev slines_in : Stmt := top 16
abbrev Nlines_in : List Str := ["text", "pieces"]
abbrev Plines_in : List Str := ["text"]
theorem sclines_in : FnScope Nlines_in Plines_in (defScope slines_in) := ⟨rfl, rfl, rfl, by decide +kernel, rfl, by decide +kernel, by decide +kernel⟩
abbrev sneed_log : Stmt := top 21
abbrev Nneed_log : List Str := ["log"]
abbrev Pneed_log : List Str := ["log"]
theorem scneed_log : FnScope Nneed_log Pneed_log (defScope sneed_log) := ⟨rfl, rfl, rfl, by decide +kernel, rfl, by decide +kernel, by decide +kernel⟩
theorem LogCls.gv {C : Addr} (c : LogCls K mg C) : GV mg "Log" (.ref C) := ⟨_, c.g, rfl⟩
def rIsC (C : Addr) : List V → Hp → VK → Prop := fun xs H Q => ∃ a dx fs, xs = [.ref a, .ref C] ∧ H a = some (.ins C dx fs) ∧ Q (.bl true) H
theorem c_isC {X : Cx} (K : PySem.W.Frag) {C : Addr} (c : InsC K C) (hK : X.K = K := by rfl) : CallR X (.builtin "isinstance") (rIsC C) := by subst hK; exact call_isC c
def numV : Option Nat → V
  | none => .non
  | some n => .int (n : Nat)
def spNumIn : Sp := fun vs H Q _ => ∃ z : Str, vs = [.str z] ∧ z.length ≤ 1000000 ∧ Q (numV (numO z)) H
theorem numO_none {z : Str} (h : ¬ (1 ≤ z.length ∧ z.length ≤ 9 ∧ z.cps.toList.all figB = true ∧ (z.length = 1 ∨ z.cps.toList.head? ≠ some 48))) : numO z = none := by
  unfold numO; rw [if_neg h]
theorem zero1 : ("0" : Str) = ⟨#[48]⟩ := by decide +kernel
theorem ok_numberin (d : Fd K mg "number_in" snumber_in Pnumber_in) (B : Blt mg) : FnOk P w K mg base CX0 1 d.f d.fd Pnumber_in spNumIn := by
  refine d.F.ok scnumber_in (fun vs H Q E h => ?_) (fun cdv A outer s H vs Q E hr h => ?_)
  · obtain ⟨z, rfl, _⟩ := h
    rfl
  · obtain ⟨z, rfl, hz, k⟩ := h
    refine ⟨_, (pss_cons (ps_if (PW.pt (pw_or (pt_not (pt_chain op_le op_le pe_int (pe_callB c_lenS (by rfl) B.len (by decide +kernel) (pa_cons (pv 0) pa_nil)) pe_int)) (pw_or1 (PW.pt (pw_and (pt_cmpR op_eq (pe_ix ix_str (pv 0) pe_int (fun _ _ => rfl)) pe_str (nomark _)) (pw_and1 (pt_cmpR op_gt (pe_callB c_lenS (by rfl) B.len (by decide +kernel) (pa_cons (pv 0) pa_nil)) pe_int (nomark _)))))))) (pss_one (ps_ret pe_non)) pss_nil)
      (pss_cons (ps_for PassesOwn.never rfl (pi_str (pv 0)) (pg_name (i := 1) scnumber_in.nd rfl (by first | exact Or.inl rfl | exact Or.inr rfl))
      (pss_one (ps_if (pt_cmpR o_notInSign (pv 1) (e_glob B.gFIGURES) (by rfl)) (pss_one (ps_ret pe_non)) pss_nil)))
      (pss_one (ps_ret (pe_callTy c_intS (by rfl) B.int (by decide +kernel) (pa_cons (pv 0) pa_nil)))))), ?_⟩
    walk_at "v"
    refine i_lenS (size_le hz) ?_
    walk_at "v"
    have bad : ¬ (1 ≤ z.length ∧ z.length ≤ 9 ∧ z.cps.toList.all figB = true ∧ (z.length = 1 ∨ z.cps.toList.head? ≠ some 48)) → Q .non H := fun h => by
      rw [numO_none h] at k; exact k
    refine ifd (fun h1 => ?_) (fun h1 => ?_)
    · walk_at "v"
      refine ifn (fun h2 => ?_) (fun h2 => ?_)
      · walk_at "v"
        exact bad (fun ⟨_, h, _⟩ => h2 (by omega))
      · walk_at "v"
        obtain ⟨c, r, ec⟩ : ∃ c r, z.cps.toList = c :: r := by
          cases e : z.cps.toList with
          | nil => have : z.length = 0 := by show z.cps.size = 0; rw [← Array.length_toList, e]; rfl
                   omega
          | cons c r => exact ⟨c, r, rfl⟩
        refine i_ixS (c := c) (size_le hz) (by rw [ec]; exact atI_nat (j := 0) rfl) ?_
        walk_at "v"
        have fin : (z.length = 1 ∨ c ≠ 48) → tSeq (tFor (iStr (tVar 0)) (gName 1) (tIfS (tTest (tOp rNotInSign (tVar 1) (tC (.str FIG)))) (tRet (tC .non)) tNext)) (tRet (tCB rIntS (tCons (tVar 0) tNil))) { nx := fun x H' => Q V.non H', rt := Q } [some (.str z), none] H := fun hh => by
          walk_at "v"
          refine w_str ?_
          refine for_by walk_str ⟨fun i σ H' => (∃ v, σ = [some (.str z), v]) ∧ H' = H ∧ ∀ j c, j < i → z.cps[j]? = some c → figB c = true, ?_, fun _ _ _ _ _ => trivial, ?_, ?_⟩
          · exact ⟨⟨none, rfl⟩, rfl, fun j c h => absurd h (Nat.not_lt_zero _)⟩
          · rintro i x σ H1 H2 hi ⟨⟨v, rfl⟩, rfl, ok⟩ ⟨rfl, d, hd, rfl⟩
            walk_at "v"
            refine ifn (fun h4 => ?_) (fun h4 => ?_)
            · walk_at "v"
              refine bad (fun ⟨_, _, ha, _⟩ => ?_)
              have hm : d ∈ z.cps.toList := List.mem_of_getElem? (by simpa using hd)
              have := List.all_eq_true.mp ha d hm
              unfold figB at this
              rw [decide_eq_true_eq] at this
              exact h4 this
            · walk_at "v"
              refine ⟨⟨_, rfl⟩, rfl, fun j e hj he => ?_⟩
              rcases Nat.lt_or_ge
                    j i with h | h
              · exact ok j e h he
              · have ej : j = i := by omega
                subst ej; rw [hd] at he; cases he
                simp [figB, h4]
          · rintro σ H1 ⟨⟨v, rfl⟩, rfl, ok⟩
            have ha : z.cps.toList.all figB = true := by
              rw [List.all_eq_true]
              intro c hc
              obtain ⟨j, hj, e⟩ := List.getElem_of_mem hc
              exact ok j c (by simpa using hj) (by rw [← e]; simp)
            walk_at "v"
            have en : numO z = some (NumText.digitsVal (tl z)) := by
              unfold numO
              rw [if_pos ⟨by omega, by omega, ha, hh.imp id (fun h => by rw [ec]; simpa using h)⟩]
            rw [en] at k
            obtain ⟨e1, e2⟩ := numO_some.mp en
            refine ⟨z, _, rfl, ?_, by omega, k⟩
            rw [e1]
            have := int_num (n := NumText.digitsVal (tl z)) (by rw [← tl_numW, ← e1, ← len_tl]; omega)
            rw [show tl (numW (NumText.digitsVal (tl z))) = tl z by rw [← e1]]
            exact this
        refine ifd (fun h3 => ?_) (fun h3 => ?_)
        · have ec48 : c = 48 := by
            have h3' : (⟨#[c]⟩ : Str) = ("0" : Str) := V.str.inj h3
            rw [zero1] at h3'
            injection h3' with h3'
            simpa using h3'
          walk_at "v"
          refine i_lenS (size_le hz) ?_
          walk_at "v"
          refine ifd (fun h4 => ?_) (fun h4 => ?_)
          · walk_at "v"
            refine bad (fun ⟨_, _, _, hz'⟩ => ?_)
            rw [ec, ec48] at hz'
            simp at hz'; omega
          · exact fin (.inl (by omega))
        · refine iteF ?_
          refine fin (.inr (fun h => h3 ?_))
          rw [h, zero1]
    · walk_at "v"
      exact bad (fun ⟨h, _⟩ => h1 (by omega))
def spWordsIn : Sp := fun vs H Q _ => ∃ z : Str, vs = [.str z] ∧ z.length ≤ 1000000 ∧
  (("" : Str) ∈ words z → ∀ H', Same H H' → Q .non H') ∧ (¬ ("" : Str) ∈ words z → ∀ p H', H' p = some (.lst ((words z).map V.str)) → Same H H' → Q (.ref p) H')
theorem ok_wordsin (d : Fd K mg "words_in" swords_in Pwords_in) (B : Blt mg) : FnOk P w K mg base CX0 1 d.f d.fd Pwords_in spWordsIn := by
  refine d.F.ok scwords_in (fun vs H Q E h => ?_) (fun cdv A outer s H vs Q E hr h => ?_)
  · obtain ⟨z, rfl, _⟩ := h
    rfl
  · obtain ⟨z, rfl, hz, k0, k1⟩ := h
    refine ⟨_, (pss_cons (ps_set (i := 1) scwords_in.nd rfl (by first | exact Or.inl rfl | exact Or.inr rfl) (pe_m1 PySem.F.slot_str_split PySem.F.type_str_split m_split (pv 0) pe_str))
      (pss_cons (ps_if (pt_cmpR (o_in K) pe_str (pv 1) (by rfl)) (pss_one (ps_ret pe_non)) pss_nil)
      (pss_one (ps_ret (pv 1))))), ?_⟩
    walk_at "v"
    refine i_split (by decide +kernel) (Nat.le_trans (Nat.add_le_add_right hz 2) (by decide)) (fun p hp => ?_)
    have s1 : Same H (upd H p (.lst ((words z).map V.str))) := (Same.refl H).new hp
    walk_at "v"
    refine ⟨p, (words z).map V.str, rfl, .inl (SqL.of upd_same), rfl, flat_strs _, ?_⟩
    walk_at "v"
    rw [if_neg Bool.false_ne_true, inV_strs]
    refine ifd (fun h => ?_) (fun h => ?_)
    · walk_at "v"
      exact k0 h _ s1
    · walk_at "v"
      exact k1 h _ _ upd_same s1
theorem cut_last {xs : List V} {v : V} : cutV (xs ++ [v]) none (some (-1)) = xs := by
  unfold cutV
  have e1 : HT.sIx (xs ++ [v]).length 0 none = 0 := rfl
  have e2 : HT.sIx (xs ++ [v]).length (xs ++ [v]).length (some (-1)) = xs.length := by
    show (if ((-1 : Int) < 0) then ((-1 : Int) + ((xs ++ [v]).length : Int)).toNat else min (-1 : Int).toNat (xs ++ [v]).length) = _
    rw [if_pos (by decide)]
    simp; omega
  rw [e1, e2]; simp
def spLinesIn : Sp := fun vs H Q _ => ∃ z : Str, vs = [.str z] ∧ z.length ≤ 1000000 ∧
  ∀ (ls : List Str) (l : Str) t q H', lines z = ls ++ [l] → H' t = some (.tup [.ref q, .bl (decide (l = ("" : Str)))]) → H' q = some (.lst (ls.map V.str)) → Same H H' → Q (.ref t) H'
theorem lines_cat (z : Str) : ∃ ls l, lines z = ls ++ [l] := by
  have h : lines z ≠ [] := split_ne tl_nln (by decide)
  exact ⟨(lines z).dropLast, (lines z).getLast h, (List.dropLast_concat_getLast h).symm⟩
theorem dec_strE {i j : Str} : decide (V.str i = V.str j) = decide (i = j) := by
  by_cases h : i = j
  · subst h; simp
  · simp [h]
theorem ok_linesin (d : Fd K mg "lines_in" slines_in Plines_in) (B : Blt mg) : FnOk P w K mg base CX0 1 d.f d.fd Plines_in spLinesIn := by
  refine d.F.ok sclines_in (fun vs H Q E h => ?_) (fun cdv A outer s H vs Q E hr h => ?_)
  · obtain ⟨z, rfl, _⟩ := h
    rfl
  · obtain ⟨z, rfl, hz, k⟩ := h
    refine ⟨_, (pss_cons (ps_set (i := 1) sclines_in.nd rfl (by first | exact Or.inl rfl | exact Or.inr rfl) (pe_m1 PySem.F.slot_str_split PySem.F.type_str_split m_split (pv 0) pe_str))
      (pss_one (ps_ret (pe_tup (pa_cons (pe_slice (s_list K) (pv 1) po_none (po_some (pe_un un_neg pe_int))) (pa_cons (pe_cmpR op_eq (pe_ix (x_list K) (pv 1) (pe_un un_neg pe_int) (fun _ _ => rfl)) pe_str (nomark _)) pa_nil)))))), ?_⟩
    obtain ⟨ls, l, e⟩ := lines_cat z
    walk_at "v"
    refine i_split (by decide +kernel) (Nat.le_trans (Nat.add_le_add_right hz 2) (by decide)) (fun p hp => ?_)
    have e' : Txt.split z (Str.ofString "\n") = ls ++ [l] := e
    rw [e', List.map_append]
    have s1 : Same H (upd H p (.lst (ls.map V.str ++ [l].map V.str))) := (Same.refl H).new hp
    obtain ⟨H1, e1⟩ : ∃ H1, H1 = upd H p (.lst (ls.map V.str ++ [l].map V.str)) := ⟨_, rfl⟩
    have hp1 : H1 p = some (.lst (ls.map V.str ++ [.str l])) := by rw [e1]; exact upd_same
    rw [← e1] at s1 ⊢
    clear e1
    walk_at "v"
    refine ⟨p, _, rfl, SqL.of hp1, fun q hq => ?_⟩
    rw [cut_last]
    have s2 := s1.new (o := .lst (ls.map V.str)) hq
    walk_at "v"
    refine i_ixL (h_new hp1 hq) (atI_last _ _) ?_
    walk_at "v"
    refine ⟨show 2 ≤ sizeLine by decide, fun t ht => ?_⟩
    walk_at "v"
    refine k ls l t q _ e ?_ (h_new upd_same ht) (s2.new ht)
    rw [← dec_strE]; exact upd_same
def spNeedLog (C : Addr) : Sp := fun vs H Q _ => ∃ p dx fs, vs = [.ref p] ∧ H p = some (.ins C dx fs) ∧ Q .non H
theorem ok_needlog {C : Addr} (cLog : LogCls K mg C) (iLog : InsC K C) (d : Fd K mg "need_log" sneed_log Pneed_log) (B : Blt mg) : FnOk P w K mg base CX0 1 d.f d.fd Pneed_log (spNeedLog C) := by
  refine d.F.ok scneed_log (fun vs H Q E h => ?_) (fun cdv A outer s H vs Q E hr h => ?_)
  · obtain ⟨p, dx, fs, rfl, _⟩ := h
    rfl
  · obtain ⟨p, dx, fs, rfl, hp, k⟩ := h
    refine ⟨_, (pss_one (ps_if (pt_not (pt_val (pe_callB (c_isC K iLog) (by rfl) B.isinstance (by decide +kernel) (pa_cons (pv 0) (pa_cons (e_glob cLog.gv) pa_nil))))) (pss_one ps_never) pss_nil)), ?_⟩
    walk_at "v"
    refine ⟨p, dx, fs, rfl, hp, ?_⟩
    walk_at "v"
    refine iteF ?_
    walk_at "v"
    exact k
end Lr
set_option Elab.async false
set_option linter.all false
set_option maxRecDepth 100000
set_option maxHeartbeats 4000000
/-! Vd: name = {k: v for ..}. -/
namespace L2
open PySem PySem.Spec
      PyProof.Rows
section
variable {X : Cx}
theorem ps_setDc {i : Nat} {y : Str} {py : Pos} {kx vx tg iter : Expr} {ifs : List Expr} {scope : Scope} {own : List (Str × Nat)} {pos spos : Pos} {wi : TI} {g : TG} {tt : TT} {tk tv : TE} (hc : X.calm = true) (hN : X.N.Nodup) (hy : X.N[i]? = some y)
    (hyl : X.env.scope.names.lookup y = some .local) (hsw : swapsWith (.DictComp kx vx [⟨tg, iter, ifs, 0⟩] scope pos) (some (.Name y py)) spos.line X.env = pure true) (hi : PI X tg iter wi) (ok : BlkOk X.N X.env.scope scope own)
    (hg : ∀ (s : Shared) (H : Hp) (C : Addr) (cl : List (Str × Addr)) (fp : List Addr), PG (X.blk s H scope (compEnvC scope cl C X.env) fp) tg g)
    (ht : ∀ (s : Shared) (H : Hp) (C : Addr) (cl : List (Str × Addr)) (fp : List Addr), PTs (X.blk s H scope (compEnvC scope cl C X.env) fp) ifs tt)
    (hk : ∀ (s : Shared) (H : Hp) (C : Addr) (cl : List (Str × Addr)) (fp :
          List Addr), PE (X.blk s H scope (compEnvC scope cl C X.env) fp) kx tk)
    (he : ∀ (s : Shared) (H : Hp) (C : Addr) (cl : List (Str × Addr)) (fp : List Addr), PE (X.blk s H scope (compEnvC scope cl C X.env) fp) vx tv)
    (hs : ∀ x, foldedSetIterable iter X.env x = pure x := by intro _; rfl) :
    PS X (.Assign [.Name y py] (.DictComp kx vx [⟨tg, iter, ifs, 0⟩] scope pos) spos) (tAsg (tDc wi g tt tk tv (own.map (·.2))) (gName i)) := by
  refine ⟨fun pins
        s σ H D I h => ?_⟩
  rw [exec_Assign_Name_used
        _ _ _ _ hsw]
  refine wpAny_bind
        (wpAny_standAt (wpAny_bind ?_))
  show wpAny _ X.A (do let _ ← comprehension (.DictComp kx vx [⟨tg, iter, ifs, 0⟩] scope pos) scope X.env (firstIterPos [⟨tg, iter, ifs, 0⟩] pos) newDict false (eval iter X.env) (some (assign (.Name y py) X.env))) _ _ s
  have h' : tDc wi g tt tk tv (own.map (·.2)) σ H (fun x H1 => gName i x σ H1 D.nx) := h
  refine wpAny_bind (thn (dc_core (Qf := fun _ s' => SP X pins D .next s') hc hN I hi ok hg ht hk he hs h' fun L C s' m H' I' q hn f => ?_) fun _ s' hq => wpAny_pure (wpAny_pure hq))
  show wpAny _ _ (assign (.Name
        y py) X.env (.ref L)) _ _ _
  refine wpAny_assign_Name (store_ok2 (v := V.ref L) I' hN hy
        (.inl hyl) rfl (fun s2 I2 ⟨a, sb, ha⟩ => ?_) (.inr hyl))
  obtain ⟨f0, f1, f2,
        f3, f4, f5⟩ := f
  have haC : C ≠ a := by
    rcases ha with z | z
    · rw [z]; exact f1
    · exact fun e =>
          f4 y a z e.symm
  refine ⟨m, hn.sameBut sb
        haC, fun h3 sb3 => ?_⟩
  exact ⟨_, H', I2.turned (t' := s2.toks) (fun b o
        hb e => (sb3.2 b hb).trans e) f0 f1 f3 f4 f5, q⟩
theorem sw_trueD {kx vx : Expr} {gs : List Comprehension} {scope : Scope} {pos py : Pos} {y : Str} {l : Nat} {env : Env} (hk : env.scope.kind = .function) (hy : env.scope.names.lookup y = some .local) (hl : (py.line == pos.line) = true)
    (ha : (scope.names.any fun (n, k) => n == y && (k == .local || k == .cell)) = false) : swapsWith (.DictComp kx vx gs scope pos) (some (.Name y py)) l env = pure true := by
  have ky : env.kindOf
        y = some .local := hy
  have hb : env.blockKind = .function
        := by unfold Env.blockKind; rw [hk]; rfl
  unfold swapsWith
  simp only [hb, ky,
        ha, Expr.pos, hl]
  rfl
end
end L2
set_option Elab.async false
set_option linter.all false
set_option maxRecDepth 100000
set_option maxHeartbeats 4000000
namespace Lr
open PySem PySem.Spec PyProof.Rows L2 TL
open C8 (InsC call_isC)
local macro_rules | `(tactic| walk_at "ne") => `(tactic| (first | assumption | (refine ne_sym ?_; assumption) | (exact ne_of_none (by assumption) (by assumption)) | (exact ne_sym (ne_of_none (by assumption) (by assumption)))))
local macro_rules | `(tactic| walk_at "h") => `(tactic| (first | assumption | exact upd_same | (refine h_new ?_ (by assumption); walk_at "h") | (refine h_ne (by walk_at "ne") ?_; walk_at "h")))
local macro_rules | `(tactic| walk_at "v1") => `(tactic| (with_reducible first
  | refine i_seq ?_ | refine i_asg ?_ | refine i_ret ?_ | refine i_next ?_ | refine i_drop ?_ | refine i_ifS ?_ | refine i_if ?_ | refine i_and ?_ | refine i_or ?_ | refine i_not ?_ | refine i_test ?_ | refine i_tB ?_ | refine i_bl ?_ | refine i_yes ?_
  | refine i_op ?_ | refine i_un ?_ | refine i_chain ?_ | refine i_andV ?_ | refine i_orV ?_ | refine i_notV ?_ | refine i_cb ?_ | refine i_cons ?_ | refine i_nil ?_ | refine i_bm ?_ | refine i_bm0 ?_ | refine i_c ?_ | refine i_name ?_ | refine i_sub ?_
  | refine i_call ?_ | refine i_lst ?_ | refine i_tup ?_ | refine i_par ?_ | refine i_par2 ?_ | refine i_sl ?_ | refine i_np ?_ | refine i_pt ?_ | refine i_int ?_ | refine i_m0 ?_ | refine i_m1 ?_ | refine i_isS ?_
  | refine i_rI0 ?_ | refine i_inSign ?_ | refine i_notInSign ?_ | refine i_int1 ?_ | refine i_tru ?_ | refine i_isN ?_ | refine i_notN ?_ | refine iteT ?_ | refine iteF ?_ | refine i_brk ?_ | refine i_rt ?_ | refine i_nx ?_ | refine i_bk ?_ | refine i_ct ?_ | refine i_for ?_ | refine i_lc ?_ | refine i_dc ?_ | refine i_iL ?_ | refine i_iT ?_ | refine i_iR1 ?_ | refine i_iR2 ?_ | refine i_iS ?_ | refine i_iE ?_ | refine i_iEK ?_ | refine i_iEQ ?_ | refine i_dget ?_ | refine i_fld ?_ | refine i_sfld ?_ | refine i_dput ?_ | refine i_meth ?_ | refine i_rU ?_ | refine i_cont ?_ | refine i_make ?_))
local macro_rules | `(tactic| walk_at "v2") => `(tactic| (first
  | ((with_reducible refine' i_var ?k1 ?_); (case k1 => exact rfl))
  | ((with_reducible refine' i_eq ?k1 ?_); (case k1 => exact rfl))
  | ((with_reducible refine' i_ne ?k1 ?_); (case k1 => exact rfl))
  | ((with_reducible refine' i_ixL ?k1 ?k2 ?_); (case k1 => walk_at "h"); (case k2 => exact rfl))
  | ((with_reducible refine' i_ixT ?k1 ?k2 ?_); (case k1 => walk_at "h"); (case k2 => exact rfl))
  | ((with_reducible refine' i_lenL ?k1 ?_); (case k1 => walk_at "h"))
  | ((with_reducible refine' i_lenT ?k1 ?_); (case k1 => walk_at "h"))
  | (refine i_wipe (show wipe _ _ = wipe _ _ from rfl) ?_)
  | ((with_reducible refine' i_setL ?k1 ?k2 ?_); (case k1 => walk_at "h"); (case k2 => exact rfl))
  | ((with_reducible refine' i_tyl ?k1 ?_); (case k1 => walk_at "h"))))
local macro_rules | `(tactic| walk_at "v") => `(tactic| repeat (first | walk_at "v1" | walk_at "v2"))

variable {P : Program} {w : World} {K :
      PySem.W.Frag} {mg : Str → Option Value} {base : Heap}
abbrev srow_of : Stmt := top 23
abbrev Nrow_of : List Str := ["log", "thing", "reader", "page", "over", "needs", "name", "version"]
abbrev Prow_of : List Str := ["log", "thing"]
theorem scrow_of : FnScope Nrow_of Prow_of (defScope srow_of) := ⟨rfl, rfl, rfl, by decide +kernel, rfl, by decide +kernel, by decide +kernel⟩
/-- a list or a tuple of that length is taken apart -/
def gRow (K : PySem.W.Frag) (n : Nat) (t : TGs) : TG := fun v σ H Q => ∃ a xs, v = .ref a ∧ (SqL K H a xs ∨ SqT K H a xs) ∧ xs.length = n ∧ t xs σ H Q
theorem g_row {X : Cx} {pos : Pos} (K : PySem.W.Frag) {es : List Expr} {k : Nat} {t : TGs} {n : Nat} (hc : X.calm = true) (h : PGs X es t)
    (hn : (assignEach es X.env).length = n := by rfl) (hst : (assignEach es X.env).findIdx? (·.1) = none := by rfl) (hK : X.K = K := by rfl) : PG X (.Tuple es k pos) (gRow K n t) := by
  subst hK
  refine ⟨fun pins s σ H v u Q I r ⟨a, xs, e, hs, hl, hw⟩ => ?_⟩
  rcases hs with hs | hs
  · exact (pg_lst hc h hn hst).run pins s σ H v u Q I r ⟨a, xs, e, hs, hl, hw⟩
  · exact (pg_tup hc h hn hst).run pins s σ H v u Q I r ⟨a, xs, e, hs, hl, hw⟩
theorem i_dnin {ty td : TE} {σ : L2.St} {H : Hp} {Q : VK} (h : ty σ H fun y H1 => td σ H1 fun x H2 => ∃ a o, x = .ref a ∧ DGet H2 a y o ∧ Q (.bl (!o.isSome)) H2) : tDNotIn ty td σ H Q := h
structure RowIs (L : LG) (d : PyData) (r : Rw) : Prop where
  row : (isK "list" d || isK "tuple" d) = true
  kid : kids d = [.int (r.k : Nat), .str r.page, ovD r.over]
  vd : Vd L r
abbrev FdBetween (K : PySem.W.Frag) (mg : Str → Option Value) := Fd K mg "is_between" sis_between Pis_between
theorem need_form {L : LG} (ok : L.Ok) {k : Nat} (h1 : 1 ≤ k) (h2 : k ≤ L.rows.length + 1) : ∃ t ns, (needs L)[k - 1]? = some (standing t ns) ∧ ns.Nodup ∧ (∀ x ∈ ns, x ∈ L.pages) ∧ ns.length ≤ 12 := by
  have most := ok.most
  by_cases e : k = L.rows.length + 1
  · subst e
    exact ⟨L.rows, L.pages, by simpa using needs_end L, ok.nd, fun x h => h, most⟩
  · have hi : k - 1 < L.rows.length := by omega
    have hri : L.rows[k - 1]? = some L.rows[k - 1] := by simp [hi]
    have sub := ok.reads _ (List.mem_of_getElem? hri)
    exact ⟨_, _, needs_at hri, ok.nd.sublist sub, fun x h => sub.subset h, Nat.le_trans sub.length_le most⟩
theorem inV_ints {j : Int} : ∀ {l : List Int}, inV (.int j) (l.map V.int) = decide (j ∈ l)
  | [] => rfl
  | y :: r => by
    have ih := inV_ints (j := j) (l := r)
    simp only [inV, List.map_cons, List.any_cons] at ih ⊢
    rw [ih]
    by_cases h : y = j
    · subst h; simp [eqV]
    · have : ¬ j = y := fun z => h z.symm
      simp [eqV, h, this]
theorem flat_ints : ∀ (l : List Int), (l.map V.int).all flatV = true
  | [] => rfl
  | _ :: r => by simpa [flatV] using flat_ints r
def spRowOf (C : Addr) : Sp := fun vs H Q _ => ∃ (S : List Addr) (L : LG) (p : Addr) (d : PyData) (v : V), vs = [.ref p, v] ∧ LogAt [] C H p L ∧ L.Ok ∧ Dt S H d v ∧
  (∀ r, RowIs L d r → ∀ t H', New H H' (rwD r) (.ref t) → Same H H' → Q (.ref t) H') ∧ ((∀ r, ¬ RowIs L d r) → ∀ H', Same H H' → Q .non H')
theorem between_iff {d : PyData} {lo hi : Int} (h : betweenD d lo hi = true) : ∃ i, d = .int i ∧ lo ≤ i ∧ i ≤ hi := by
  cases d <;> simp [betweenD] at h
  exact ⟨_, rfl, h.1, h.2⟩
theorem not_non {S : List Addr} {H : Hp} {d : PyData} {v : V} (h : Dt S H d v) (hd : d ≠ .none) : decide (v = V.non) = false := by
  rw [decide_eq_false_iff_not]
  intro e
  subst e
  cases d with
  | none => exact hd rfl
  | dict _ => unfold Dt at h; exact h
  | list ds => unfold Dt at h; obtain ⟨a, xs, e, _⟩ := h; cases e
  | tuple ds => unfold Dt at h; obtain ⟨a, xs, e, _⟩ := h; cases e
  | _ => unfold Dt at h; cases h
theorem ok_rowof {C : Addr} (cLog : LogCls K mg C) (d : Fd K mg "row_of" srow_of Prow_of) (dis_between : FdBetween K mg) (B : Blt mg) : FnOk P w K mg base CX0 2 d.f d.fd Prow_of (spRowOf C) := by
  have Gis_between : FnOk P w K mg base CX0 1 dis_between.f dis_between.fd Pis_between spBetween := ok_between dis_between B
  refine d.F.ok scrow_of (fun vs H Q E h => ?_) (fun cdv A outer s H vs Q E hr h => ?_)
  · obtain ⟨S, L, p, d, v, rfl, _⟩ := h
    rfl
  · obtain ⟨S, L, p, d, v, rfl, la, ok, hd, k1, k0⟩ := h
    refine ⟨_, (pss_cons (ps_if (PW.pt (pw_or (pt_not (pt_val (pe_callB (c_isiT K) (by rfl) B.isinstance (by decide +kernel) (pa_cons (pv 1) (pa_cons (pe_tup (pa_cons (e_ty "list" B.list (by decide +kernel)) (pa_cons (e_ty "tuple" B.tuple (by decide +kernel)) pa_nil))) pa_nil))))) (pw_or1 (pt_cmpR op_ne (pe_callB (c_len K) (by rfl) B.len (by decide +kernel) (pa_cons (pv 1) pa_nil)) pe_int (nomark _))))) (pss_one (ps_ret pe_non)) pss_nil)
      (pss_cons (ps_asg (pv 1) (g_row K (n := 3) rfl (pgs_cons (pg_name (i := 2) scrow_of.nd rfl (by first | exact Or.inl rfl | exact Or.inr rfl)) (pgs_cons (pg_name (i := 3) scrow_of.nd rfl (by first | exact Or.inl rfl | exact Or.inr rfl)) (pgs_cons (pg_name (i := 4) scrow_of.nd rfl (by first | exact Or.inl rfl | exact Or.inr rfl)) pgs_nil)))))
      (pss_cons (ps_if (PW.pt (pw_or (pt_not (pt_val (pe_call Gis_between (hr.mono (by decide)) (by rfl) dis_between.g dis_between.F.kp dis_between.b .nil pass0 (pa_cons (pv 2) (pa_cons pe_int (pa_cons (pe_op op_add (pe_callB (c_len K) (by rfl) B.len (by decide +kernel) (pa_cons (e_fld K (pv 0)) pa_nil)) pe_int) pa_nil)))))) (pw_or1 (pt_not (pt_val (pe_callB (c_isi K) (by rfl) B.isinstance (by decide +kernel) (pa_cons (pv 3) (pa_cons (e_ty "str" B.str (by decide +kernel)) pa_nil)))))))) (pss_one (ps_ret pe_non)) pss_nil)
      (pss_cons (ps_setDc (i := 5) (own := [("name", 6), ("version", 7)]) (g := _) rfl scrow_of.nd rfl rfl (sw_trueD rfl rfl rfl (by decide +kernel)) (w_tup K (pe_ix (x_list K) (e_fld K (pv 0)) (pe_op op_sub (pv 2) pe_int) (fun _ _ => rfl))) (blkOk_by (own := [("name", 6), ("version", 7)]) (N := Nrow_of) (sc := defScope srow_of) (by decide +kernel)) (fun _ _ _ _ _ => by exact (g_tup K (n := 2) rfl (pgs_cons (pg_name (i := 6) scrow_of.nd rfl (by first | exact Or.inl rfl | exact Or.inr rfl)) (pgs_cons (pg_name (i := 7) scrow_of.nd rfl (by first | exact Or.inl rfl | exact Or.inr rfl)) pgs_nil)))) (fun _ _ _ _ _ => pts_nil) (fun _ _ _ _ _ => by exact (pv 6)) (fun _ _ _ _ _ => by exact (pv 7)))
      (pss_cons (ps_if (pt_cmp (pc_dnotin (hu_of hr) (pv 3) (pv 5)) (by rfl)) (pss_one (ps_ret pe_non)) pss_nil)
      (pss_cons (ps_if (pt_cmpR o_notN (pv 4) pe_non (nomark _)) (pss_one (ps_if (PW.pt (pw_or (pt_not (pt_val (pe_call Gis_between (hr.mono (by decide)) (by rfl) dis_between.g dis_between.F.kp dis_between.b .nil pass0 (pa_cons (pv 4) (pa_cons pe_int (pa_cons (pe_op op_sub (pe_dget (hu_of hr) (pv 5) (pv 3) (fun _ _ => rfl)) pe_int) pa_nil)))))) (pw_or1 (pt_cmpR (o_notIn K) (pv 4) (pe_dget (hu_of hr) (e_fld K (pv 0)) (pv 3) (fun _ _ => rfl)) (by rfl))))) (pss_one (ps_ret pe_non)) pss_nil)) pss_nil)
      (pss_one (ps_ret (pe_tup (pa_cons (pv 2) (pa_cons (pv 3) (pa_cons (pv 4) pa_nil)))))))))))), ?_⟩
    obtain ⟨_, dx, tn, lr, dw, ln, kvs, q, hp, _, htn, drows, _, hdw, ⟨ek, hq⟩, _, dneeds⟩ := la
    have few := ok.few
    walk_at "v"
    refine ⟨show 2 ≤ sizeLine by decide, fun tp htp => ?_⟩
    have s1 : Same H (upd H tp (.tup [.ty "list", .ty "tuple"])) := (Same.refl H).new htp
    walk_at "v"
    refine i_isLT (hd.same s1) upd_same ?_
    obtain ⟨H1, e1⟩ : ∃ H1, H1 = upd H tp (.tup [.ty "list", .ty "tuple"]) := ⟨_, rfl⟩
    rw [← e1] at s1 ⊢
    clear e1
    walk_at "v"
    cases hs : (isK "list" d || isK "tuple" d) with
    | false =>
      refine iteT ?_
      walk_at "v"
      refine k0 (fun r z => ?_) _ s1
      have := z.row
      rw [hs] at this; cases this
    | true =>
      refine iteF ?_
      obtain ⟨a, o, xs, ho, rfl, ha, na, dk⟩ := (hd.same s1).row hs
      have lx := dk.length
      walk_at "v"
      refine i_lenO ho ha ?_
      walk_at "v"
      refine ifn (fun hn => ?_) (fun hn => ?_)
      · walk_at "v"
        refine k0 (fun r z => hn ?_) _ s1
        rw [lx, z.kid]; rfl
      · have l3 : (kids d).length = 3 := by
          have := V.int.inj hn
          omega
        obtain ⟨d0, d1, d2, ekd⟩ : ∃ d0 d1 d2, kids d = [d0, d1, d2] := by
          match kids d, l3 with
          | [x, y, z], _ =>
                exact ⟨x, y, z, rfl⟩
        rw [ekd] at dk
        obtain ⟨x0, r0, rfl, z0, dk1⟩ := DtAll.cons_iff.mp dk
        obtain ⟨x1, r1, rfl, z1, dk2⟩ := DtAll.cons_iff.mp dk1
        obtain ⟨x2, r2, rfl, z2, dk3⟩ := DtAll.cons_iff.mp dk2
        obtain rfl := DtAll.nil_iff.mp dk3
        walk_at "v"
        refine ⟨a, [x0, x1, x2], rfl, ho.imp (fun z => SqL.of (by rw [ha, z])) (fun z => SqT.of (by rw [ha, z])), rfl, ?_⟩
        refine ⟨x0, [x1, x2], rfl, ?_⟩
        refine ⟨x1, [x2], rfl, ?_⟩
        refine ⟨x2, [], rfl, ?_⟩
        refine ⟨rfl, ?_⟩
        have hp1 := s1 _ _ hp
        obtain ⟨lrx, hlr, dlr⟩ := (by unfold rowsD Dt at drows; obtain ⟨a, xs, e, n, h1, h2⟩ := drows; cases e; exact ⟨xs, h1, h2⟩ : ∃ xs, H lr = some (.lst xs) ∧ DtAll [] H (L.rows.map rowD) xs)
        obtain ⟨lnx, hln, dln⟩ := (by unfold needsD Dt at dneeds; obtain ⟨a, xs, e, n, h1, h2⟩ := dneeds; cases e; exact ⟨xs, h1, h2⟩ : ∃ xs, H ln = some (.lst xs) ∧ DtAll [] H ((needs L).map needD) xs)
        have llr : lrx.length = L.rows.length := by rw [dlr.length]; simp
        have hlr1 := s1 _ _ hlr
        have hln1 := s1 _ _ hln
        walk_at "v"
        refine d_fld hp1 cLog.cl cLog.nR (logF_rows _ _ _ _) ?_
        walk_at "v"
        refine ⟨S, d0, x0, 1, _, rfl, z0, ?_⟩
        rw [llr]
        walk_at "v"
        cases hb : betweenD d0 1 ((L.rows.length : Int) + 1) with
        | false =>
          refine iteT ?_
          walk_at "v"
          refine k0 (fun r z => ?_) _ s1
          have e := z.kid
          rw [ekd] at e
          obtain rfl : d0 = .int (r.k : Nat) := by injection e
          have h1 := z.vd.lo
          have h2 := z.vd.hi
          simp [betweenD] at hb
          omega
        | true =>
          refine iteF ?_
          obtain ⟨i, rfl, hi1, hi2⟩ := between_iff hb
          obtain ⟨kk, rfl⟩ : ∃ kk : Nat, i = kk := ⟨i.toNat, by omega⟩
          have ex0 : x0 = .int (kk : Nat) := by unfold Dt at z0; exact z0
          subst ex0
          walk_at "v"
          refine i_isi z1 (by simp) ?_
          walk_at "v"
          by_cases hst : isK "str" d1 = true
          · obtain ⟨page, rfl⟩ : ∃ z, d1 = .str z := by cases d1 <;> simp [isK, ptype] at hst ⊢
            have ex1 : x1 = .str page := by unfold Dt at z1; exact z1
            subst ex1
            rw [hst]
            refine iteF ?_
            obtain ⟨t, ns, en, nd, nsp, nl⟩ := need_form ok (show 1 ≤ kk by omega) (show kk ≤ L.rows.length + 1 by omega)
            have eno : needOf L kk = standing t ns := by unfold needOf; rw [en]; rfl
            obtain ⟨y, hy, dy⟩ := dln.get (i := kk - 1) (d := needD (standing t ns)) (by rw [List.getElem?_map, en]; rfl)
            obtain ⟨ya, yx, rfl, _, hya, dya⟩ := (by unfold needD Dt at dy; exact dy : ∃ a xs, y = .ref a ∧ a ∉ [] ∧ H a = some (.tup xs) ∧ DtAll [] H ((standing t ns).map fun z => .tuple [.str z.1, .int z.2]) xs)
            have lyx : yx.length = ns.length := by rw [dya.length]; simp [standing]
            have hya1 := s1 _ _ hya
            walk_at "v"
            refine d_fld hp1 cLog.cl cLog.nE (logF_needs _ _ _ _) ?_
            walk_at "v"
            refine i_ixL hln1 (by rw [show (kk : Int) - 1 = ((kk - 1 : Nat) : Int) by omega]; exact atI_nat hy) ?_
            walk_at "v"
            refine w_tpl hya1 ?_
            refine dc_by (walk_tup (xs := yx)) fun D hD => ⟨fun i H' => ∃ kv, H' D = some (.dK kv) ∧ kv.length ≤ i ∧ (∀ x, valV kv (.inr x) = if x ∈ ns.take i then some (.int (ver t x)) else none) ∧ Same H1 H', ?_, fun i H' _ ⟨_, _, _, _, s⟩ => SqT.of (s _ _ hya1), ?_, ?_⟩
            · exact ⟨[], upd_same, Nat.le_refl _, fun x => by simp [valV_nil], (Same.refl _).new hD⟩
            · rintro i x H2 H3 hi ⟨kv, hD2, lk, hv, s2⟩ ⟨rfl, hx⟩
              obtain ⟨di, gi, zi⟩ := dya.get' hx
              have hin : i < ns.length := by omega
              have hni : ns[i]? = some ns[i] := by simp [hin]
              have edi : di = .tuple [.str ns[i], .int (ver t ns[i])] := by
                unfold standing at gi
                rw [List.map_map, List.getElem?_map, hni] at gi
                exact (Option.some.inj gi).symm
              subst edi
              obtain ⟨xa, xx, rfl, _, hxa, dxa⟩ := (by unfold Dt at zi; exact zi : ∃ a xs, x = .ref a ∧ a ∉ [] ∧ H a = some (.tup xs) ∧ DtAll [] H [.str ns[i], .int (ver t ns[i])] xs)
              obtain ⟨u1, v1, rfl, q1, dxb⟩ := DtAll.cons_iff.mp dxa
              obtain ⟨u2, v2, rfl, q2, dxc⟩ := DtAll.cons_iff.mp dxb
              obtain rfl := DtAll.nil_iff.mp dxc
              unfold Dt at q1 q2
              subst q1 q2
              refine g_two (s2 _ _ (s1 _ _ hxa)) ?_
              walk_at "v"
              refine ⟨kv, .inr ns[i], rfl, hD2, small1000 (by omega), putK kv (.inr ns[i]) (.int (ver t ns[i])), upd_same, Nat.le_trans (length_putK _ _ _) (by omega), fun x => ?_, s2.put hD⟩
              have et : x ∈ ns.take (i + 1) ↔ x ∈ ns.take i ∨ x = ns[i] := by
                rw [List.take_succ, hni]
                simp only [Option.toList, List.mem_append, List.mem_singleton]
              rw [valV_put]
              simp only [et]
              by_cases e : x = ns[i]
              · subst e
                rw [if_pos rfl, if_pos (.inr rfl)]
              · have ne : ¬ ((Sum.inr x : Key) = Sum.inr ns[i]) := fun h => e (Sum.inr.inj h)
                rw [if_neg ne, hv x]
                simp only [e, or_false]
            · rintro H2 ⟨kv, hD2, lk, hv, s2⟩
              rw [lyx, List.take_length] at hv
              have s12 := s1.trans s2
              have hp2 := s12 _ _ hp
              have inNeed : ∀ {x v}, (x, v) ∈ needOf L kk ↔ x ∈ ns ∧ v = ver t x := fun {x v} => by
                rw [eno]; unfold standing
                simp only [List.mem_map, Prod.mk.injEq]
                constructor
                · rintro ⟨y, hy, rfl, rfl⟩; exact ⟨hy, rfl⟩
                · rintro ⟨hy, rfl⟩; exact ⟨x, hy, rfl, rfl⟩
              have kidE : ∀ {r}, RowIs L d r → r.k = kk ∧ r.page = page ∧ d2 = ovD r.over := fun {r} z => by
                have e := z.kid
                rw [ekd] at e
                injection e with e1 e2
                injection e2 with e2 e3
                injection e3 with e3 _
                injection e1 with e1
                injection e2 with e2
                exact ⟨by omega, e2.symm, e3⟩
              walk_at "v"
              refine i_dnin ?_
              walk_at "v"
              refine ⟨D, _, rfl, DGet.k (k := .inr page) hD2, ?_⟩
              rw [hv page]
              walk_at "v"
              by_cases hpn : page ∈ ns
              · rw [if_pos hpn]
                refine iteF ?_
                have hpp : page ∈ L.pages := nsp page hpn
                have z2' := z2.same s2
                have s12' : ∀ {z o}, H1 z = some o → H2 z = some o := fun h => s2 _ _ h
                have fin : ∀ (o : Option Nat) (H3 : Hp), Same H2 H3 → d2 = ovD o → OvOk L page (ver t page) o → H3 = H2 →
                    (tRet (tTup (tCons (tVar 2) (tCons (tVar 3) (tCons (tVar 4) tNil))))) { nx := fun x H' => Q V.non H', rt := Q } [some (.ref p), some (.ref a), some (.int (kk : Nat)), some (.str page), some x2, some (.ref D), none, none] H3 := fun o H3 s3 eo oo eH => by
                  subst eH
                  walk_at "v"
                  refine ⟨show 3 ≤ sizeLine by decide, fun t' ht' => ?_⟩
                  walk_at "v"
                  have rok : RowIs L d ⟨kk, page, o⟩ := ⟨hs, by rw [ekd, eo], show 1 ≤ kk by omega, show kk ≤ L.rows.length + 1 by omega, ver t page, inNeed.mpr ⟨hpn, rfl⟩, oo⟩
                  refine k1 _ rok _ _ ?_ (s12.new ht')
                  subst eo
                  have nw : NewM [] H3 (upd H3 t' (.tup [.int (kk : Nat), .str page, x2])) (rwD ⟨kk, page, o⟩) (.ref t') := NewM.tup (Keep.refl _ _) ht' fun S' _ _ => DtAll.cons dt_i (DtAll.cons dt_s (DtAll.cons (z2'.flat (by cases o <;> rfl)) DtAll.nil))
                  exact fun S' t => nw S' (t.same s12) (fun _ h => nomatch h)
                walk_at "v"
                by_cases hd2 : d2 = .none
                · subst hd2
                  have ex2 : x2 = .non := by unfold Dt at z2; exact z2
                  subst ex2
                  refine iteF ?_
                  exact fin none H2 (Same.refl _) rfl trivial rfl
                · rw [not_non z2 hd2]
                  refine iteT ?_
                  walk_at "v"
                  refine d_getS hD2 (by rw [hv page, if_pos hpn]) ?_
                  walk_at "v"
                  refine ⟨S, d2, x2, 1, _, rfl, z2', ?_⟩
                  walk_at "v"
                  cases hb2 : betweenD d2 1 (ver t page - 1) with
                  | false =>
                    refine iteT ?_
                    walk_at "v"
                    refine k0 (fun r z => ?_) _ s12
                    obtain ⟨ek, ep, eo⟩ := kidE z
                    obtain ⟨v, hv', ho'⟩ := z.vd.ex
                    rw [ek, ep] at hv'
                    obtain ⟨_, rfl⟩ := inNeed.mp hv'
                    rw [ep] at ho'
                    cases er : r.over with
                    | none => rw [er] at eo; exact hd2 eo
                    | some j =>
                      rw [er] at eo ho'
                      obtain ⟨o1, o2, o3⟩ := ho'
                      subst eo
                      simp [betweenD, ovD] at hb2
                      omega
                  | true =>
                    refine iteF ?_
                    obtain ⟨j, rfl, hj1, hj2⟩ := between_iff hb2
                    obtain ⟨jj, rfl⟩ : ∃ jj : Nat, j = jj := ⟨j.toNat, by omega⟩
                    have ex2 : x2 = .int (jj : Nat) := by unfold Dt at z2; exact z2
                    subst ex2
                    walk_at "v"
                    refine d_fld hp2 cLog.cl cLog.nW (logF_writers _ _ _ _) ?_
                    walk_at "v"
                    refine d_getS (s12 _ _ hdw) (by rw [ek]; exact val_map hpp) ?_
                    refine ⟨q page, _, rfl, .inl (SqL.of (s12 _ _ (hq page hpp))), rfl, flat_ints _, ?_⟩
                    walk_at "v"
                    rw [if_pos rfl, inV_ints]
                    refine ifn (fun hw => ?_) (fun hw => ?_)
                    · walk_at "v"
                      refine k0 (fun r z => ?_) _ s12
                      obtain ⟨ek', ep, eo⟩ := kidE z
                      obtain ⟨v, hv', ho'⟩ := z.vd.ex
                      rw [ep] at ho'
                      cases er : r.over with
                      | none => rw [er] at eo; exact hd2 eo
                      | some j =>
                        rw [er] at eo ho'
                        obtain ⟨o1, o2, o3⟩ := ho'
                        injection eo with eo
                        rw [eo] at hw
                        exact hw o3
                    · exact fin (some jj) H2 (Same.refl _) rfl ⟨by omega, by omega, hw⟩ rfl
              · rw [if_neg hpn]
                refine iteT ?_
                walk_at "v"
                refine k0 (fun r z => ?_) _ s12
                obtain ⟨ek, ep, eo⟩ := kidE z
                obtain ⟨v, hv', _⟩ := z.vd.ex
                rw [ek, ep] at hv'
                exact hpn (inNeed.mp hv').1
          · have hst' : isK "str" d1 = false := by simpa using hst
            rw [hst']
            refine iteT ?_
            walk_at "v"
            refine k0 (fun r z => ?_) _ s1
            have e := z.kid
            rw [ekd] at e
            injection e with _ e2
            injection e2 with e2 _
            subst e2
            simp [isK, ptype] at hst
end Lr
set_option Elab.async false
set_option linter.all false
set_option maxRecDepth 100000
set_option maxHeartbeats 4000000
namespace Lr
open PySem PySem.Spec PyProof.Rows L2 TL
open C8 (InsC call_isC)
local macro_rules | `(tactic| walk_at "ne") => `(tactic| (first | assumption | (refine ne_sym ?_; assumption) | (exact ne_of_none (by assumption) (by assumption)) | (exact ne_sym (ne_of_none (by assumption) (by assumption)))))
local macro_rules | `(tactic| walk_at "h") => `(tactic| (first | assumption | exact upd_same | (refine h_new ?_ (by assumption); walk_at "h") | (refine h_ne (by walk_at "ne") ?_; walk_at "h")))
local macro_rules | `(tactic| walk_at "v1") => `(tactic| (with_reducible first
  | refine i_seq ?_ | refine i_asg ?_ | refine i_ret ?_ | refine i_next ?_ | refine i_drop ?_ | refine i_ifS ?_ | refine i_if ?_ | refine i_and ?_ | refine i_or ?_ | refine i_not ?_ | refine i_test ?_ | refine i_tB ?_ | refine i_bl ?_ | refine i_yes ?_
  | refine i_op ?_ | refine i_un ?_ | refine i_chain ?_ | refine i_andV ?_ | refine i_orV ?_ | refine i_notV ?_ | refine i_cb ?_ | refine i_cons ?_ | refine i_nil ?_ | refine i_bm ?_ | refine i_bm0 ?_ | refine i_c ?_ | refine i_name ?_ | refine i_sub ?_
  | refine i_call ?_ | refine i_lst ?_ | refine i_tup ?_ | refine i_par ?_ | refine i_par2 ?_ | refine i_sl ?_ | refine i_np ?_ | refine i_pt ?_ | refine i_int ?_ | refine i_m0 ?_ | refine i_m1 ?_ | refine i_isS ?_
  | refine i_rI0 ?_ | refine i_inSign ?_ | refine i_notInSign ?_ | refine i_int1 ?_ | refine i_tru ?_ | refine i_isN ?_ | refine i_notN ?_ | refine iteT ?_ | refine iteF ?_ | refine i_brk ?_ | refine i_rt ?_ | refine i_nx ?_ | refine i_bk ?_ | refine i_ct ?_ | refine i_for ?_ | refine i_lc ?_ | refine i_dc ?_ | refine i_iL ?_ | refine i_iT ?_ | refine i_iR1 ?_ | refine i_iR2 ?_ | refine i_iS ?_ | refine i_iE ?_ | refine i_iEK ?_ | refine i_iEQ ?_ | refine i_dget ?_ | refine i_fld ?_ | refine i_sfld ?_ | refine i_dput ?_ | refine i_meth ?_ | refine i_rU ?_ | refine i_cont ?_ | refine i_make ?_))
local macro_rules | `(tactic| walk_at "v2") => `(tactic| (first
  | ((with_reducible refine' i_var ?k1 ?_); (case k1 => exact rfl))
  | ((with_reducible refine' i_eq ?k1 ?_); (case k1 => exact rfl))
  | ((with_reducible refine' i_ne ?k1 ?_); (case k1 => exact rfl))
  | ((with_reducible refine' i_ixL ?k1 ?k2 ?_); (case k1 => walk_at "h"); (case k2 => exact rfl))
  | ((with_reducible refine' i_ixT ?k1 ?k2 ?_); (case k1 => walk_at "h"); (case k2 => exact rfl))
  | ((with_reducible refine' i_lenL ?k1 ?_); (case k1 => walk_at "h"))
  | ((with_reducible refine' i_lenT ?k1 ?_); (case k1 => walk_at "h"))
  | (refine i_wipe (show wipe _ _ = wipe _ _ from rfl) ?_)
  | ((with_reducible refine' i_setL ?k1 ?k2 ?_); (case k1 => walk_at "h"); (case k2 => exact rfl))
  | ((with_reducible refine' i_tyl ?k1 ?_); (case k1 => walk_at "h"))))
local macro_rules | `(tactic| walk_at "v") => `(tactic| repeat (first | walk_at "v1" | walk_at "v2"))

variable {P : Program} {w : World} {K :
      PySem.W.Frag} {mg : Str → Option Value} {base : Heap}
abbrev srow_line : Stmt := top 24
abbrev Nrow_line : List Str := ["log", "row", "reader", "page", "over", "first", "last"]
abbrev Prow_line : List Str := ["log", "row"]
theorem scrow_line : FnScope Nrow_line Prow_line (defScope srow_line) := ⟨rfl, rfl, rfl, by decide +kernel, rfl, by decide +kernel, by decide +kernel⟩
abbrev srow_in : Stmt := top 26
abbrev Nrow_in : List Str := ["log", "line", "words", "reader", "over"]
abbrev Prow_in : List Str := ["log", "line"]
theorem scrow_in : FnScope Nrow_in Prow_in (defScope srow_in) := ⟨rfl, rfl, rfl, by decide +kernel, rfl, by decide +kernel, by decide +kernel⟩
theorem app_assoc (x y z : Str) : x ++ y ++ z = x ++ (y ++ z) := ext_tl (by rw [tl_append, tl_append, tl_append, tl_append, List.append_assoc])
def lastT : Option Nat → Str
  | none => "lacks"
  | some j => ("over " : Str) ++ numW j
theorem over_spc : ("over " : Str) = ("over" : Str) ++ SPC := by decide +kernel
theorem lineOf_eq (L : LG) (r : Rw) : lineOf L r = firstW L r.k ++ SPC ++ r.page ++ SPC ++ lastT r.over := by
  unfold lineOf wordsOf
  rw [join_eq]
  cases r.over with
  | none =>
    show firstW L r.k ++ SPC ++ (r.page ++ SPC ++ ("lacks" : Str)) = _
    simp only [lastT, app_assoc]
  | some j =>
    show firstW L r.k ++ SPC ++ (r.page ++ SPC ++ (("over" : Str) ++ SPC ++ numW j)) = _
    simp only [lastT, over_spc, app_assoc]
theorem wrF_mem {x : Str} : ∀ (t : List Row) (k : Int), ∀ z ∈ wrF k x t, k < z ∧ z ≤ k + t.length
  | [], k, z, h => by simp [wrF] at h
  | r :: t, k, z, h => by
    simp only [wrF] at h
    split at h
    · rcases List.mem_cons.mp
          h with e | h
      · subst e; simp only [List.length_cons]; omega
      · have := wrF_mem t (k + 1) z h
        simp only
              [List.length_cons]; omega
    · have := wrF_mem t (k + 1) z h
      simp only
            [List.length_cons]; omega
theorem ver_le (t : List Row) (x : Str) : ver t x ≤ t.length := by
  unfold ver
  cases e : (wr t x).getLast? with
  | none => simp
  | some z =>
    have := wrF_mem t 0 z (List.mem_of_getLast? e)
    simp; omega
theorem Vd.page {L : LG} (ok : L.Ok) {r : Rw} (h : Vd L r) : r.page ∈ L.pages := by
  obtain ⟨v, hv, _⟩ := h.ex
  obtain ⟨t, ns, en, nd, nsp, nl⟩ := need_form ok h.lo h.hi
  unfold needOf at hv
  rw [en] at hv
  unfold standing at hv
  simp only [Option.getD_some, List.mem_map, Prod.mk.injEq] at hv
  obtain ⟨y, hy, rfl, _⟩ := hv
  exact nsp _ hy
theorem Vd.small {L : LG} (ok : L.Ok) {r : Rw} (h : Vd L r) {j : Nat} (e : r.over = some j) : j < 1000 := by
  obtain ⟨v, hv, ho⟩ := h.ex
  rw [e] at ho
  have := wrF_mem L.rows 0 _ ho.2.2
  have := ok.few
  omega
theorem Vd.k1000 {L : LG} (ok : L.Ok) {r : Rw} (h : Vd L r) : r.k < 1000 := by
  have := h.hi
  have := ok.few
  omega
theorem numW_short {n : Nat} (h : n < 1000) : (numW n).length ≤ 3 := numW_len (k := 3) (by decide) h
theorem firstW_short {L : LG} (ok : L.Ok) {r : Rw} (h : Vd L r) : (firstW L r.k).length ≤ 3 := by
  unfold firstW
  split
  · exact (by decide : ("end" : Str).length ≤ 3)
  · exact numW_short (h.k1000 ok)
theorem log2_small {n : Nat} (h : n < 1000) : ((n : Nat) : Int).natAbs.log2 < 1920 := by
  show n.log2 < 1920
  have : n.log2 ≤ n := Nat.log2_le_self n
  omega
theorem toStr_num (n : Nat) : ((toString ((n : Nat) : Int) : String) : Str) = numW n := rfl
abbrev small (a b : Nat) : Prop := a + b ≤ sizeLine
theorem small_of {n : Nat} (h : n ≤ 100) : n ≤ sizeLine := Nat.le_trans h (by decide)
def spRowLine (C : Addr) : Sp := fun vs H Q _ => ∃ (S : List Addr) (L : LG) (p t : Addr) (r : Rw), vs = [.ref p, .ref t] ∧ LogAt [] C H p L ∧ L.Ok ∧ Vd L r ∧ Dt S H (rwD r) (.ref t) ∧ Q (.str (lineOf L r ++ NLN)) H
theorem Dt.rwE {S : List Addr} {H : Hp} {r : Rw} {t : Addr} (h : Dt S H (rwD r) (.ref t)) : ∃ x, H t = some (.tup [.int (r.k : Nat), .str r.page, x]) ∧ x = (match r.over with | none => V.non | some j => .int (j : Nat)) ∧ t ∉ S := by
  obtain ⟨ta, xs, e, nt, ht, dx⟩ := (by unfold rwD Dt at h; exact h : ∃ a xs, V.ref t = .ref a ∧ a ∉ S ∧ H a = some (.tup xs) ∧ DtAll S H [.int (r.k : Nat), .str r.page, ovD r.over] xs)
  cases e
  obtain ⟨x0, r0, rfl, z0, dk1⟩ := DtAll.cons_iff.mp dx
  obtain ⟨x1, r1, rfl, z1, dk2⟩ := DtAll.cons_iff.mp dk1
  obtain ⟨x2, r2, rfl, z2, dk3⟩ := DtAll.cons_iff.mp dk2
  obtain rfl := DtAll.nil_iff.mp dk3
  unfold Dt at z0 z1
  subst z0 z1
  refine ⟨x2, ht, ?_, nt⟩
  cases e : r.over <;> rw [e] at z2 <;> (unfold ovD Dt at z2; exact z2)
theorem ok_rowline {C : Addr} (cLog : LogCls K mg C) (d : Fd K mg "row_line" srow_line Prow_line) (B : Blt mg) : FnOk P w K mg base CX0 1 d.f d.fd Prow_line (spRowLine C) := by
  refine d.F.ok scrow_line (fun vs H Q E h => ?_) (fun cdv A outer s H vs Q E hr h => ?_)
  · obtain ⟨S, L, p, t, r, rfl, _⟩ := h
    rfl
  · obtain ⟨S, L, p, t, r, rfl, la, ok, vd, hd, k⟩ := h
    refine ⟨_, (pss_cons (ps_asg (pv 1) (g_tup K (n := 3) rfl (pgs_cons (pg_name (i := 2) scrow_line.nd rfl (by first | exact Or.inl rfl | exact Or.inr rfl)) (pgs_cons (pg_name (i := 3) scrow_line.nd rfl (by first | exact Or.inl rfl | exact Or.inr rfl)) (pgs_cons (pg_name (i := 4) scrow_line.nd rfl (by first | exact Or.inl rfl | exact Or.inr rfl)) pgs_nil)))))
      (pss_cons (ps_set (i := 5) scrow_line.nd rfl (by first | exact Or.inl rfl | exact Or.inr rfl) (pe_ifExp (pt_cmpR op_eq (pv 2) (pe_op op_add (pe_callB (c_len K) (by rfl) B.len (by decide +kernel) (pa_cons (e_fld K (pv 0)) pa_nil)) pe_int) (nomark _)) pe_str (pe_callTy c_strI (by rfl) B.str (by decide +kernel) (pa_cons (pv 2) pa_nil))))
      (pss_cons (ps_set (i := 6) scrow_line.nd rfl (by first | exact Or.inl rfl | exact Or.inr rfl) (pe_ifExp (pt_cmpR o_isN (pv 4) pe_non (nomark _)) pe_str (pe_op o_addS pe_str (pe_callTy c_strI (by rfl) B.str (by decide +kernel) (pa_cons (pv 4) pa_nil)))))
      (pss_one (ps_ret (pe_op o_addS (pe_op o_addS (pe_op o_addS (pe_op o_addS (pe_op o_addS (pv 5) pe_str) (pv 3)) pe_str) (pv 6)) pe_str)))))), ?_⟩
    obtain ⟨_, dx, tn, lr, dw, ln, kvs, q, hp, _, htn, drows, _, hdw, ⟨ek, hq⟩, _, dneeds⟩ := la
    obtain ⟨lrx, hlr, dlr⟩ := (by unfold rowsD Dt at drows; obtain ⟨a, xs, e, n, h1, h2⟩ := drows; cases e; exact ⟨xs, h1, h2⟩ : ∃ xs, H lr = some (.lst xs) ∧ DtAll [] H (L.rows.map rowD) xs)
    have llr : lrx.length = L.rows.length := by rw [dlr.length]; simp
    obtain ⟨x, ht, ex, _⟩ := hd.rwE
    have pl := (nameB_len (ok.name _ (vd.page ok))).2
    have fl := firstW_short ok vd
    walk_at "v"
    refine g_three ht ?_
    rw [lineOf_eq] at k
    have fin2 : (lastT r.over).length ≤ 8 → tRet (tOp rAddS (tOp rAddS (tOp rAddS (tOp rAddS (tOp rAddS (tVar 5) (tC (.str SPC))) (tVar 3)) (tC (.str SPC))) (tVar 6)) (tC (.str NLN))) { nx := fun x H' => Q V.non H', rt := Q }
        [some (.ref p), some (.ref t), some (.int (r.k : Nat)), some (.str r.page), some x, some (.str (firstW L r.k)), some (.str (lastT r.over))] H := fun ll => by
      have l1 : SPC.length = 1 := by decide
      have l2 : NLN.length = 1 := by decide
      walk_at "v"
      refine i_adds (small_of (by omega)) ?_
      walk_at "v"
      refine i_adds (small_of (by rw [len_app]; omega)) ?_
      walk_at "v"
      refine i_adds (small_of (by rw [len_app, len_app]; omega)) ?_
      walk_at "v"
      refine i_adds (small_of (by rw [len_app, len_app, len_app]; omega)) ?_
      walk_at "v"
      refine i_adds (small_of (by rw [len_app, len_app, len_app, len_app]; omega)) ?_
      exact k
    have fin1 : tSeq (tAsg (tIf (tTest (tOp rIsN (tVar 4) (tC V.non))) (tC (V.str "lacks")) (tOp rAddS (tC (V.str "over ")) (tCB rStrI (tCons (tVar 4) tNil)))) (gName 6))
        (tRet (tOp rAddS (tOp rAddS (tOp rAddS (tOp rAddS (tOp rAddS (tVar 5) (tC (.str SPC))) (tVar 3)) (tC (.str SPC))) (tVar 6)) (tC (.str NLN)))) { nx := fun x H' => Q V.non H', rt := Q }
        [some (.ref p), some (.ref t), some (.int (r.k : Nat)), some (.str r.page), some x, some (.str (firstW L r.k)), none] H := by
      walk_at "v"
      cases eo : r.over with
      | none =>
        rw [eo] at ex fin2
        subst ex
        refine iteT ?_
        exact fin2 (by decide)
      | some j =>
        rw [eo] at ex fin2
        subst ex
        have jl := numW_short (vd.small ok eo)
        refine iteF ?_
        walk_at "v"
        refine i_strI (log2_small (vd.small ok eo)) ?_
        rw [toStr_num]
        have l5 : ("over " : Str).length = 5 := by decide
        refine i_adds (small_of (by omega)) ?_
        exact fin2 (by show (("over " : Str) ++ numW j).length ≤ 8; rw [len_app]; omega)
    walk_at "v"
    refine d_fld hp cLog.cl cLog.nR (logF_rows _ _ _ _) ?_
    walk_at "v"
    have efw : firstW L r.k = if r.k = L.rows.length + 1 then ("end" : Str) else numW r.k := rfl
    refine ifd (fun h => ?_) (fun h => ?_)
    · have hk : r.k = L.rows.length + 1 := by
        have := V.int.inj h
        rw [llr] at this; omega
      rw [if_pos hk] at efw
      rw [efw] at fin1
      exact fin1
    · have hk : ¬ r.k = L.rows.length + 1 := fun e => h (by rw [llr, e]; congr 1)
      rw [if_neg hk] at efw
      rw [efw] at fin1
      walk_at "v"
      refine i_strI (log2_small (vd.k1000 ok)) ?_
      exact fin1
/-! ### a line -/
theorem end_len : ("end" : Str).length = 3 := by decide
theorem wordsOf_ne {L : LG} (ok : L.Ok) {r : Rw} (h : Vd L r) : ¬ ("" : Str) ∈ wordsOf L r := fun hm => by
  have pl := (nameB_len (ok.name _ (h.page ok))).1
  have nl : ∀ n, (1 : Nat) ≤ (numW n).length := fun n => by
    rw [len_tl, tl_numW]; exact List.length_pos_iff.mpr (numL_ne n)
  have e0 : ("" : Str).length = 0 := by decide
  have key : ∀ z ∈ wordsOf L r, 1 ≤ z.length := fun z hz => by
    rcases List.mem_cons.mp
          hz with rfl | hz
    · unfold firstW
      split
      · decide
      · exact nl _
    · rcases List.mem_cons.mp hz with rfl | hz
      · exact pl
      · revert hz
        cases r.over with
        | none => intro hz; simp [lastW] at hz; subst hz; decide
        | some j =>
          intro hz
          simp [lastW] at hz
          rcases hz with rfl | rfl
          · decide
          · exact nl _
  have := key _ hm
  omega
theorem wordsOf_len {L : LG} {r : Rw} : (wordsOf L r).length = 3 ∨ (wordsOf L r).length = 4 := by
  unfold wordsOf
  cases r.over <;> simp [lastW]
/-- what stands first, as the reader that it names -/
def readerO (L : LG) (z : Str) : Option Nat := if z = ("end" : Str) then some (L.rows.length + 1) else if numO z = some (L.rows.length + 1) then none else numO z
theorem firstW_iff {L : LG} (ok : L.Ok) {k : Nat} {z : Str} (hk : k ≤ L.rows.length + 1) : firstW L k = z ↔ readerO L z = some k := by
  have few := ok.few
  unfold firstW readerO
  constructor
  · intro h
    split at h
    · subst h
      rename_i e
      rw [if_pos rfl, e]
    · rename_i e
      subst h
      have nk := numO_of (n := k) (by omega)
      rw [if_neg (fun h => end_num k h.symm), nk, if_neg (fun h => e (Option.some.inj h))]
  · intro h
    split at h
    · rename_i e
      rw [if_pos (Option.some.inj h).symm, e]
    · split at h
      · cases h
      · rename_i e1 e2
        rw [if_neg (fun e => e2 (by rw [h, e]))]
        exact (numO_some.mp h).1.symm
def spRowIn (C : Addr) : Sp := fun vs H Q _ => ∃ (L : LG) (p : Addr) (z : Str), vs = [.ref p, .str z] ∧ LogAt [] C H p L ∧ L.Ok ∧ z.length ≤ 1000000 ∧
  (∀ r, parse L (words z) = some r → ∀ t H', New H H' (rwD r) (.ref t) → Same H H' → Q (.ref t) H') ∧ (parse L (words z) = none → ∀ H', Same H H' → Q .non H')
theorem LogAt.same {S : List Addr} {C : Addr} {H H' : Hp} {p : Addr} {L : LG} (h : LogAt S C H p L) (k : Same H H') : LogAt S C H' p L := by
  obtain ⟨np, dx, tn, lr, dw, ln, kvs, q, h1, h2, h3, h4, h5, h6, ⟨e, h7⟩, h8, h9⟩ := h
  exact ⟨np, dx, tn, lr, dw, ln, kvs, q, k _ _ h1, h2, k _ _ h3, h4.same k, h5, k _ _ h6, ⟨e, fun x hx => k _ _ (h7 x hx)⟩, h8, h9.same k⟩
theorem New.pre {H0 H H' : Hp} {d : PyData} {v : V} (n : New H H' d v) (k : Same H0 H) : New H0 H' d v := fun S t => n S (t.same k)
abbrev FdWordsIn (K : PySem.W.Frag) (mg : Str → Option Value) := Fd K mg "words_in" swords_in Pwords_in
abbrev FdNumIn (K : PySem.W.Frag) (mg : Str → Option Value) := Fd K mg "number_in" snumber_in Pnumber_in
abbrev FdRowOf (K : PySem.W.Frag) (mg : Str → Option Value) := Fd K mg "row_of" srow_of Prow_of
theorem numV_dt {S : List Addr} {H : Hp} (o : Option Nat) : Dt S H (ovD o) (numV o) := by cases o <;> (unfold ovD numV Dt; rfl)
theorem three_of {α : Type} {l : List α} (h : l.length = 3) : ∃ a b c, l = [a, b, c] := by
  match l, h with
  | [a, b, c], _ => exact ⟨a, b, c, rfl⟩
theorem four_of {α : Type} {l : List α} (h : l.length = 4) : ∃ a b c d, l = [a, b, c, d] := by
  match l, h with
  | [a, b, c, d], _ => exact ⟨a, b, c, d, rfl⟩
theorem ok_rowin {C : Addr} (cLog : LogCls K mg C) (d : Fd K mg "row_in" srow_in Prow_in) (dwords_in : FdWordsIn K mg) (dnumber_in : FdNumIn K mg) (drow_of : FdRowOf K mg) (dis_between : FdBetween K mg) (B : Blt mg) : FnOk P w K mg base CX0 3 d.f d.fd Prow_in (spRowIn C) := by
  have Gwords_in : FnOk P w K mg base CX0 1 dwords_in.f dwords_in.fd Pwords_in spWordsIn := ok_wordsin dwords_in B
  have Gnumber_in : FnOk P w K mg base CX0 1 dnumber_in.f dnumber_in.fd Pnumber_in spNumIn := ok_numberin dnumber_in B
  have Grow_of : FnOk P w K mg base CX0 2 drow_of.f drow_of.fd Prow_of (spRowOf C) := ok_rowof cLog drow_of dis_between B
  refine d.F.ok scrow_in (fun vs H Q E h => ?_) (fun cdv A outer s H vs Q E hr h => ?_)
  · obtain ⟨L, p, z, rfl, _⟩ := h
    rfl
  · obtain ⟨L, p, z, rfl, la, ok, hz, k1, k0⟩ := h
    refine ⟨_, (pss_cons (ps_set (i := 2) scrow_in.nd rfl (by first | exact Or.inl rfl | exact Or.inr rfl) (pe_call Gwords_in (hr.mono (by decide)) (by rfl) dwords_in.g dwords_in.F.kp dwords_in.b .nil pass0 (pa_cons (pv 1) pa_nil)))
      (pss_cons (ps_if (PW.pt (pw_or (pt_cmpR o_isN (pv 2) pe_non (nomark _)) (pw_or (pt_cmpR op_lt (pe_callB (c_len K) (by rfl) B.len (by decide +kernel) (pa_cons (pv 2) pa_nil)) pe_int (nomark _)) (pw_or1 (pt_cmpR op_gt (pe_callB (c_len K) (by rfl) B.len (by decide +kernel) (pa_cons (pv 2) pa_nil)) pe_int (nomark _)))))) (pss_one (ps_ret pe_non)) pss_nil)
      (pss_cons (ps_set (i := 3) scrow_in.nd rfl (by first | exact Or.inl rfl | exact Or.inr rfl) (pe_ifExp (pt_cmpR op_eq (pe_ix (x_list K) (pv 2) pe_int (fun _ _ => rfl)) pe_str (nomark _)) (pe_op op_add (pe_callB (c_len K) (by rfl) B.len (by decide +kernel) (pa_cons (e_fld K (pv 0)) pa_nil)) pe_int) (pe_call Gnumber_in (hr.mono (by decide)) (by rfl) dnumber_in.g dnumber_in.F.kp dnumber_in.b .nil pass0 (pa_cons (pe_ix (x_list K) (pv 2) pe_int (fun _ _ => rfl)) pa_nil))))
      (pss_cons (ps_if (PW.pt (pw_and (pt_cmpR op_ne (pe_ix (x_list K) (pv 2) pe_int (fun _ _ => rfl)) pe_str (nomark _)) (pw_and1 (pt_cmpR op_eq (pv 3) (pe_op op_add (pe_callB (c_len K) (by rfl) B.len (by decide +kernel) (pa_cons (e_fld K (pv 0)) pa_nil)) pe_int) (nomark _))))) (pss_one (ps_ret pe_non)) pss_nil)
      (pss_cons (ps_set (i := 4) scrow_in.nd rfl (by first | exact Or.inl rfl | exact Or.inr rfl) pe_non)
      (pss_cons (ps_if (pt_cmpR op_eq (pe_callB (c_len K) (by rfl) B.len (by decide +kernel) (pa_cons (pv 2) pa_nil)) pe_int (nomark _)) (pss_cons (ps_set (i := 4) scrow_in.nd rfl (by first | exact Or.inl rfl | exact Or.inr rfl) (pe_call Gnumber_in (hr.mono (by decide)) (by rfl) dnumber_in.g dnumber_in.F.kp dnumber_in.b .nil pass0 (pa_cons (pe_ix (x_list K) (pv 2) pe_int (fun _ _ => rfl)) pa_nil)))
      (pss_one (ps_if (PW.pt (pw_or (pt_cmpR op_ne (pe_ix (x_list K) (pv 2) pe_int (fun _ _ => rfl)) pe_str (nomark _)) (pw_or1 (pt_cmpR o_isN (pv 4) pe_non (nomark _))))) (pss_one (ps_ret pe_non)) pss_nil))) (pss_one (ps_if (pt_cmpR op_ne (pe_ix (x_list K) (pv 2) pe_int (fun _ _ => rfl)) pe_str (nomark _)) (pss_one (ps_ret pe_non)) pss_nil)))
      (pss_one (ps_ret (pe_call Grow_of (hr.mono (by decide)) (by rfl) drow_of.g drow_of.F.kp drow_of.b .nil pass0 (pa_cons (pv 0) (pa_cons (pe_tup (pa_cons (pv 3) (pa_cons (pe_ix (x_list K) (pv 2) pe_int (fun _ _ => rfl)) (pa_cons (pv 4) pa_nil)))) pa_nil))))))))))), ?_⟩
    have few := ok.few
    obtain ⟨_, dx, tn, lr, dw, ln, kvs, q, hp, _, htn, drows, _, hdw, ⟨ek, hq⟩, _, dneeds⟩ := id la
    obtain ⟨lrx, hlr, dlr⟩ := (by unfold rowsD Dt at drows; obtain ⟨a, xs, e, n, h1, h2⟩ := drows; cases e; exact ⟨xs, h1, h2⟩ : ∃ xs, H lr = some (.lst xs) ∧ DtAll [] H (L.rows.map rowD) xs)
    have llr : lrx.length = L.rows.length := by rw [dlr.length]; simp
    have wshort : ∀ x ∈ words z, x.length ≤ 1000000 := fun x hx => Nat.le_trans (len_sum_split tl_spc (by decide) x hx) hz
    walk_at "v"
    refine ⟨z, rfl, hz, fun hm H1 s1 => ?_, fun hm W H1 hW s1 => ?_⟩
    · walk_at "v"
      refine ifd (fun _ => ?_) (fun h => absurd rfl h)
      walk_at "v"
      refine k0 (parse_none fun r vd e => ?_) _ s1
      exact wordsOf_ne ok vd (by rw [e]; exact hm)
    · walk_at "v"
      refine ifd (fun h => by cases h) (fun _ => ?_)
      walk_at "v"
      have lwz : ((words z).map V.str).length = (words z).length := by simp
      refine ifd (fun h3 => ?_) (fun h3 => ?_)
      · walk_at "v"
        refine k0 (parse_none fun r vd e => ?_) _ s1
        have := wordsOf_len (L := L) (r := r)
        rw [e] at this; omega
      · walk_at "v"
        refine ifd (fun h4 => ?_) (fun h4 => ?_)
        · walk_at "v"
          refine k0 (parse_none fun r vd e => ?_) _ s1
          have := wordsOf_len (L := L) (r := r)
          rw [e] at this; omega
        · obtain ⟨w0, w1, w2, wr', ew⟩ : ∃ w0 w1 w2 wr', words z = w0 :: w1 :: w2 :: wr' := by
            match words z, (show 3 ≤ (words z).length by omega) with
            | a :: b :: c :: r, _ => exact ⟨a, b, c, r, rfl⟩
          have hW' := hW
          rw [ew] at hW'
          clear hW
          have lwz' : ((w0 :: w1 :: w2 :: wr').map V.str).length = (words z).length := by rw [ew]; simp
          have s0 : w0.length ≤ 1000000 := wshort w0 (by rw [ew]; simp)
          have hp1 := s1 _ _ hp
          have hlr1 := s1 _ _ hlr
          have finEnd : ∀ (rd oo : Option Nat), (∀ r, Vd L r → (wordsOf L r = words z ↔ rd = some r.k ∧ r.page = w1 ∧ r.over = oo)) →
              tRet (tCall (spRowOf C) [] E0 (tCons (tVar 0) (tCons (tTup (tCons (tVar 3) (tCons (tOp (rIxL K) (tVar 2) (tC (V.int 1))) (tCons (tVar 4) tNil)))) tNil))) { nx := fun x H' => Q V.non H', rt := Q }
                [some (.ref p), some (.str z), some (.ref W), some (numV rd), some (numV oo)] H1 := fun rd oo iff => by
            walk_at "v"
            refine i_ixL hW' (atI_nat (j := 1) rfl) ?_
            walk_at "v"
            refine ⟨show 3 ≤ sizeLine by decide, fun t ht => ?_⟩
            have s2 : Same H1 (upd H1 t (.tup [numV rd, .str w1, numV oo])) := (Same.refl _).new ht
            walk_at "v"
            have dd : Dt [] (upd H1 t (.tup [numV rd, .str w1, numV oo])) (.tuple [ovD rd, .str w1, ovD oo]) (.ref t) := dt_tup upd_same (DtAll.cons (numV_dt _) (DtAll.cons dt_s (DtAll.cons (numV_dt _) DtAll.nil))) (by simp)
            have ovI : ∀ {a b : Option Nat}, ovD a = ovD b → a = b := fun {a b} h => by
              cases a <;> cases b <;> simp [ovD] at h <;> first | rfl | (rw [show _ = _ from by exact_mod_cast h]) | (congr 1; omega)
            refine ⟨[], L, p, _, _, rfl, (la.same s1).same s2, ok, dd, fun r ri t' H2 nt s3 => ?_, fun no H2 s3 => ?_⟩
            · have e := ri.kid
              simp only [kids, List.cons.injEq, and_true] at e
              obtain ⟨e1, e2, e3⟩ := e
              have er : rd = some r.k := ovI (b := some r.k) e1
              have ew1 : r.page = w1 := by injection e2 with e2; exact e2.symm
              have eo : r.over = oo := (ovI e3).symm
              exact k1 r (parse_some ri.vd ((iff r ri.vd).mpr ⟨er, ew1, eo⟩)) t' H2 (nt.pre (s1.trans s2)) ((s1.trans s2).trans s3)
            · refine k0 (parse_none fun r vd e => ?_) _ ((s1.trans s2).trans s3)
              obtain ⟨er, ew1, eo⟩ := (iff r vd).mp e
              exact no r ⟨rfl, by rw [er, ← ew1, ← eo]; rfl, vd⟩
          have finMid : ∀ (rd : Option Nat), (∀ k, k ≤ L.rows.length + 1 → (firstW L k = w0 ↔ rd = some k)) →
              tSeq (tAsg (tC V.non) (gName 4)) (tSeq (tIfS (tTest (tOp rEq (tCB (rLen K) (tCons (tVar 2) tNil)) (tC (V.int 4)))) (tSeq (tAsg (tCall spNumIn [] E0 (tCons (tOp (rIxL K) (tVar 2) (tC (V.int 3))) tNil)) (gName 4))
                    (tIfS (tOr (tTest (tOp rNe (tOp (rIxL K) (tVar 2) (tC (V.int 2))) (tC (V.str "over")))) (tTest (tOp rIsN (tVar 4) (tC V.non)))) (tRet (tC V.non)) tNext))
                  (tIfS (tTest (tOp rNe (tOp (rIxL K) (tVar 2) (tC (V.int 2))) (tC (V.str "lacks")))) (tRet (tC V.non)) tNext))
                (tRet (tCall (spRowOf C) [] E0 (tCons (tVar 0) (tCons (tTup (tCons (tVar 3) (tCons (tOp (rIxL K) (tVar 2) (tC (V.int 1))) (tCons (tVar 4) tNil)))) tNil))))) { nx := fun x H' => Q V.non H', rt := Q }
                [some (.ref p), some (.str z), some (.ref W), some (numV rd), none] H1 := fun rd hrd => by
            walk_at "v"
            refine ifd (fun h4 => ?_) (fun h4' => ?_)
            · have l4 : (words z).length = 4 := by
                have := V.int.inj h4
                rw [lwz'] at this; omega
              obtain ⟨w3, rfl⟩ : ∃ w3, wr' = [w3] := by
                rw [ew] at l4
                match wr', (show wr'.length = 1 by simpa using l4) with
                | [a], _ => exact ⟨a, rfl⟩
              walk_at "v"
              refine ⟨w3, rfl, wshort w3 (by rw [ew]; simp), ?_⟩
              walk_at "v"
              refine ifn (fun ho => ?_) (fun ho => ?_)
              · walk_at "v"
                refine k0 (parse_none fun r vd e => ?_) _ s1
                rw [ew] at e
                unfold wordsOf at e
                cases eo : r.over with
                | none => rw [eo] at e; simp [lastW] at e
                | some j =>
                  rw [eo] at e
                  simp only [lastW, List.cons.injEq] at e
                  exact ho (by rw [e.2.2.1])
              · have ho' : w2 = ("over" : Str) := V.str.inj ho
                walk_at "v"
                cases en : numO w3 with
                | none =>
                  refine iteT ?_
                  walk_at "v"
                  refine k0 (parse_none fun r vd e => ?_) _ s1
                  rw [ew] at e
                  unfold wordsOf at e
                  cases eo : r.over with
                  | none => rw [eo] at e; simp [lastW] at e
                  | some j =>
                    rw [eo] at e
                    simp only [lastW, List.cons.injEq] at e
                    rw [← e.2.2.2.1, numO_of (vd.small ok eo)] at en
                    cases en
                | some j =>
                  refine iteF ?_
                  refine finEnd rd (some j) fun r vd => ?_
                  have h0 := hrd r.k vd.hi
                  have e3 := (numO_some.mp en).1
                  rw [ew]
                  constructor
                  · intro e
                    unfold wordsOf at e
                    cases eo : r.over with
                    | none => rw [eo] at e; simp [lastW] at e
                    | some j' =>
                      rw [eo] at e
                      simp only [lastW, List.cons.injEq, and_true] at e
                      refine ⟨h0.mp e.1, e.2.1, ?_⟩
                      rw [numW_inj (e.2.2.2.trans e3)]
                  · rintro ⟨h1, h2, h3⟩
                    unfold wordsOf
                    rw [h3, h0.mpr h1, h2]
                    simp only [lastW]
                    rw [ho', e3]
            · have l3 : (words z).length = 3 := by
                have h5 : ¬ (words z).length = 4 := fun e => h4' (by rw [lwz', e]; rfl)
                omega
              obtain rfl : wr' = [] := by
                rw [ew] at l3
                exact List.length_eq_zero_iff.mp (by simpa using l3)
              walk_at "v"
              refine ifn (fun ho => ?_) (fun ho => ?_)
              · walk_at "v"
                refine k0 (parse_none fun r vd e => ?_) _ s1
                rw [ew] at e
                unfold wordsOf at e
                cases eo : r.over with
                | some j => rw [eo] at e; simp [lastW] at e
                | none =>
                  rw [eo] at e
                  simp only [lastW, List.cons.injEq] at e
                  exact ho (by rw [e.2.2.1])
              · have ho' : w2 = ("lacks" : Str) := V.str.inj ho
                refine finEnd rd none fun r vd => ?_
                have h0 := hrd r.k vd.hi
                rw [ew]
                constructor
                · intro e
                  unfold wordsOf at e
                  cases eo : r.over with
                  | some j => rw [eo] at e; simp [lastW] at e
                  | none =>
                    rw [eo] at e
                    simp only [lastW, List.cons.injEq, and_true] at e
                    exact ⟨h0.mp e.1, e.2.1, rfl⟩
                · rintro ⟨h1, h2, h3⟩
                  unfold wordsOf
                  rw [h3, h0.mpr h1, h2]
                  simp only [lastW]
                  rw [ho']
          walk_at "v"
          refine i_ixL hW' (atI_nat (j := 0) rfl) ?_
          walk_at "v"
          refine ifd (fun he => ?_) (fun he => ?_)
          · have e0 : w0 = ("end" : Str) := V.str.inj he
            walk_at "v"
            refine d_fld hp1 cLog.cl cLog.nR (logF_rows _ _ _ _) ?_
            walk_at "v"
            refine i_ixL hW' (atI_nat (j := 0) rfl) ?_
            walk_at "v"
            refine ifn (fun h => absurd he h) (fun _ => ?_)
            refine iteF ?_
            have fm := finMid (some (L.rows.length + 1)) (fun k hk => by rw [firstW_iff ok hk]; unfold readerO; rw [if_pos e0])
            have ee : numV (some (L.rows.length + 1)) = V.int ((lrx.length : Int) + 1) := by show V.int _ = _; rw [llr]; rfl
            rw [ee] at fm
            exact fm
          · have e0 : ¬ w0 = ("end" : Str) := fun h => he (by rw [h])
            walk_at "v"
            refine i_ixL hW' (atI_nat (j := 0) rfl) ?_
            walk_at "v"
            refine ⟨w0, rfl, s0, ?_⟩
            walk_at "v"
            refine i_ixL hW' (atI_nat (j := 0) rfl) ?_
            walk_at "v"
            refine ifn (fun _ => ?_) (fun h => absurd h he)
            walk_at "v"
            refine d_fld hp1 cLog.cl cLog.nR (logF_rows _ _ _ _) ?_
            walk_at "v"
            have eqn : scal (numV (numO w0)) (.int ((lrx.length : Int) + 1)) = true := by cases numO w0 <;> rfl
            refine ⟨eqn, ?_⟩
            walk_at "v"
            refine ifd (fun h => ?_) (fun h => ?_)
            · walk_at "v"
              have en : numO w0 = some (L.rows.length + 1) := by
                cases e : numO w0 with
                | none => rw [e]
                      at h; cases h
                | some n =>
                  rw [e] at h
                  have := V.int.inj h
                  rw [llr] at this
                  congr 1; omega
              refine k0 (parse_none fun r vd e => ?_) _ s1
              have h1 : firstW L r.k = w0 := by
                rw [ew] at e; unfold wordsOf at e; exact (List.cons.inj e).1
              rw [firstW_iff ok vd.hi] at h1
              unfold readerO at h1
              rw [if_neg e0, if_pos en] at h1
              cases h1
            · refine finMid (numO w0) (fun k hk => ?_)
              rw [firstW_iff ok hk]
              unfold readerO
              rw [if_neg e0, if_neg]
              intro e
              refine h ?_
              rw [e, llr]; rfl
end Lr
set_option Elab.async false
set_option linter.all false
set_option maxRecDepth 100000
set_option maxHeartbeats 4000000
namespace Lr
open PySem PySem.Spec PyProof.Rows L2 TL
open C8 (InsC call_isC)
local macro_rules | `(tactic| walk_at "ne") => `(tactic| (first | assumption | (refine ne_sym ?_; assumption) | (exact ne_of_none (by assumption) (by assumption)) | (exact ne_sym (ne_of_none (by assumption) (by assumption)))))
local macro_rules | `(tactic| walk_at "h") => `(tactic| (first | assumption | exact upd_same | (refine h_new ?_ (by assumption); walk_at "h") | (refine h_ne (by walk_at "ne") ?_; walk_at "h")))
local macro_rules | `(tactic| walk_at "v1") => `(tactic| (with_reducible first
  | refine i_seq ?_ | refine i_asg ?_ | refine i_ret ?_ | refine i_next ?_ | refine i_drop ?_ | refine i_ifS ?_ | refine i_if ?_ | refine i_and ?_ | refine i_or ?_ | refine i_not ?_ | refine i_test ?_ | refine i_tB ?_ | refine i_bl ?_ | refine i_yes ?_
  | refine i_op ?_ | refine i_un ?_ | refine i_chain ?_ | refine i_andV ?_ | refine i_orV ?_ | refine i_notV ?_ | refine i_cb ?_ | refine i_cons ?_ | refine i_nil ?_ | refine i_bm ?_ | refine i_bm0 ?_ | refine i_c ?_ | refine i_name ?_ | refine i_sub ?_
  | refine i_call ?_ | refine i_lst ?_ | refine i_tup ?_ | refine i_par ?_ | refine i_par2 ?_ | refine i_sl ?_ | refine i_np ?_ | refine i_pt ?_ | refine i_int ?_ | refine i_m0 ?_ | refine i_m1 ?_ | refine i_isS ?_
  | refine i_rI0 ?_ | refine i_inSign ?_ | refine i_notInSign ?_ | refine i_int1 ?_ | refine i_tru ?_ | refine i_isN ?_ | refine i_notN ?_ | refine iteT ?_ | refine iteF ?_ | refine i_brk ?_ | refine i_rt ?_ | refine i_nx ?_ | refine i_bk ?_ | refine i_ct ?_ | refine i_for ?_ | refine i_lc ?_ | refine i_dc ?_ | refine i_iL ?_ | refine i_iT ?_ | refine i_iR1 ?_ | refine i_iR2 ?_ | refine i_iS ?_ | refine i_iE ?_ | refine i_iEK ?_ | refine i_iEQ ?_ | refine i_dget ?_ | refine i_fld ?_ | refine i_sfld ?_ | refine i_dput ?_ | refine i_meth ?_ | refine i_rU ?_ | refine i_cont ?_ | refine i_make ?_))
local macro_rules | `(tactic| walk_at "v2") => `(tactic| (first
  | ((with_reducible refine' i_var ?k1 ?_); (case k1 => exact rfl))
  | ((with_reducible refine' i_eq ?k1 ?_); (case k1 => exact rfl))
  | ((with_reducible refine' i_ne ?k1 ?_); (case k1 => exact rfl))
  | ((with_reducible refine' i_ixL ?k1 ?k2 ?_); (case k1 => walk_at "h"); (case k2 => exact rfl))
  | ((with_reducible refine' i_ixT ?k1 ?k2 ?_); (case k1 => walk_at "h"); (case k2 => exact rfl))
  | ((with_reducible refine' i_lenL ?k1 ?_); (case k1 => walk_at "h"))
  | ((with_reducible refine' i_lenT ?k1 ?_); (case k1 => walk_at "h"))
  | (refine i_wipe (show wipe _ _ = wipe _ _ from rfl) ?_)
  | ((with_reducible refine' i_setL ?k1 ?k2 ?_); (case k1 => walk_at "h"); (case k2 => exact rfl))
  | ((with_reducible refine' i_tyl ?k1 ?_); (case k1 => walk_at "h"))))
local macro_rules | `(tactic| walk_at "v") => `(tactic| repeat (first | walk_at "v1" | walk_at "v2"))

variable {P : Program} {w : World} {K :
      PySem.W.Frag} {mg : Str → Option Value} {base : Heap}
abbrev srows_fault : Stmt := top 27
abbrev Nrows_fault : List Str := ["log", "text", "lines", "whole", "index", "line"]
abbrev Prows_fault : List Str := ["log", "text"]
theorem scrows_fault : FnScope Nrows_fault Prows_fault (defScope srows_fault) := ⟨rfl, rfl, rfl, by decide +kernel, rfl, by decide +kernel, by decide +kernel⟩
/-- the first line from k on that is no row -/
noncomputable def faultL (L : LG) : List Str → Nat → Option Nat
  | [], _ => none
  | x :: r, k => if (parse L (words x)).isNone = true then some (k + 1) else faultL L r (k + 1)
noncomputable def faultO (L : LG) (z : Str) : Option Nat := match faultL L (lines z).dropLast 0 with
  | some i => some i
  | none => if (lines z).getLast? = some ("" : Str) then none else some (lines z).length
theorem faultL_at {L : LG} : ∀ {ls : List Str} {k i : Nat} {x : Str}, (∀ j y, j < i → ls[j]? = some y → parse L (words y) ≠ none) → ls[i]? = some x → parse L (words x) = none → faultL L ls k = some (k + i + 1)
  | [], k, i, x, _, h, _ => by simp at h
  | y :: r, k, 0, x, _, h, e => by
    simp at h; subst h
    unfold faultL; rw [e]; rfl
  | y :: r, k, i + 1, x, h0, h, e => by
    unfold faultL
    have := h0 0 y (by omega) rfl
    rw [if_neg (by cases h : parse L (words y) <;> simp_all)]
    rw [faultL_at (i := i) (x := x) (fun j z hj hz => h0 (j + 1) z (by omega) (by simpa using hz)) (by simpa using h) e]
    congr 1; omega
theorem faultL_none {L : LG} : ∀ {ls : List Str} {k : Nat}, (∀ y ∈ ls, parse L (words y) ≠ none) → faultL L ls k = none
  | [], _, _ => rfl
  | y :: r, k, h => by
    unfold faultL
    have := h y (by simp)
    rw [if_neg (by cases h : parse L (words y) <;> simp_all)]
    exact faultL_none (fun z hz => h z (by simp [hz]))
theorem faultL_ok {L : LG} : ∀ {ls : List Str} {k : Nat}, faultL L ls k = none → ∀ y ∈ ls, parse L (words y) ≠ none
  | [], _, _, y, hy => by cases hy
  | x :: r, k, h, y, hy => by
    unfold faultL at h
    split at h
    · cases h
    · rename_i e
      rcases List.mem_cons.mp
            hy with rfl | hy
      · intro z; rw [z] at e; exact e rfl
      · exact faultL_ok h y hy
theorem faultO_of {L : LG} {z : Str} {ls : List Str} {l : Str} (e : lines z = ls ++ [l]) : faultO L z = match faultL L ls 0 with
  | some i => some i
  | none => if l = ("" : Str) then none else some (ls.length + 1) := by
  unfold faultO
  rw [e]
  simp
def spRowsFault (C : Addr) : Sp := fun vs H Q _ => ∃ (S : List Addr) (L : LG) (p : Addr) (d : PyData) (v : V), vs = [.ref p, v] ∧ LogAt [] C H p L ∧ L.Ok ∧ Dt S H d v ∧
  (∀ z, d = .str z → z.length ≤ 1000000 ∧ ∀ H', Same H H' → Q (numV (faultO L z)) H') ∧ (isK "str" d = false → ∀ H', Same H H' → Q (.int 0) H')
abbrev FdNeedLog (K : PySem.W.Frag) (mg : Str → Option Value) := Fd K mg "need_log" sneed_log Pneed_log
abbrev FdLinesIn (K : PySem.W.Frag) (mg : Str → Option Value) := Fd K mg "lines_in" slines_in Plines_in
abbrev FdRowIn (K : PySem.W.Frag) (mg : Str → Option Value) := Fd K mg "row_in" srow_in Prow_in
theorem ok_rowsfault {C : Addr} (cLog : LogCls K mg C) (iLog : InsC K C) (d : Fd K mg "rows_fault" srows_fault Prows_fault) (dneed_log : FdNeedLog K mg) (dlines_in : FdLinesIn K mg) (drow_in : FdRowIn K mg) (dwords_in : FdWordsIn K mg) (dnumber_in : FdNumIn K mg) (drow_of : FdRowOf K mg) (dis_between : FdBetween K mg) (B : Blt mg) :
    FnOk P w K mg base CX0 4 d.f d.fd Prows_fault (spRowsFault C) := by
  have Gneed_log : FnOk P w K mg base CX0 1 dneed_log.f dneed_log.fd Pneed_log (spNeedLog C) := ok_needlog cLog iLog dneed_log B
  have Glines_in : FnOk P w K mg base CX0 1 dlines_in.f dlines_in.fd Plines_in spLinesIn := ok_linesin dlines_in B
  have Grow_in : FnOk P w K mg base CX0 3 drow_in.f drow_in.fd Prow_in (spRowIn C) := ok_rowin cLog drow_in dwords_in dnumber_in drow_of dis_between B
  refine d.F.ok scrows_fault (fun vs H Q E h => ?_) (fun cdv A outer s H vs Q E hr h => ?_)
  · obtain ⟨S, L, p, d, v, rfl, _⟩ := h
    rfl
  · obtain ⟨S, L, p, d, v, rfl, la, ok, hd, ks, k0⟩ := h
    refine ⟨_, (pss_cons (ps_expr (pe_call Gneed_log (hr.mono (by decide)) (by rfl) dneed_log.g dneed_log.F.kp dneed_log.b .nil pass0 (pa_cons (pv 0) pa_nil)))
      (pss_cons (ps_if (pt_not (pt_val (pe_callB (c_isi K) (by rfl) B.isinstance (by decide +kernel) (pa_cons (pv 1) (pa_cons (e_ty "str" B.str (by decide +kernel)) pa_nil))))) (pss_one (ps_ret pe_int)) pss_nil)
      (pss_cons (ps_asg (pe_call Glines_in (hr.mono (by decide)) (by rfl) dlines_in.g dlines_in.F.kp dlines_in.b .nil pass0 (pa_cons (pv 1) pa_nil)) (g_tup K (n := 2) rfl (pgs_cons (pg_name (i := 2) scrows_fault.nd rfl (by first | exact Or.inl rfl | exact Or.inr rfl)) (pgs_cons (pg_name (i := 3) scrows_fault.nd rfl (by first | exact Or.inl rfl | exact Or.inr rfl)) pgs_nil))))
      (pss_cons (ps_for PassesOwn.never rfl (w_enumQ K (by rfl) B.enumerate (pa_cons (pv 2) pa_nil)) (g_tup K (n := 2) rfl (pgs_cons (pg_name (i := 4) scrows_fault.nd rfl (by first | exact Or.inl rfl | exact Or.inr rfl)) (pgs_cons (pg_name (i := 5) scrows_fault.nd rfl (by first | exact Or.inl rfl | exact Or.inr rfl)) pgs_nil)))
      (pss_one (ps_if (pt_cmpR o_isN (pe_call Grow_in (hr.mono (by decide)) (by rfl) drow_in.g drow_in.F.kp drow_in.b .nil pass0 (pa_cons (pv 0) (pa_cons (pv 5) pa_nil))) pe_non (nomark _)) (pss_one (ps_ret (pe_op op_add (pv 4) pe_int))) pss_nil)))
      (pss_cons (ps_if (pt_not (pt_val (pv 3))) (pss_one (ps_ret (pe_op op_add (pe_callB (c_len K) (by rfl) B.len (by decide +kernel) (pa_cons (pv 2) pa_nil)) pe_int))) pss_nil)
      (pss_one (ps_ret pe_non))))))), ?_⟩
    obtain ⟨_, dx, tn, lr, dw, ln, kvs, q, hp, _⟩ := id la
    walk_at "v"
    refine ⟨p, dx, _, rfl, hp, ?_⟩
    walk_at "v"
    refine i_isi hd (by simp) ?_
    walk_at "v"
    cases hst : isK "str" d with
    | false =>
      refine iteT ?_
      walk_at "v"
      exact k0 hst _ (Same.refl _)
    | true =>
      refine iteF ?_
      obtain ⟨z, rfl⟩ : ∃ z, d = .str z := by cases d <;> simp [isK, ptype] at hst ⊢
      have ev : v = .str z := by unfold Dt at hd; exact hd
      subst ev
      obtain ⟨hz, k⟩ := ks z rfl
      walk_at "v"
      refine ⟨z, rfl, hz, fun ls l t q1 H1 el ht hq s1 => ?_⟩
      rw [faultO_of el] at k
      walk_at "v"
      refine g_two ht ?_
      walk_at "v"
      have lsz : ∀ x ∈ ls, x.length ≤ 1000000 := fun x hx => Nat.le_trans (len_sum_split tl_nln (by decide) x (by show x ∈ lines z; rw [el]; simp [hx])) hz
      refine ⟨q1, ls.map V.str, _, rfl, .inl rfl, hq, fun J wk => ?_⟩
      refine for_by wk ⟨fun i σ H' => (∃ v4 v5 : Option V, σ = [some (.ref p), some (.str z), some (.ref q1), some (.bl (decide (l = ("" : Str)))), v4, v5]) ∧ Same H1 H' ∧ ∀ j y, j < i → ls[j]? = some y → parse L (words y) ≠ none, ?_, fun i σ H' _ ⟨_, s, _⟩ => s _ _ hq, ?_, ?_⟩
      · exact ⟨⟨_, _, rfl⟩, Same.refl _, fun j y h => absurd h (Nat.not_lt_zero _)⟩
      · rintro i x σ H2 H3 hi ⟨⟨v4, v5, rfl⟩, s2, ih⟩ ⟨T, y0, y, rfl, hT, rfl, e0, hy⟩
        obtain rfl : y0 = .int ((0 : Int) + (i : Nat)) := (Option.some.inj e0).symm
        have hy' : (ls.map V.str)[i]? = some y := hy
        rw [List.getElem?_map] at hy'
        obtain ⟨x, hxi, rfl⟩ := Option.map_eq_some_iff.mp hy'
        refine g_two upd_same ?_
        have s3 : Same H1 (upd H2 T (.tup [.int ((0 : Int) + (i : Nat)), .str x])) := s2.new hT
        walk_at "v"
        refine ⟨L, p, x, rfl, (la.same s1).same s3, ok, lsz x (List.mem_of_getElem? hxi), fun r er t' H4 nt s4 => ?_, fun en H4 s4 => ?_⟩
        · walk_at "v"
          refine ifd (fun h => by cases h) (fun _ => ?_)
          refine ⟨⟨_, _, rfl⟩, s3.trans s4, fun j y hj hyy => ?_⟩
          rcases Nat.lt_or_ge
                j i with h | h
          · exact ih j y h hyy
          · have ej : j = i := by omega
            subst ej; rw [hxi] at hyy; cases hyy
            rw [er]; simp
        · walk_at "v"
          refine ifd (fun _ => ?_) (fun h => absurd rfl h)
          walk_at "v"
          have ef := faultL_at (k := 0) ih hxi en
          rw [ef] at k
          have e1 : (0 : Int) + (i : Nat) + 1 = ((0 + i + 1 : Nat) : Int) := by omega
          rw [e1]
          exact k _ ((s1.trans s3).trans s4)
      · rintro σ H2 ⟨⟨v4, v5, rfl⟩, s2, ih⟩
        have ef : faultL L ls 0 = none := faultL_none fun y hy => by
          obtain ⟨j, hj, e⟩ := List.getElem_of_mem hy
          exact ih j y (by simpa using hj) (by rw [← e]; simp)
        rw [ef] at k
        walk_at "v"
        refine ifn (fun h => ?_) (fun h => ?_)
        · walk_at "v"
          refine i_lenL (s2 _ _ hq) ?_
          walk_at "v"
          simp only [if_neg h] at k
          have e1 : ((ls.map V.str).length : Int) + 1 = ((ls.length + 1 : Nat) : Int) := by simp
          rw [e1]
          exact k _ (s1.trans s2)
        · walk_at "v"
          simp only [if_pos h] at k
          exact k _ (s1.trans s2)
end Lr
set_option Elab.async false
set_option linter.all false
set_option maxRecDepth 100000
set_option maxHeartbeats 4000000
namespace Lr
open PySem PySem.Spec PyProof.Rows L2 TL
open C8 (InsC call_isC)
local macro_rules | `(tactic| walk_at "ne") => `(tactic| (first | assumption | (refine ne_sym ?_; assumption) | (exact ne_of_none (by assumption) (by assumption)) | (exact ne_sym (ne_of_none (by assumption) (by assumption)))))
local macro_rules | `(tactic| walk_at "h") => `(tactic| (first | assumption | exact upd_same | (refine h_new ?_ (by assumption); walk_at "h") | (refine h_ne (by walk_at "ne") ?_; walk_at "h")))
local macro_rules | `(tactic| walk_at "v1") => `(tactic| (with_reducible first
  | refine i_seq ?_ | refine i_asg ?_ | refine i_ret ?_ | refine i_next ?_ | refine i_drop ?_ | refine i_ifS ?_ | refine i_if ?_ | refine i_and ?_ | refine i_or ?_ | refine i_not ?_ | refine i_test ?_ | refine i_tB ?_ | refine i_bl ?_ | refine i_yes ?_
  | refine i_op ?_ | refine i_un ?_ | refine i_chain ?_ | refine i_andV ?_ | refine i_orV ?_ | refine i_notV ?_ | refine i_cb ?_ | refine i_cons ?_ | refine i_nil ?_ | refine i_bm ?_ | refine i_bm0 ?_ | refine i_c ?_ | refine i_name ?_ | refine i_sub ?_
  | refine i_call ?_ | refine i_lst ?_ | refine i_tup ?_ | refine i_par ?_ | refine i_par2 ?_ | refine i_sl ?_ | refine i_np ?_ | refine i_pt ?_ | refine i_int ?_ | refine i_m0 ?_ | refine i_m1 ?_ | refine i_isS ?_
  | refine i_rI0 ?_ | refine i_inSign ?_ | refine i_notInSign ?_ | refine i_int1 ?_ | refine i_tru ?_ | refine i_isN ?_ | refine i_notN ?_ | refine iteT ?_ | refine iteF ?_ | refine i_brk ?_ | refine i_rt ?_ | refine i_nx ?_ | refine i_bk ?_ | refine i_ct ?_ | refine i_for ?_ | refine i_lc ?_ | refine i_dc ?_ | refine i_iL ?_ | refine i_iT ?_ | refine i_iR1 ?_ | refine i_iR2 ?_ | refine i_iS ?_ | refine i_iE ?_ | refine i_iEK ?_ | refine i_iEQ ?_ | refine i_dget ?_ | refine i_fld ?_ | refine i_sfld ?_ | refine i_dput ?_ | refine i_meth ?_ | refine i_rU ?_ | refine i_cont ?_ | refine i_make ?_))
local macro_rules | `(tactic| walk_at "v2") => `(tactic| (first
  | ((with_reducible refine' i_var ?k1 ?_); (case k1 => exact rfl))
  | ((with_reducible refine' i_eq ?k1 ?_); (case k1 => exact rfl))
  | ((with_reducible refine' i_ne ?k1 ?_); (case k1 => exact rfl))
  | ((with_reducible refine' i_ixL ?k1 ?k2 ?_); (case k1 => walk_at "h"); (case k2 => exact rfl))
  | ((with_reducible refine' i_ixT ?k1 ?k2 ?_); (case k1 => walk_at "h"); (case k2 => exact rfl))
  | ((with_reducible refine' i_lenL ?k1 ?_); (case k1 => walk_at "h"))
  | ((with_reducible refine' i_lenT ?k1 ?_); (case k1 => walk_at "h"))
  | (refine i_wipe (show wipe _ _ = wipe _ _ from rfl) ?_)
  | ((with_reducible refine' i_setL ?k1 ?k2 ?_); (case k1 => walk_at "h"); (case k2 => exact rfl))
  | ((with_reducible refine' i_tyl ?k1 ?_); (case k1 => walk_at "h"))))
local macro_rules | `(tactic| walk_at "v") => `(tactic| repeat (first | walk_at "v1" | walk_at "v2"))

variable {P : Program} {w : World} {K :
      PySem.W.Frag} {mg : Str → Option Value} {base : Heap}
abbrev sBadRows___init__ : Stmt := inClass (top 5) 0
abbrev NBadRows___init__ : List Str := ["self", "index"]
abbrev PBadRows___init__ : List Str := ["self", "index"]
theorem scBadRows___init__ : FnScope NBadRows___init__ PBadRows___init__ (defScope sBadRows___init__) := ⟨rfl, rfl, rfl, by decide +kernel, rfl, by decide +kernel, by decide +kernel⟩
abbrev sBadText___init__ : Stmt := inClass (top 6) 0
abbrev NBadText___init__ : List Str := ["self", "line"]
abbrev PBadText___init__ : List Str := ["self", "line"]
theorem scBadText___init__ : FnScope NBadText___init__ PBadText___init__ (defScope sBadText___init__) := ⟨rfl, rfl, rfl, by decide +kernel, rfl, by decide +kernel, by decide +kernel⟩
abbrev sread_rows : Stmt := top 28
abbrev Nread_rows : List Str := ["log", "text", "line", "one"]
abbrev Pread_rows : List Str := ["log", "text"]
theorem scread_rows : FnScope Nread_rows Pread_rows (defScope sread_rows) := ⟨rfl, rfl, rfl, by decide +kernel, rfl, by decide +kernel, by decide +kernel⟩
abbrev srows_text : Stmt := top 25
abbrev Nrows_text : List Str := ["log", "rows", "found", "index", "thing", "row"]
abbrev Prows_text : List Str := ["log", "rows"]
theorem scrows_text : FnScope Nrows_text Prows_text (defScope srows_text) := ⟨rfl, rfl, rfl, by decide +kernel, rfl, by decide +kernel, by decide +kernel⟩
/-- an own exception class with one field, in one bundle -/
structure ExB (K : PySem.W.Frag) (mg : Str → Option Value) (x fld qual : Str) (st : Stmt) (ps : List Str) where
  C : Addr
  f : Addr
  fd : FuncData
  T : OexC K C
  g : mg x = some (.ref C)
  iC : PySem.W.findIn K (.ref C) "__init__" = some (some (.ref f))
  tI : PySem.W.typeIn K (.ref f) = some (.type "function")
  F : Fun K "__init__" qual st f fd
  b : Binds K fd ps []
  no : PySem.W.findIn K (.ref C) fld = some none
  xf : XfC K C
def spExInit (C : Addr) (fld : Str) : Sp := fun vs H Q _ => ∃ (a : Addr) (y : V), vs = [.ref a, y] ∧ H a = some (exo a C none) ∧ ∀ dx, H dx = none → dx ≠ a → Q .non (upd (upd H dx (exd dx [(fld, y)])) a (exo a C (some dx)))
abbrev ExRows (K : PySem.W.Frag) (mg : Str → Option Value) := ExB K mg "BadRows" "index" "BadRows.__init__" sBadRows___init__ PBadRows___init__
abbrev ExText (K : PySem.W.Frag) (mg : Str → Option Value) := ExB K mg "BadText" "line" "BadText.__init__" sBadText___init__ PBadText___init__
theorem ok_exrows (d : ExRows K mg) : FnOk P w K mg base CX0 1 d.f d.fd PBadRows___init__ (spExInit d.C "index") := by
  refine d.F.ok scBadRows___init__ (fun vs H Q E h => ?_) (fun cdv A outer s H vs Q E hr h => ?_)
  · obtain ⟨a, y, rfl, _⟩ := h
    rfl
  · obtain ⟨a, y, rfl, ha, k⟩ := h
    refine ⟨_, (pss_one (ps_ost (pv 0) (pv 1))), ?_⟩
    exact ⟨_, rfl, _, rfl, a, d.C, rfl, d.T, d.no, .inl ⟨ha, k⟩⟩
theorem ok_extext (d : ExText K mg) : FnOk P w K mg base CX0 1 d.f d.fd PBadText___init__ (spExInit d.C "line") := by
  refine d.F.ok scBadText___init__ (fun vs H Q E h => ?_) (fun cdv A outer s H vs Q E hr h => ?_)
  · obtain ⟨a, y, rfl, _⟩ := h
    rfl
  · obtain ⟨a, y, rfl, ha, k⟩ := h
    refine ⟨_, (pss_one (ps_ost (pv 0) (pv 1))), ?_⟩
    exact ⟨_, rfl, _, rfl, a, d.C, rfl, d.T, d.no, .inl ⟨ha, k⟩⟩
/-- the raise of such an exception: its dict stands at d -/
theorem i_raise {σ : L2.St} {H : Hp} {C : Addr} {fld : Str} {ta : TA} {W : XK} {y : V} {H1 : Hp} (h : ta σ H fun vs H2 => vs = [y] ∧ H2 = H1) (mono : ∀ (R R' : List V → Hp → Prop), (∀ vs H, R vs H → R' vs H) → ta σ H R → ta σ H R')
    (q : ∀ d, H1 d = none → W (.ref C) (some d) (upd H1 d (.xd [(fld, y)]))) : tMkO C (spExInit C fld) [] ta σ H W := by
  refine mono _ _ (fun vs H2 z => ?_) h
  obtain ⟨rfl, rfl⟩ := z
  refine ⟨by simp, fun a ha => ⟨a, y, rfl, upd_same, fun dx hdx dne => ?_⟩⟩
  have hdx' : H2 dx = none := by rw [upd_ne dne] at hdx; exact hdx
  refine ⟨rfl, dx, [(fld, y)], upd_same, by rw [upd_ne dne]; exact upd_same, hdx', ?_⟩
  have e : upd (del (upd (upd (upd H2 a (exo a C none)) dx (exd dx [(fld, y)])) a (exo a C (some dx))) a) dx (.xd [(fld, y)]) = upd H2 dx (.xd [(fld, y)]) := by
    funext b
    by_cases h1 : b = dx
    · subst h1; rw [upd_same, upd_same]
    · rw [upd_ne h1, upd_ne h1]
      by_cases h2 : b = a
      · subst h2; rw [del_same, ha]
      · rw [del_ne h2, upd_ne h2, upd_ne h1, upd_ne h2]
  rw [e]
  exact q dx hdx'
abbrev FdRowsFault (K : PySem.W.Frag) (mg : Str → Option Value) := Fd K mg "rows_fault" srows_fault Prows_fault
theorem told_of {L : LG} : ∀ {ls : List Str}, (∀ y ∈ ls, parse L (words y) ≠ none) → ∃ rs : List Rw, ls.map (fun x => parse L (words x)) = rs.map some
  | [], _ => ⟨[], rfl⟩
  | x :: ls, h => by
    obtain ⟨rs, e⟩ := told_of (L := L) (ls := ls) (fun y hy => h y (by simp [hy]))
    cases e0 : parse L (words x) with
    | none => exact absurd e0 (h x (by simp))
    | some r => exact ⟨r :: rs, by simp [e0, e]⟩
def spReadRows (C CE : Addr) : Sp := fun vs H Q E => ∃ (S : List Addr) (L : LG) (p : Addr) (d : PyData) (v : V), vs = [.ref p, v] ∧ LogAt [] C H p L ∧ L.Ok ∧ Dt S H d v ∧ (∀ z, d = .str z → z.length ≤ 1000000 ∧ (lines z).length ≤ 1000) ∧
  (∀ (z : Str) (ls : List Str) (rs : List Rw), d = .str z → lines z = ls ++ [("" : Str)] → ls.map (fun x => parse L (words x)) = rs.map some → ∀ q H', New H H' (.list (rs.map rwD)) (.ref q) → Same H H' → Q (.ref q) H') ∧
  (∀ z n, d = .str z → faultO L z = some n → ∀ dd H', H' dd = some (.xd [(("line" : Str), .int (n : Nat))]) → Same H H' → E (.ref CE) (some dd) H') ∧
  (isK "str" d = false → ∀ dd H', H' dd = some (.xd [(("line" : Str), .int 0)]) → Same H H' → E (.ref CE) (some dd) H')
theorem ok_readrows {C : Addr} (cLog : LogCls K mg C) (iLog : InsC K C) (eBadText : ExText K mg) (d : Fd K mg "read_rows" sread_rows Pread_rows) (drows_fault : FdRowsFault K mg) (dneed_log : FdNeedLog K mg) (dlines_in : FdLinesIn K mg) (drow_in : FdRowIn K mg) (dwords_in : FdWordsIn K mg) (dnumber_in : FdNumIn K mg) (drow_of : FdRowOf K mg) (dis_between : FdBetween K mg) (B : Blt mg) :
    FnOk P w K mg base (L2.CX P w) 5 d.f d.fd Pread_rows (spReadRows C eBadText.C) := by
  have Grows_fault : FnOk P w K mg base CX0 4 drows_fault.f drows_fault.fd Prows_fault (spRowsFault C) := ok_rowsfault cLog iLog drows_fault dneed_log dlines_in drow_in dwords_in dnumber_in drow_of dis_between B
  have Glines_in : FnOk P w K mg base CX0 1 dlines_in.f dlines_in.fd Plines_in spLinesIn := ok_linesin dlines_in B
  have Grow_in : FnOk P w K mg base CX0 3 drow_in.f drow_in.fd Prow_in (spRowIn C) := ok_rowin cLog drow_in dwords_in dnumber_in drow_of dis_between B
  have GeBadText : FnOk P w K mg base CX0 1 eBadText.f eBadText.fd PBadText___init__ (spExInit eBadText.C "line") := ok_extext eBadText
  refine d.F.okX scread_rows (fun vs H Q E h => ?_) (fun cdv A outer s H vs Q E hr h => ?_)
  · obtain ⟨S, L, p, d, v, rfl, _⟩ := h
    rfl
  · obtain ⟨S, L, p, d, v, rfl, la, ok, hd, hz, kg, kb, k0⟩ := h
    refine ⟨_, (pss_cons (ps_set (i := 2) scread_rows.nd rfl (by first | exact Or.inl rfl | exact Or.inr rfl) (pe_call Grows_fault (hr.mono (by decide)) (by rfl) drows_fault.g drows_fault.F.kp drows_fault.b .nil pass0 (pa_cons (pv 0) (pa_cons (pv 1) pa_nil))))
      (pss_cons (ps_if (pt_cmpR o_notN (pv 2) pe_non (nomark _)) (pss_one (ps_raise rfl (takes_of rfl rfl rfl rfl) (pmk_oex eBadText.T eBadText.iC eBadText.tI GeBadText (hr.mono (by decide)) eBadText.b .nil pass0 (by rfl) eBadText.g (by exact (pa_cons (pv 2) pa_nil))))) pss_nil)
      (pss_one (ps_ret (pe_lc (own := [("one", 3)]) (g := gName 3) (tt := tYes) rfl scread_rows.nd (w_list K (pe_ix (x_tup K) (pe_call Glines_in (hr.mono (by decide)) (by rfl) dlines_in.g dlines_in.F.kp dlines_in.b .nil pass0 (pa_cons (pv 1) pa_nil)) pe_int (fun _ _ => rfl))) (blkOk_by (own := [("one", 3)]) (N := Nread_rows) (sc := defScope sread_rows) (by decide +kernel)) (fun _ _ _ _ _ => by exact (pg_name (i := 3) scread_rows.nd rfl (by first | exact Or.inl rfl | exact Or.inr rfl))) (fun _ _ _ _ _ => pts_nil) (fun _ _ _ _ _ => by exact (pe_call Grow_in (hr.mono (by decide)) (by rfl) drow_in.g drow_in.F.kp drow_in.b .nil pass0 (pa_cons (pv 0) (pa_cons (pv 3) pa_nil))))))))), ?_⟩
    walk_at "v"
    refine ⟨S, L, p, d, v, rfl, la, ok, hd, fun z e => ⟨(hz z e).1, fun H1 s1 => ?_⟩, fun ns H1 s1 => ?_⟩
    · subst e
      have ev : v = .str z := by unfold Dt at hd; exact hd
      subst ev
      obtain ⟨hz1, hz2⟩ := hz z rfl
      walk_at "v"
      cases ef : faultO L z with
      | some n =>
        refine ifn (fun _ => ?_) (fun h => by cases h)
        exact i_raise (y := .int (n : Nat)) (H1 := H1) ⟨_, rfl, rfl, rfl⟩ (fun R R' h ⟨v, e, q⟩ => ⟨v, e, h _ _ q⟩) (fun d hd => kb z n rfl ef d _ upd_same (s1.new hd))
      | none =>
        refine ifn (fun h => absurd rfl h) (fun _ => ?_)
        walk_at "v"
        refine ⟨z, rfl, hz1, fun ls l t q1 H2 el ht hq s2 => ?_⟩
        rw [faultO_of el] at ef
        have lsl : ls.length ≤ 1000 := by rw [el] at hz2; simp at hz2; omega
        cases efl : faultL L ls 0 with
        | some i => rw [efl] at ef; cases ef
        | none =>
          rw [efl] at ef
          have el0 : l = ("" : Str) := by
            by_cases h : l = ("" : Str)
            · exact h
            · simp only [if_neg h] at ef; cases ef
          subst el0
          have okl := faultL_ok efl
          obtain ⟨rs, ers⟩ := told_of okl
          have lrs : rs.length = ls.length := by have := congrArg List.length ers; simpa using this.symm
          have lsz : ∀ x ∈ ls, x.length ≤ 1000000 := fun x hx => Nat.le_trans (len_sum_split tl_nln (by decide) x (by show x ∈ lines z; rw [el]; simp [hx])) hz1
          walk_at "v"
          refine w_lst hq ?_
          have la2 := (la.same s1).same s2
          refine lc_by (walk_list (xs := ls.map V.str)) fun D hD => ⟨fun i H' => Acc [] H2 H' D ((rs.take i).map rwD), Acc.start (Keep.refl _ _) hD, fun i H' _ ac => SqL.of (ac.kp.same _ _ hq), ?_, ?_⟩
          · rintro i x H3 H4 hi ac ⟨rfl, hx⟩
            rw [List.getElem?_map] at hx
            obtain ⟨x, hxi, rfl⟩ := Option.map_eq_some_iff.mp hx
            have hil : i < rs.length := by rw [lrs]; simpa using hi
            have hri : rs[i]? = some rs[i] := by simp [hil]
            have epr : parse L (words x) = some rs[i] := by
              have e1 : (ls.map fun x => parse L (words x))[i]? = (rs.map some)[i]? := by rw [ers]
              rw [List.getElem?_map, List.getElem?_map, hxi, hri] at e1
              exact Option.some.inj e1
            walk_at "v"
            refine ⟨L, p, x, rfl, la2.same ac.kp.same, ok, lsz x (List.mem_of_getElem? hxi), fun r er t' H5 nt s5 => ?_, fun en => ?_⟩
            · rw [epr] at er
              cases er
              obtain ⟨acc, ea, la', _⟩ := id ac.ex
              obtain ⟨e5, ac5⟩ := ac.step trk_nil ea nt.toM (Keep.of_same s5)
              refine ⟨acc, e5, ?_, ?_⟩
              · rw [la', List.length_map, List.length_take]; exact small1000 (by omega)
              · show Acc [] H2 _ D ((rs.take (i + 1)).map rwD)
                rw [List.take_succ, hri, List.map_append]; exact ac5
            · rw [epr] at en; cases en
          · rintro H3 ac
            rw [List.length_map, ← lrs, List.take_length] at ac
            walk_at "v"
            exact kg z ls rs rfl el ers D H3 (fun S' t => ac.done S' ((t.same s1).same s2) (fun _ h => nomatch h)) ((s1.trans s2).trans ac.kp.same)
    · walk_at "v"
      refine ifn (fun _ => ?_) (fun h => by cases h)
      exact i_raise (y := .int 0) (H1 := H1) ⟨_, rfl, rfl, rfl⟩ (fun R R' h ⟨v, e, q⟩ => ⟨v, e, h _ _ q⟩) (fun d hd => k0 ns d _ upd_same (s1.new hd))
end Lr
set_option Elab.async false
set_option linter.all false
set_option maxRecDepth 100000
set_option maxHeartbeats 4000000
namespace Lr
open PySem PySem.Spec PyProof.Rows L2 TL
open C8 (InsC call_isC)
local macro_rules | `(tactic| walk_at "ne") => `(tactic| (first | assumption | (refine ne_sym ?_; assumption) | (exact ne_of_none (by assumption) (by assumption)) | (exact ne_sym (ne_of_none (by assumption) (by assumption)))))
local macro_rules | `(tactic| walk_at "h") => `(tactic| (first | assumption | exact upd_same | (refine h_new ?_ (by assumption); walk_at "h") | (refine h_ne (by walk_at "ne") ?_; walk_at "h")))
local macro_rules | `(tactic| walk_at "v1") => `(tactic| (with_reducible first
  | refine i_seq ?_ | refine i_asg ?_ | refine i_ret ?_ | refine i_next ?_ | refine i_drop ?_ | refine i_ifS ?_ | refine i_if ?_ | refine i_and ?_ | refine i_or ?_ | refine i_not ?_ | refine i_test ?_ | refine i_tB ?_ | refine i_bl ?_ | refine i_yes ?_
  | refine i_op ?_ | refine i_un ?_ | refine i_chain ?_ | refine i_andV ?_ | refine i_orV ?_ | refine i_notV ?_ | refine i_cb ?_ | refine i_cons ?_ | refine i_nil ?_ | refine i_bm ?_ | refine i_bm0 ?_ | refine i_c ?_ | refine i_name ?_ | refine i_sub ?_
  | refine i_call ?_ | refine i_lst ?_ | refine i_tup ?_ | refine i_par ?_ | refine i_par2 ?_ | refine i_sl ?_ | refine i_np ?_ | refine i_pt ?_ | refine i_int ?_ | refine i_m0 ?_ | refine i_m1 ?_ | refine i_isS ?_
  | refine i_rI0 ?_ | refine i_inSign ?_ | refine i_notInSign ?_ | refine i_int1 ?_ | refine i_tru ?_ | refine i_isN ?_ | refine i_notN ?_ | refine iteT ?_ | refine iteF ?_ | refine i_brk ?_ | refine i_rt ?_ | refine i_nx ?_ | refine i_bk ?_ | refine i_ct ?_ | refine i_for ?_ | refine i_lc ?_ | refine i_dc ?_ | refine i_iL ?_ | refine i_iT ?_ | refine i_iR1 ?_ | refine i_iR2 ?_ | refine i_iS ?_ | refine i_iE ?_ | refine i_iEK ?_ | refine i_iEQ ?_ | refine i_dget ?_ | refine i_fld ?_ | refine i_sfld ?_ | refine i_dput ?_ | refine i_meth ?_ | refine i_rU ?_ | refine i_cont ?_ | refine i_make ?_))
local macro_rules | `(tactic| walk_at "v2") => `(tactic| (first
  | ((with_reducible refine' i_var ?k1 ?_); (case k1 => exact rfl))
  | ((with_reducible refine' i_eq ?k1 ?_); (case k1 => exact rfl))
  | ((with_reducible refine' i_ne ?k1 ?_); (case k1 => exact rfl))
  | ((with_reducible refine' i_ixL ?k1 ?k2 ?_); (case k1 => walk_at "h"); (case k2 => exact rfl))
  | ((with_reducible refine' i_ixT ?k1 ?k2 ?_); (case k1 => walk_at "h"); (case k2 => exact rfl))
  | ((with_reducible refine' i_lenL ?k1 ?_); (case k1 => walk_at "h"))
  | ((with_reducible refine' i_lenT ?k1 ?_); (case k1 => walk_at "h"))
  | (refine i_wipe (show wipe _ _ = wipe _ _ from rfl) ?_)
  | ((with_reducible refine' i_setL ?k1 ?k2 ?_); (case k1 => walk_at "h"); (case k2 => exact rfl))
  | ((with_reducible refine' i_tyl ?k1 ?_); (case k1 => walk_at "h"))))
local macro_rules | `(tactic| walk_at "v") => `(tactic| repeat (first | walk_at "v1" | walk_at "v2"))

variable {P : Program} {w : World} {K :
      PySem.W.Frag} {mg : Str → Option Value} {base : Heap}
def textOf (L : LG) (rs : List Rw) : Str := Txt.join ("" : Str) (rs.map fun r => lineOf L r ++ NLN)
theorem line_len {L : LG} (ok : L.Ok) {r : Rw} (h : Vd L r) : (lineOf L r).length ≤ 21 := by
  have pl := (nameB_len (ok.name _ (h.page ok))).2
  have fl := firstW_short ok h
  have l1 : SPC.length = 1 := by decide
  rw [lineOf_eq]
  have ll : (lastT r.over).length ≤ 8 := by
    cases e : r.over with
    | none => exact (by decide : (lastT none).length ≤ 8)
    | some j =>
      have jl := numW_short (h.small ok e)
      have l5 : ("over " : Str).length = 5 := by decide
      show (("over " : Str) ++ numW j).length ≤ 8
      rw [len_app]; omega
  rw [len_app, len_app, len_app, len_app]; omega
def Rows (L : LG) (ks : List PyData) (rs : List Rw) : Prop := ks.length = rs.length ∧ ∀ (i : Nat) k r, ks[i]? = some k → rs[i]? = some r → RowIs L k r
def spRowsText (C CE : Addr) : Sp := fun vs H Q E => ∃ (S : List Addr) (L : LG) (p : Addr) (d : PyData) (v : V), vs = [.ref p, v] ∧ LogAt [] C H p L ∧ L.Ok ∧ Dt S H d v ∧ (kids d).length ≤ 1000 ∧
  (∀ rs, (isK "list" d || isK "tuple" d) = true → Rows L (kids d) rs → ∀ H', Same H H' → Q (.str (textOf L rs)) H') ∧
  (∀ (n : Nat) k rs, (isK "list" d || isK "tuple" d) = true → (kids d)[n]? = some k → (∀ r, ¬ RowIs L k r) → Rows L ((kids d).take n) rs → ∀ dd H', H' dd = some (.xd [(("index" : Str), .int (n : Nat))]) → Same H H' → E (.ref CE) (some dd) H') ∧
  ((isK "list" d || isK "tuple" d) = false → ∀ dd H', H' dd = some (.xd [(("index" : Str), .int 0)]) → Same H H' → E (.ref CE) (some dd) H')
abbrev FdRowLine (K : PySem.W.Frag) (mg : Str → Option Value) := Fd K mg "row_line" srow_line Prow_line
theorem ok_rowstext {C : Addr} (cLog : LogCls K mg C) (iLog : InsC K C) (eBadRows : ExRows K mg) (d : Fd K mg "rows_text" srows_text Prows_text) (dneed_log : FdNeedLog K mg) (drow_line : FdRowLine K mg) (drow_of : FdRowOf K mg) (dis_between : FdBetween K mg) (B : Blt mg) :
    FnOk P w K mg base (L2.CX P w) 5 d.f d.fd Prows_text (spRowsText C eBadRows.C) := by
  have Gneed_log : FnOk P w K mg base CX0 1 dneed_log.f dneed_log.fd Pneed_log (spNeedLog C) := ok_needlog cLog iLog dneed_log B
  have Grow_of : FnOk P w K mg base CX0 2 drow_of.f drow_of.fd Prow_of (spRowOf C) := ok_rowof cLog drow_of dis_between B
  have Grow_line : FnOk P w K mg base CX0 1 drow_line.f drow_line.fd Prow_line (spRowLine C) := ok_rowline cLog drow_line B
  have GeBadRows : FnOk P w K mg base CX0 1 eBadRows.f eBadRows.fd PBadRows___init__ (spExInit eBadRows.C "index") := ok_exrows eBadRows
  refine d.F.okX scrows_text (fun vs H Q E h => ?_) (fun cdv A outer s H vs Q E hr h => ?_)
  · obtain ⟨S, L, p, d, v, rfl, _⟩ := h
    rfl
  · obtain ⟨S, L, p, d, v, rfl, la, ok, hd, hz, kg, kb, k0⟩ := h
    refine ⟨_, (pss_cons (ps_expr (pe_call Gneed_log (hr.mono (by decide)) (by rfl) dneed_log.g dneed_log.F.kp dneed_log.b .nil pass0 (pa_cons (pv 0) pa_nil)))
      (pss_cons (ps_if (pt_not (pt_val (pe_callB (c_isiT K) (by rfl) B.isinstance (by decide +kernel) (pa_cons (pv 1) (pa_cons (pe_tup (pa_cons (e_ty "list" B.list (by decide +kernel)) (pa_cons (e_ty "tuple" B.tuple (by decide +kernel)) pa_nil))) pa_nil))))) (pss_one (ps_raise rfl (takes_of rfl rfl rfl rfl) (pmk_oex eBadRows.T eBadRows.iC eBadRows.tI GeBadRows (hr.mono (by decide)) eBadRows.b .nil pass0 (by rfl) eBadRows.g (by exact (pa_cons pe_int pa_nil))))) pss_nil)
      (pss_cons (ps_set (i := 2) scrows_text.nd rfl (by first | exact Or.inl rfl | exact Or.inr rfl) (pe_lst pa_nil))
      (pss_cons (ps_for (passes_of rfl) rfl (w_enumQ K (by rfl) B.enumerate (pa_cons (pv 1) pa_nil)) (g_tup K (n := 2) rfl (pgs_cons (pg_name (i := 3) scrows_text.nd rfl (by first | exact Or.inl rfl | exact Or.inr rfl)) (pgs_cons (pg_name (i := 4) scrows_text.nd rfl (by first | exact Or.inl rfl | exact Or.inr rfl)) pgs_nil)))
      (pss_cons (ps_set (i := 5) scrows_text.nd rfl (by first | exact Or.inl rfl | exact Or.inr rfl) (pe_call Grow_of (hr.mono (by decide)) (by rfl) drow_of.g drow_of.F.kp drow_of.b .nil pass0 (pa_cons (pv 0) (pa_cons (pv 4) pa_nil))))
      (pss_cons (ps_if (pt_cmpR o_isN (pv 5) pe_non (nomark _)) (pss_one (ps_raise rfl (takes_of rfl rfl rfl rfl) (pmk_oex eBadRows.T eBadRows.iC eBadRows.tI GeBadRows (hr.mono (by decide)) eBadRows.b .nil pass0 (by rfl) eBadRows.g (by exact (pa_cons (pv 3) pa_nil))))) pss_nil)
      (pss_one (ps_expr (e_bm K PySem.F.plainAttrs_list PySem.F.slot_list_append PySem.F.type_list_append mt_append (pv 2) (pa_cons (pe_call Grow_line (hr.mono (by decide)) (by rfl) drow_line.g drow_line.F.kp drow_line.b .nil pass0 (pa_cons (pv 0) (pa_cons (pv 5) pa_nil))) pa_nil)))))))
      (pss_one (ps_ret (pe_m1 PySem.F.slot_str_join PySem.F.type_str_join (m_join K) pe_str (pv 2)))))))), ?_⟩
    obtain ⟨_, dx, tn, lr, dw, ln, kvs, q, hp, _⟩ := id la
    walk_at "v"
    refine ⟨p, dx, _, rfl, hp, ?_⟩
    walk_at "v"
    refine ⟨show 2 ≤ sizeLine by decide, fun tp htp => ?_⟩
    have s1 : Same H (upd H tp (.tup [.ty "list", .ty "tuple"])) := (Same.refl H).new htp
    walk_at "v"
    refine i_isLT (hd.same s1) upd_same ?_
    obtain ⟨H1, e1⟩ : ∃ H1, H1 = upd H tp (.tup [.ty "list", .ty "tuple"]) := ⟨_, rfl⟩
    rw [← e1] at s1 ⊢
    clear e1
    walk_at "v"
    cases hs : (isK "list" d || isK "tuple" d) with
    | false =>
      refine iteT ?_
      exact i_raise (y := .int 0) (H1 := H1) ⟨rfl, rfl⟩ (fun R R' h q => h _ _ q) (fun dd hdd => k0 hs dd _ upd_same (s1.new hdd))
    | true =>
      refine iteF ?_
      obtain ⟨a, o, xs, ho, rfl, ha, na, dk⟩ := (hd.same s1).row hs
      have lx := dk.length
      walk_at "v"
      refine ⟨show 0 ≤ sizeLine by decide, fun fl hfl => ?_⟩
      walk_at "v"
      refine ⟨a, xs, o, rfl, ho, h_new ha hfl, fun J wk => ?_⟩
      refine for_by wk ⟨fun i σ H' => (∃ v3 v4 v5 : Option V, σ = [some (.ref p), some (.ref a), some (.ref fl), v3, v4, v5]) ∧ Same H1 H' ∧ ∃ rs, Rows L ((kids d).take i) rs ∧ H' fl = some (.lst ((rs.map fun r => lineOf L r ++ NLN).map V.str)), ?_, fun i σ H' _ ⟨_, z, _⟩ => z _ _ ha, ?_, ?_⟩
      · exact ⟨⟨_, _, _, rfl⟩, (Same.refl _).new hfl, [], ⟨by simp, by simp⟩, upd_same⟩
      · rintro i x σ H2 H3 hi ⟨⟨v3, v4, v5, rfl⟩, s3, rs, hrs, hf⟩ ⟨T, y0, y, rfl, hT, rfl, e0, hy⟩
        obtain rfl : y0 = .int ((0 : Int) + (i : Nat)) := (Option.some.inj e0).symm
        obtain ⟨k, gk, zk⟩ := dk.get' hy
        have hil : i < (kids d).length := by omega
        have lrs : rs.length = i := by have := hrs.1; rw [List.length_take] at this; omega
        refine g_two upd_same ?_
        have s4 : Same H2 (upd H2 T (.tup [.int ((0 : Int) + (i : Nat)), y])) := (Same.refl _).new hT
        obtain ⟨H3, e3⟩ : ∃ H3, H3 = upd H2 T (.tup [.int ((0 : Int) + (i : Nat)), y]) := ⟨_, rfl⟩
        rw [← e3] at s4 ⊢
        clear e3
        have s34 := s3.trans s4
        walk_at "v"
        refine ⟨S, L, p, k, y, rfl, la.same (s1.trans s34), ok, zk.same s34, fun r ri t H4 nt s5 => ?_, fun no H4 s5 => ?_⟩
        · walk_at "v"
          refine ifd (fun h => by cases h) (fun _ => ?_)
          walk_at "v"
          have hf4 := s5 _ _ (s4 _ _ hf)
          refine i_tyl hf4 ?_
          walk_at "v"
          refine ⟨[], L, p, t, r, rfl, la.same ((s1.trans s34).trans s5), ok, ri.vd, nt [] trk_nil, ?_⟩
          walk_at "v"
          refine i_app hf4 (by simp only [List.length_map]; exact small1000 (by omega)) ?_
          refine ⟨⟨_, _, _, rfl⟩, (s34.trans s5).put hfl, rs ++ [r], ⟨?_, fun j k' r' h1 h2 => ?_⟩, by rw [List.map_append, List.map_append]; exact upd_same⟩
          · simp [lrs]; omega
          · rcases Nat.lt_or_ge j i with hj | hj
            · refine hrs.2 j k' r' ?_ (by rw [List.getElem?_append_left (by omega)] at h2; exact h2)
              rw [List.getElem?_take] at h1 ⊢
              rw [if_pos hj]; rw [if_pos (by omega)] at h1; exact h1
            · have ej : j = i := by
                have := (List.getElem?_eq_some_iff.mp h2).1
                simp [lrs] at this; omega
              subst ej
              rw [List.getElem?_append_right (by omega), lrs] at h2
              simp at h2; subst h2
              rw [List.getElem?_take, if_pos (by omega), gk] at h1
              cases h1
              exact ri
        · walk_at "v"
          refine ifd (fun _ => ?_) (fun h => absurd rfl h)
          have e1 : (0 : Int) + (i : Nat) = ((i : Nat) : Int) := by omega
          refine i_raise (y := .int ((0 : Int) + (i : Nat))) (H1 := H4) ⟨_, rfl, rfl, rfl⟩ (fun R R' h ⟨v, e, q⟩ => ⟨v, e, h _ _ q⟩) (fun dd hdd => ?_)
          rw [e1]
          exact kb i k rs hs gk no hrs dd _ upd_same (((s1.trans s34).trans s5).new hdd)
      · rintro σ H2 ⟨⟨v3, v4, v5, rfl⟩, s3, rs, hrs, hf⟩
        rw [lx, List.take_length] at hrs
        walk_at "v"
        have vds : ∀ r ∈ rs, Vd L r := fun r hr => by
          obtain ⟨j, hj, e⟩ := List.getElem_of_mem hr
          have hjk : j < (kids d).length := by rw [hrs.1]; exact hj
          exact (hrs.2 j (kids d)[j] r (by simp [hjk]) (by rw [← e]; simp)).vd
        have sums : ∀ l : List Rw, (∀ r ∈ l, Vd L r) → ((l.map fun r => lineOf L r ++ NLN).map (·.length)).sum ≤ 22 * l.length := by
          intro l
          induction l with
          | nil => intro _; simp
          | cons r l ih =>
            intro h
            have h1 := line_len ok (h r (by simp))
            have h2 := ih (fun z hz => h z (by simp [hz]))
            have l1 : NLN.length = 1 := by decide
            simp only [List.map_cons, List.sum_cons, List.length_cons, len_app]
            simp only [List.map_map] at h2 ⊢
            omega
        have l0 : ("" : Str).length = 0 := by decide
        have h1000 : rs.length ≤ 1000 := by rw [← hrs.1]; exact hz
        refine i_join hf ?_ ?_
        · have := sums rs vds
          rw [l0]; omega
        · exact kg rs hs hrs _ (s1.trans s3)
end Lr
set_option Elab.async false
set_option linter.all false
set_option maxRecDepth 100000
set_option maxHeartbeats 4000000
namespace Lr
open PySem PySem.Spec PyProof.Rows L2 TL
open C8 (InsC call_isC)
local macro_rules | `(tactic| walk_at "ne") => `(tactic| (first | assumption | (refine ne_sym ?_; assumption) | (exact ne_of_none (by assumption) (by assumption)) | (exact ne_sym (ne_of_none (by assumption) (by assumption)))))
local macro_rules | `(tactic| walk_at "h") => `(tactic| (first | assumption | exact upd_same | (refine h_new ?_ (by assumption); walk_at "h") | (refine h_ne (by walk_at "ne") ?_; walk_at "h")))
local macro_rules | `(tactic| walk_at "v1") => `(tactic| (with_reducible first
  | refine i_seq ?_ | refine i_asg ?_ | refine i_ret ?_ | refine i_next ?_ | refine i_drop ?_ | refine i_ifS ?_ | refine i_if ?_ | refine i_and ?_ | refine i_or ?_ | refine i_not ?_ | refine i_test ?_ | refine i_tB ?_ | refine i_bl ?_ | refine i_yes ?_
  | refine i_op ?_ | refine i_un ?_ | refine i_chain ?_ | refine i_andV ?_ | refine i_orV ?_ | refine i_notV ?_ | refine i_cb ?_ | refine i_cons ?_ | refine i_nil ?_ | refine i_bm ?_ | refine i_bm0 ?_ | refine i_c ?_ | refine i_name ?_ | refine i_sub ?_
  | refine i_call ?_ | refine i_lst ?_ | refine i_tup ?_ | refine i_par ?_ | refine i_par2 ?_ | refine i_sl ?_ | refine i_np ?_ | refine i_pt ?_ | refine i_int ?_ | refine i_m0 ?_ | refine i_m1 ?_ | refine i_isS ?_
  | refine i_rI0 ?_ | refine i_inSign ?_ | refine i_notInSign ?_ | refine i_int1 ?_ | refine i_tru ?_ | refine i_isN ?_ | refine i_notN ?_ | refine iteT ?_ | refine iteF ?_ | refine i_brk ?_ | refine i_rt ?_ | refine i_nx ?_ | refine i_bk ?_ | refine i_ct ?_ | refine i_for ?_ | refine i_lc ?_ | refine i_dc ?_ | refine i_iL ?_ | refine i_iT ?_ | refine i_iR1 ?_ | refine i_iR2 ?_ | refine i_iS ?_ | refine i_iE ?_ | refine i_iEK ?_ | refine i_iEQ ?_ | refine i_dget ?_ | refine i_fld ?_ | refine i_sfld ?_ | refine i_dput ?_ | refine i_meth ?_ | refine i_rU ?_ | refine i_cont ?_ | refine i_make ?_))
local macro_rules | `(tactic| walk_at "v2") => `(tactic| (first
  | ((with_reducible refine' i_var ?k1 ?_); (case k1 => exact rfl))
  | ((with_reducible refine' i_eq ?k1 ?_); (case k1 => exact rfl))
  | ((with_reducible refine' i_ne ?k1 ?_); (case k1 => exact rfl))
  | ((with_reducible refine' i_ixL ?k1 ?k2 ?_); (case k1 => walk_at "h"); (case k2 => exact rfl))
  | ((with_reducible refine' i_ixT ?k1 ?k2 ?_); (case k1 => walk_at "h"); (case k2 => exact rfl))
  | ((with_reducible refine' i_lenL ?k1 ?_); (case k1 => walk_at "h"))
  | ((with_reducible refine' i_lenT ?k1 ?_); (case k1 => walk_at "h"))
  | (refine i_wipe (show wipe _ _ = wipe _ _ from rfl) ?_)
  | ((with_reducible refine' i_setL ?k1 ?k2 ?_); (case k1 => walk_at "h"); (case k2 => exact rfl))
  | ((with_reducible refine' i_tyl ?k1 ?_); (case k1 => walk_at "h"))))
local macro_rules | `(tactic| walk_at "v") => `(tactic| repeat (first | walk_at "v1" | walk_at "v2"))

variable {P : Program} {w : World} {K :
      PySem.W.Frag} {mg : Str → Option Value} {base : Heap}
abbrev s_law_nline : Stmt := top 30
abbrev N_law_nline : List Str := ["log", "row", "reader"]
abbrev P_law_nline : List Str := ["log", "row"]
theorem sc_law_nline : FnScope N_law_nline P_law_nline (defScope s_law_nline) := ⟨rfl, rfl, rfl, by decide +kernel, rfl, by decide +kernel, by decide +kernel⟩
abbrev s_law_nrow_in : Stmt := top 31
abbrev N_law_nrow_in : List Str := ["log", "needs", "words", "reader", "page", "version", "k"]
abbrev P_law_nrow_in : List Str := ["log", "needs", "words"]
theorem sc_law_nrow_in : FnScope N_law_nrow_in P_law_nrow_in (defScope s_law_nrow_in) := ⟨rfl, rfl, rfl, by decide +kernel, rfl, by decide +kernel, by decide +kernel⟩
def spNline : Sp := fun vs H Q _ => ∃ (S T : List Addr) (L : LG) (v : V) (t : Addr) (r : Rw), vs = [v, .ref t] ∧ Dt S H (logD L) v ∧ L.Ok ∧ Vd L r ∧ Dt T H (rwD r) (.ref t) ∧ Q (.str (lineOf L r)) H
theorem ok_nline (d : Fd K mg "_law_nline" s_law_nline P_law_nline) (B : Blt mg) : FnOk P w K mg base CX0 1 d.f d.fd P_law_nline spNline := by
  refine d.F.ok sc_law_nline (fun vs H Q E h => ?_) (fun cdv A outer s H vs Q E hr h => ?_)
  · obtain ⟨S, T, L, v, t, r, rfl, _⟩ := h
    rfl
  · obtain ⟨S, T, L, v, t, r, rfl, hd, ok, vd, hr', k⟩ := h
    refine ⟨_, (pss_cons (ps_set (i := 2) sc_law_nline.nd rfl (by first | exact Or.inl rfl | exact Or.inr rfl) (pe_ifExp (pt_cmpR op_eq (pe_ix (x_tup K) (pv 1) pe_int (fun _ _ => rfl)) (pe_op op_add (pe_callB (c_len K) (by rfl) B.len (by decide +kernel) (pa_cons (pe_ix (x_list K) (pv 0) pe_int (fun _ _ => rfl)) pa_nil)) pe_int) (nomark _)) pe_str (pe_callTy c_strI (by rfl) B.str (by decide +kernel) (pa_cons (pe_ix (x_tup K) (pv 1) pe_int (fun _ _ => rfl)) pa_nil))))
      (pss_one (ps_ret (pe_op o_addS (pe_op o_addS (pe_op o_addS (pv 2) pe_str) (pe_ix (x_tup K) (pv 1) pe_int (fun _ _ => rfl))) (pe_ifExp (pt_cmpR o_isN (pe_ix (x_tup K) (pv 1) pe_int (fun _ _ => rfl)) pe_non (nomark _)) pe_str (pe_op o_addS pe_str (pe_callTy c_strI (by rfl) B.str (by decide +kernel) (pa_cons (pe_ix (x_tup K) (pv 1) pe_int (fun _ _ => rfl)) pa_nil)))))))), ?_⟩
    obtain ⟨lp, q, lr, lrx, rfl, hlp, hq, hlr, dta, nlp, nq, nlr⟩ := hd.logE
    have llr : lrx.length = L.rows.length := by rw [dta.length]; simp
    obtain ⟨x, ht, ex, _⟩ := hr'.rwE
    have pl := (nameB_len (ok.name _ (vd.page ok))).2
    have fl := firstW_short ok vd
    rw [lineOf_eq] at k
    have l1 : SPC.length = 1 := by decide
    have l6 : (" lacks" : Str).length = 6 := by decide
    have l7 : (" over " : Str).length = 6 := by decide
    have e6 : (" lacks" : Str) = SPC ++ ("lacks" : Str) := by decide +kernel
    have e7 : (" over " : Str) = SPC ++ ("over " : Str) := by decide +kernel
    have fin : tRet (tOp rAddS (tOp rAddS (tOp rAddS (tVar 2) (tC (.str SPC))) (tOp (rIxT K) (tVar 1) (tC (V.int 1)))) (tIf (tTest (tOp rIsN (tOp (rIxT K) (tVar 1) (tC (V.int 2))) (tC V.non))) (tC (V.str " lacks")) (tOp rAddS (tC (V.str " over ")) (tCB rStrI (tCons (tOp (rIxT K) (tVar 1) (tC (V.int 2))) tNil)))))
        { nx := fun x H' => Q V.non H', rt := Q } [some (.ref lp), some (.ref t), some (.str (firstW L r.k))] H := by
      walk_at "v"
      refine i_adds (small_of (by omega)) ?_
      walk_at "v"
      refine i_adds (small_of (by rw [len_app]; omega)) ?_
      walk_at "v"
      cases eo : r.over with
      | none =>
        rw [eo] at ex k
        subst ex
        refine iteT ?_
        walk_at "v"
        refine i_adds (small_of (by rw [len_app, len_app]; omega)) ?_
        rw [e6, ← app_assoc]
        exact k
      | some j =>
        rw [eo] at ex k
        subst ex
        have jl := numW_short (vd.small ok eo)
        refine iteF ?_
        walk_at "v"
        refine i_strI (log2_small (vd.small ok eo)) ?_
        rw [toStr_num]
        refine i_adds (small_of (by omega)) ?_
        refine i_adds (small_of (by rw [len_app, len_app, len_app]; omega)) ?_
        rw [e7, app_assoc SPC, ← app_assoc]
        exact k
    walk_at "v"
    have efw : firstW L r.k = if r.k = L.rows.length + 1 then ("end" : Str) else numW r.k := rfl
    refine ifd (fun h => ?_) (fun h => ?_)
    · have hk : r.k = L.rows.length + 1 := by
        have := V.int.inj h
        rw [llr] at this; omega
      rw [if_pos hk] at efw
      rw [efw] at fin
      exact fin
    · have hk : ¬ r.k = L.rows.length + 1 := fun e => h (by rw [llr, e]; congr 1)
      rw [if_neg hk] at efw
      rw [efw] at fin
      walk_at "v"
      refine i_strI (log2_small (vd.k1000 ok)) ?_
      exact fin
theorem Dt.needsE {S : List Addr} {H : Hp} {L : LG} {v : V} (h : Dt S H (needsL L) v) : ∃ nl nx, v = .ref nl ∧ H nl = some (.lst nx) ∧ DtAll S H ((needs L).map needL) nx ∧ nl ∉ S := by
  obtain ⟨a, xs, e, n, h1, h2⟩ := (by unfold needsL Dt at h; exact h : ∃ a xs, v = .ref a ∧ a ∉ S ∧ H a = some (.lst xs) ∧ DtAll S H ((needs L).map needL) xs)
  exact ⟨a, xs, e, h1, h2, n⟩
theorem Dt.needE {S : List Addr} {H : Hp} {l : List (Str × Int)} {v : V} (h : Dt S H (needL l) v) : ∃ nl nx, v = .ref nl ∧ H nl = some (.lst nx) ∧ DtAll S H (l.map pairD) nx ∧ nl ∉ S := by
  obtain ⟨a, xs, e, n, h1, h2⟩ := (by unfold needL Dt at h; exact h : ∃ a xs, v = .ref a ∧ a ∉ S ∧ H a = some (.lst xs) ∧ DtAll S H (l.map pairD) xs)
  exact ⟨a, xs, e, h1, h2, n⟩
theorem Dt.pairE {S : List Addr} {H : Hp} {x : Str} {i : Int} {v : V} (h : Dt S H (pairD (x, i)) v) : ∃ a, v = .ref a ∧ H a = some (.tup [.str x, .int i]) ∧ a ∉ S := by
  obtain ⟨xa, xx, rfl, n, hxa, dxa⟩ := (by unfold pairD Dt at h; exact h : ∃ a xs, v = .ref a ∧ a ∉ S ∧ H a = some (.tup xs) ∧ DtAll S H [.str x, .int i] xs)
  obtain ⟨u1, v1, rfl, q1, dxb⟩ := DtAll.cons_iff.mp dxa
  obtain ⟨u2, v2, rfl, q2, dxc⟩ := DtAll.cons_iff.mp dxb
  obtain rfl := DtAll.nil_iff.mp dxc
  unfold Dt at q1 q2
  subst q1 q2
  exact ⟨xa, rfl, hxa, n⟩
/-- the record that stands at j writes x -/
def Writes (L : LG) (j : Nat) (x : Str) : Prop := ∃ r, L.rows[j]? = some r ∧ x ∈ r.2
theorem wrF_iff {x : Str} : ∀ (t : List Row) (k : Int) (j : Nat), k + (j : Int) + 1 ∈ wrF k x t ↔ ∃ r, t[j]? = some r ∧ x ∈ r.2
  | [], k, j => by simp [wrF]
  | r :: t, k, j => by
    have low : ∀ (t : List Row) (k z : Int), z ∈ wrF k x t → k < z := fun t k z h => (wrF_mem t k z h).1
    have ih : ∀ i : Nat, j = i + 1 → (k + (j : Int) + 1 ∈ wrF (k + 1) x t ↔ ∃ r, t[i]? = some r ∧ x ∈ r.2) := fun i e => by
      rw [← wrF_iff t (k + 1) i, e]
      have : k + ((i + 1 : Nat) : Int) + 1 = k + 1 + (i : Int) + 1 := by omega
      rw [this]
    simp only [wrF]
    cases j with
    | zero =>
      simp only [List.getElem?_cons_zero, Option.some.injEq, exists_eq_left']
      split
      · rename_i h; simp [h]
      · rename_i h
        constructor
        · intro z; have := low t (k + 1) _ z; omega
        · intro z; exact absurd z h
    | succ i =>
      rw [List.getElem?_cons_succ, ← ih i rfl]
      split
      · rw [List.mem_cons]
        constructor
        · rintro (z | z)
          · omega
          · exact z
        · exact .inr
      · exact Iff.rfl
theorem wr_iff {L : LG} {j : Nat} (hj : 1 ≤ j) {x : Str} : (j : Int) ∈ wr L.rows x ↔ Writes L (j - 1) x := by
  have := wrF_iff (x := x) L.rows 0 (j - 1)
  have e : (0 : Int) + ((j - 1 : Nat) : Int) + 1 = (j : Int) := by omega
  rw [e] at this
  exact this
theorem cut_take1 (xs : List V) : cutV xs none (some 1) = xs.take 1 := by
  unfold cutV
  have e1 : HT.sIx xs.length 0 none = 0 := rfl
  have e2 : HT.sIx xs.length xs.length (some 1) = min 1 xs.length := HT.sIx_nat _ _ 1
  rw [e1, e2, List.drop_zero, Nat.sub_zero]
  rcases xs with _ | ⟨a, r⟩
  · rfl
  · simp
theorem cut_drop1 (xs : List V) : cutV xs (some 1) none = xs.drop 1 := by
  unfold cutV
  have e1 : HT.sIx xs.length 0 (some 1) = min 1 xs.length := HT.sIx_nat _ _ 1
  have e2 : HT.sIx xs.length xs.length none = xs.length := rfl
  rw [e1, e2]
  rcases xs with _ | ⟨a, r⟩
  · rfl
  · simp
theorem need_formV {L : LG} (ok : L.Ok) {k : Nat} (h1 : 1 ≤ k) (h2 : k ≤ L.rows.length + 1) : ∃ t ns, (needs L)[k - 1]? = some (standing t ns) ∧ ns.Nodup ∧ (∀ x ∈ ns, x ∈ L.pages) ∧ ns.length ≤ 12 ∧ ∀ x, ver t x ≤ L.rows.length := by
  have most := ok.most
  by_cases e : k = L.rows.length + 1
  · subst e
    exact ⟨L.rows, L.pages, by simpa using needs_end L, ok.nd, fun x h => h, most, fun x => ver_le _ _⟩
  · have hi : k - 1 < L.rows.length := by omega
    have hri : L.rows[k - 1]? = some L.rows[k - 1] := by simp [hi]
    have sub := ok.reads _ (List.mem_of_getElem? hri)
    refine ⟨_, _, needs_at hri, ok.nd.sublist sub, fun x h => sub.subset h, Nat.le_trans sub.length_le most, fun x => ?_⟩
    have := ver_le (L.rows.take (k - 1)) x
    rw [List.length_take] at this
    omega
/-- the first word, as the code has it -/
theorem i_first {L : LG} {k n j : Nat} {σ : L2.St} {H : Hp} {R : VK} (hk : k < 1000) (ln : n = L.rows.length) (e : σ[j]? = some (some (.int (k : Nat)))) (h : R (.str (firstW L k)) H) :
    if decide (V.int (k : Nat) = V.int ((n : Int) + 1)) = true then tC (.str "end") σ H R else tCB rStrI (tCons (tVar j) tNil) σ H R := by
  subst ln
  refine ifd (fun c => ?_) (fun c => ?_)
  · have hk' : k = L.rows.length + 1 := by have := V.int.inj c; omega
    unfold firstW at h
    rw [if_pos hk'] at h
    exact h
  · have hk' : ¬ k = L.rows.length + 1 := fun e => c (by rw [e]; congr 1)
    unfold firstW at h
    rw [if_neg hk'] at h
    exact ⟨_, e, i_strI (log2_small hk) h⟩
theorem depth_l (l : List Str) : PyData.depth (.list (l.map .str)) ≤ 60 := by
  show PyData.depthAll (l.map .str) + 1 ≤ 60
  rw [depth_strs]; decide
theorem need_std {L : LG} (ok : L.Ok) {k : Nat} (h1 : 1 ≤ k) (h2 : k ≤ L.rows.length + 1) : ∃ t ns, (needs L)[k - 1]? = some (standing t ns) ∧ ns.Nodup ∧ (∀ x ∈ ns, x ∈ L.pages) ∧ ns.length ≤ 12 ∧ (∀ x, ver t x ≤ L.rows.length) ∧ ∀ {r}, r.k = k → (Vd L r ↔ r.page ∈ ns ∧ OvOk L r.page (ver t r.page) r.over) := by
  obtain ⟨t, ns, en, nd, nsp, nl, hv⟩ := need_formV ok h1 h2
  refine ⟨t, ns, en, nd, nsp, nl, hv, fun {r} e => ?_⟩
  have eno : needOf L r.k = standing t ns := by unfold needOf; rw [e, en]; rfl
  constructor
  · intro vd
    obtain ⟨v, hv, ho⟩ := vd.ex
    rw [eno] at hv
    unfold standing at hv
    simp only [List.mem_map, Prod.mk.injEq] at hv
    obtain ⟨y, hy, rfl, rfl⟩ := hv
    exact ⟨hy, ho⟩
  · rintro ⟨hy, ho⟩
    refine ⟨by omega, by omega, ver t r.page, ?_, ho⟩
    rw [eno]; unfold standing
    exact List.mem_map.mpr ⟨r.page, hy, rfl⟩
def spNrowIn : Sp := fun vs H Q _ => ∃ (S T U : List Addr) (L : LG) (v vn : V) (W : Addr) (ws : List Str), vs = [v, vn, .ref W] ∧ Dt S H (logD L) v ∧ L.Ok ∧ Dt T H (needsL L) vn ∧ H W = some (.lst (ws.map V.str)) ∧
  (∀ r, parse L ws = some r → ∀ v' H', New H H' (rwD r) v' → Same H H' → Q v' H') ∧ (parse L ws = none → ∀ H', Same H H' → Q .non H')
theorem new_rw {H0 : Hp} {t : Addr} {k : Nat} {page : Str} {o : Option Nat} (ht : H0 t = none) : New H0 (upd H0 t (.tup [.int (k : Nat), .str page, numV o])) (rwD ⟨k, page, o⟩) (.ref t) :=
  NewM.toN (NewM.tup (Keep.refl _ _) ht fun _ _ _ => DtAll.cons dt_i (DtAll.cons dt_s (DtAll.cons (numV_dt o) DtAll.nil)))
theorem ok_nrowin (d : Fd K mg "_law_nrow_in" s_law_nrow_in P_law_nrow_in) (B : Blt mg) : FnOk P w K mg base CX0 1 d.f d.fd P_law_nrow_in spNrowIn := by
  refine d.F.ok sc_law_nrow_in (fun vs H Q E h => ?_) (fun cdv A outer s H vs Q E hr h => ?_)
  · obtain ⟨S, T, U, L, v, vn, W, ws, rfl, _⟩ := h
    rfl
  · obtain ⟨S, T, U, L, v, vn, W, ws, rfl, hd, ok, hn, hW, k1, k0⟩ := h
    refine ⟨_, (pss_cons (ps_for PassesOwn.never rfl (pi_range2 (by rfl) B.range (pa_cons pe_int (pa_cons (pe_op op_add (pe_callB (c_len K) (by rfl) B.len (by decide +kernel) (pa_cons (pe_ix (x_list K) (pv 0) pe_int (fun _ _ => rfl)) pa_nil)) pe_int) pa_nil))) (pg_name (i := 3) sc_law_nrow_in.nd rfl (by first | exact Or.inl rfl | exact Or.inr rfl))
      (pss_one (ps_if (pt_cmpR (o_eqP K hr.units) (pe_slice (s_list K) (pv 2) po_none (po_some pe_int)) (pe_lst (pa_cons (pe_ifExp (pt_cmpR op_eq (pv 3) (pe_op op_add (pe_callB (c_len K) (by rfl) B.len (by decide +kernel) (pa_cons (pe_ix (x_list K) (pv 0) pe_int (fun _ _ => rfl)) pa_nil)) pe_int) (nomark _)) pe_str (pe_callTy c_strI (by rfl) B.str (by decide +kernel) (pa_cons (pv 3) pa_nil))) pa_nil)) (nomark _)) (pss_one (ps_for PassesOwn.never rfl (w_list K (pe_ix (x_list K) (pv 1) (pe_op op_sub (pv 3) pe_int) (fun _ _ => rfl))) (g_tup K (n := 2) rfl (pgs_cons (pg_name (i := 4) sc_law_nrow_in.nd rfl (by first | exact Or.inl rfl | exact Or.inr rfl)) (pgs_cons (pg_name (i := 5) sc_law_nrow_in.nd rfl (by first | exact Or.inl rfl | exact Or.inr rfl)) pgs_nil)))
      (pss_cons (ps_if (pt_cmpR (o_eqP K hr.units) (pe_slice (s_list K) (pv 2) (po_some pe_int) po_none) (pe_lst (pa_cons (pv 4) (pa_cons pe_str pa_nil))) (nomark _)) (pss_one (ps_ret (pe_tup (pa_cons (pv 3) (pa_cons (pv 4) (pa_cons pe_non pa_nil)))))) pss_nil)
      (pss_one (ps_for PassesOwn.never rfl (pi_range2 (by rfl) B.range (pa_cons pe_int (pa_cons (pv 5) pa_nil))) (pg_name (i := 6) sc_law_nrow_in.nd rfl (by first | exact Or.inl rfl | exact Or.inr rfl))
      (pss_one (ps_if (PW.pt (pw_and (pt_cmpR (o_in K) (pv 4) (pe_ix (x_tup K) (pe_ix (x_list K) (pe_ix (x_list K) (pv 0) pe_int (fun _ _ => rfl)) (pe_op op_sub (pv 6) pe_int) (fun _ _ => rfl)) pe_int (fun _ _ => rfl)) (by rfl)) (pw_and1 (pt_cmpR (o_eqP K hr.units) (pe_slice (s_list K) (pv 2) (po_some pe_int) po_none) (pe_lst (pa_cons (pv 4) (pa_cons pe_str (pa_cons (pe_callTy c_strI (by rfl) B.str (by decide +kernel) (pa_cons (pv 6) pa_nil)) pa_nil)))) (nomark _))))) (pss_one (ps_ret (pe_tup (pa_cons (pv 3) (pa_cons (pv 4) (pa_cons (pv 6) pa_nil)))))) pss_nil))))))) pss_nil)))
      (pss_one (ps_ret pe_non))), ?_⟩
    obtain ⟨lp, q, lr, lrx, rfl, hlp, hq, hlr, dta, nlp, nq, nlr⟩ := hd.logE
    have llr : lrx.length = L.rows.length := by rw [dta.length]; simp
    obtain ⟨nl, nx, rfl, hnl, dnx, _⟩ := hn.needsE
    have few := ok.few
    walk_at "v"
    refine w_rg2 (by omega) (by omega) (by omega) (by omega) ?_
    refine for_by walk_range ⟨fun i σ H' => (∃ v3 v4 v5 v6 : Option V, σ = [some (.ref lp), some (.ref nl), some (.ref W), v3, v4, v5, v6]) ∧ Same H H' ∧ ∀ r, Vd L r → r.k ≤ i → wordsOf L r ≠ ws, ?_, fun _ _ _ _ _ => trivial, ?_, ?_⟩
    · exact ⟨⟨_, _, _, _, rfl⟩, Same.refl _, fun r vd h => by have := vd.lo; omega⟩
    · rintro i x σ H2 H1 hi ⟨⟨v3, v4, v5, v6, rfl⟩, s1, ih⟩ ⟨rfl, ex⟩
      have hi' : i < L.rows.length + 1 := by rw [llr] at hi; omega
      have ex' : x = V.int ((i + 1 : Nat) : Int) := ex.trans (congrArg V.int (by omega : (1 : Int) + (i : Nat) = ((i + 1 : Nat) : Int)))
      clear ex
      subst ex'
      obtain ⟨t, ns, en, nd, nsp, nl12, hver, vdi⟩ := need_std ok (k := i + 1) (by omega) (by omega)
      have e0 : i + 1 - 1 = i := by omega
      rw [e0] at en
      obtain ⟨y, hy, dy⟩ := dnx.get (i := i) (d := needL (standing t ns)) (by rw [List.getElem?_map, en]; rfl)
      obtain ⟨yl, yx, rfl, hyl, dyx, _⟩ := dy.needE
      have lyx : yx.length = ns.length := by rw [dyx.length]; simp [standing]
      walk_at "v"
      refine ⟨W, _, rfl, SqL.of (s1 _ _ hW), fun p1 hp1 => ?_⟩
      rw [cut_take1, ← List.map_take]
      have s2 : Same H (upd H1 p1 (.lst ((ws.take 1).map V.str))) := s1.new hp1
      walk_at "v"
      refine i_ixL (h_new (s1 _ _ hlp) hp1) (atI_nat (j := 1) rfl) ?_
      walk_at "v"
      refine i_lenL (h_new (s1 _ _ hlr) hp1) ?_
      walk_at "v"
      refine i_first (L := L) (by omega) llr rfl ?_
      walk_at "v"
      refine ⟨show 1 ≤ sizeLine by decide, fun p2 hp2 => ?_⟩
      have s3 := s2.new (o := .lst [.str (firstW L (i + 1))]) hp2
      refine i_eqP (d := .list ((ws.take 1).map .str)) (e := .list ([firstW L (i + 1)].map .str)) (dt_strs (h_new upd_same hp2)) (dt_strs upd_same) (.inl (depth_l _)) ?_
      rw [eqv_strs]
      obtain ⟨H3, e3⟩ : ∃ H3, H3 = upd (upd H1 p1 (.lst ((ws.take 1).map V.str))) p2 (.lst [.str (firstW L (i + 1))]) := ⟨_, rfl⟩
      rw [← e3] at s3 ⊢
      clear e3
      walk_at "v"
      have split1 : ∀ {r : Rw}, r.k = i + 1 → (wordsOf L r = ws ↔ ws.take 1 = [firstW L (i + 1)] ∧ ws.drop 1 = r.page :: lastW r.over) := fun {r} e => by
        unfold wordsOf
        rw [e]
        constructor
        · intro z; rw [← z]; simp
        · rintro ⟨z1, z2⟩
          have := List.take_append_drop 1 ws
          rw [z1, z2] at this
          simpa using this
      refine ifd (fun c => ?_) (fun c => ?_)
      · walk_at "v"
        refine i_ixL (s3 _ _ hnl) (by rw [show ((i + 1 : Nat) : Int) - 1 = ((i : Nat) : Int) by omega]; exact atI_nat hy) ?_
        walk_at "v"
        refine w_lst (s3 _ _ hyl) ?_
        refine for_by (walk_list (xs := yx)) ⟨fun j σ H' => (∃ v4 v5 v6 : Option V, σ = [some (.ref lp), some (.ref nl), some (.ref W), some (.int ((i + 1 : Nat) : Int)), v4, v5, v6]) ∧ Same H H' ∧ ∀ r, Vd L r → r.k = i + 1 → r.page ∈ ns.take j → wordsOf L r ≠ ws, ?_, fun j σ H' _ ⟨_, s, _⟩ => SqL.of (s _ _ hyl), ?_, ?_⟩
        · exact ⟨⟨_, _, _, rfl⟩, s3, fun r _ _ h => by simp at h⟩
        · rintro j x σ H5 H4 hj ⟨⟨v4, v5, v6, rfl⟩, s4, ihj⟩ ⟨rfl, hx⟩
          obtain ⟨dj, gj, zj⟩ := dyx.get' hx
          have hjn : j < ns.length := by omega
          have hnj : ns[j]? = some ns[j] := by simp [hjn]
          obtain ⟨page, epg⟩ : ∃ page, page = ns[j] := ⟨_, rfl⟩
          have epn : page ∈ ns := by rw [epg]; simp
          have edj : dj = pairD (page, ver t page) := by
            unfold standing at gj
            rw [List.map_map, List.getElem?_map, hnj] at gj
            rw [epg]; exact (Option.some.inj gj).symm
          subst edj
          obtain ⟨xa, rfl, hxa, _⟩ := zj.pairE
          have hv0 := ver_nonneg t page
          have hv1 := hver page
          refine g_two (s4 _ _ hxa) ?_
          walk_at "v"
          refine ⟨W, _, rfl, SqL.of (s4 _ _ hW), fun p3 hp3 => ?_⟩
          rw [cut_drop1, ← List.map_drop]
          walk_at "v"
          refine ⟨show 2 ≤ sizeLine by decide, fun p4 hp4 => ?_⟩
          have s5 := (s4.new (o := .lst ((ws.drop 1).map V.str)) hp3).new (o := .lst [.str page, .str ("lacks" : Str)]) hp4
          refine i_eqP (d := .list ((ws.drop 1).map .str)) (e := .list ([page, ("lacks" : Str)].map .str)) (dt_strs (h_new upd_same hp4)) (dt_strs upd_same) (.inl (depth_l _)) ?_
          rw [eqv_strs]
          obtain ⟨H5, e5⟩ : ∃ H5, H5 = upd (upd H4 p3 (.lst ((ws.drop 1).map V.str))) p4 (.lst [.str page, .str ("lacks" : Str)]) := ⟨_, rfl⟩
          rw [← e5] at s5 ⊢
          clear e5
          walk_at "v"
          refine ifd (fun c2 => ?_) (fun c2 => ?_)
          · walk_at "v"
            refine ⟨show 3 ≤ sizeLine by decide, fun t' ht' => ?_⟩
            walk_at "v"
            have vd : Vd L ⟨i + 1, page, none⟩ := (vdi rfl).mpr ⟨epn, trivial⟩
            exact k1 _ (parse_some vd ((split1 rfl).mpr ⟨c, c2⟩)) _ _ ((new_rw (o := none) ht').pre s5) (s5.new ht')
          · walk_at "v"
            refine w_rg2 (by omega) (by omega) (by omega) (by omega) ?_
            refine for_by walk_range ⟨fun m σ H' => (∃ v6 : Option V, σ = [some (.ref lp), some (.ref nl), some (.ref W), some (.int ((i + 1 : Nat) : Int)), some (.str page), some (.int (ver t page)), v6]) ∧ Same H H' ∧
              ∀ r, Vd L r → r.k = i + 1 → r.page = page → (∀ kk, r.over = some kk → kk ≤ m) → wordsOf L r ≠ ws, ?_, fun _ _ _ _ _ => trivial, ?_, ?_⟩
            · refine ⟨⟨_, rfl⟩, s5, fun r vd e1 e2 e3 => ?_⟩
              intro ew
              have := ((split1 e1).mp ew).2
              cases eo : r.over with
              | none => rw [eo, e2] at this; exact c2 this
              | some kk =>
                have h0 := e3 kk eo
                obtain ⟨_, ho⟩ := (vdi e1).mp vd
                rw [eo] at ho
                have := ho.1
                omega
            · rintro m x σ H7 H6 hm ⟨⟨v6, rfl⟩, s6, ihm⟩ ⟨rfl, ex⟩
              have hm' : m + 1 < ver t page := by omega
              have ex' : x = V.int ((m + 1 : Nat) : Int) := ex.trans (congrArg V.int (by omega : (1 : Int) + (m : Nat) = ((m + 1 : Nat) : Int)))
              clear ex
              subst ex'
              have hmr : m < L.rows.length := by omega
              have hrm : L.rows[m]? = some L.rows[m] := by simp [hmr]
              obtain ⟨ym, hym, dym⟩ := dta.get (i := m) (d := rowD L.rows[m]) (by rw [List.getElem?_map, hrm]; rfl)
              obtain ⟨rm, wm, erm⟩ : ∃ rm wm, L.rows[m] = (rm, wm) := ⟨_, _, rfl⟩
              rw [erm] at dym hrm
              obtain ⟨ty, t1, t2, rfl, hty, ht1, ht2, _, _, _⟩ := dym.rowE
              walk_at "v"
              refine i_ixL (s6 _ _ hlp) (atI_nat (j := 1) rfl) ?_
              walk_at "v"
              refine i_ixL (s6 _ _ hlr) (by rw [show ((m + 1 : Nat) : Int) - 1 = ((m : Nat) : Int) by omega]; exact atI_nat hym) ?_
              walk_at "v"
              refine i_ixT (s6 _ _ hty) (atI_nat (j := 1) rfl) ?_
              refine ⟨t2, _, rfl, .inr (SqT.of (s6 _ _ ht2)), rfl, flat_strs _, ?_⟩
              walk_at "v"
              rw [if_neg Bool.false_ne_true, inV_strs]
              have wrm : ((m + 1 : Nat) : Int) ∈ wr L.rows page ↔ page ∈ wm := by
                rw [wr_iff (by omega)]
                unfold Writes
                rw [show m + 1 - 1 = m by omega, hrm]
                simp
              refine ifd (fun c3 => ?_) (fun c3 => ?_)
              · walk_at "v"
                refine ⟨W, _, rfl, SqL.of (s6 _ _ hW), fun p5 hp5 => ?_⟩
                rw [cut_drop1, ← List.map_drop]
                walk_at "v"
                refine i_strI (log2_small (by omega)) ?_
                rw [toStr_num]
                walk_at "v"
                refine ⟨show 3 ≤ sizeLine by decide, fun p6 hp6 => ?_⟩
                have s7 := (s6.new (o := .lst ((ws.drop 1).map V.str)) hp5).new (o := .lst [.str page, .str ("over" : Str), .str (numW (m + 1))]) hp6
                refine i_eqP (d := .list ((ws.drop 1).map .str)) (e := .list ([page, ("over" : Str), numW (m + 1)].map .str)) (dt_strs (h_new upd_same hp6)) (dt_strs upd_same) (.inl (depth_l _)) ?_
                rw [eqv_strs]
                obtain ⟨H7, e7⟩ : ∃ H7, H7 = upd (upd H6 p5 (.lst ((ws.drop 1).map V.str))) p6 (.lst [.str page, .str ("over" : Str), .str (numW (m + 1))]) := ⟨_, rfl⟩
                rw [← e7] at s7 ⊢
                clear e7
                walk_at "v"
                refine ifd (fun c4 => ?_) (fun c4 => ?_)
                · walk_at "v"
                  refine ⟨show 3 ≤ sizeLine by decide, fun t' ht' => ?_⟩
                  walk_at "v"
                  have vd : Vd L ⟨i + 1, page, some (m + 1)⟩ := (vdi rfl).mpr ⟨epn, show 1 ≤ m + 1 by omega, show ((m + 1 : Nat) : Int) < ver t page by omega, wrm.mpr c3⟩
                  exact k1 _ (parse_some vd ((split1 rfl).mpr ⟨c, c4⟩)) _ _ ((new_rw (o := some (m + 1)) ht').pre s7) (s7.new ht')
                · walk_at "v"
                  refine ⟨⟨_, rfl⟩, s7, fun r vd e1 e2 e3 => ?_⟩
                  by_cases eo : r.over = some (m + 1)
                  · intro ew
                    have := ((split1 e1).mp ew).2
                    rw [eo, e2] at this
                    exact c4 this
                  · exact ihm r vd e1 e2 (fun kk h => by
                      have := e3 kk h
                      have : kk ≠ m + 1 := fun z => eo (by rw [h, z])
                      omega)
              · refine iteF ?_
                walk_at "v"
                refine ⟨⟨_, rfl⟩, s6, fun r vd e1 e2 e3 => ?_⟩
                refine ihm r vd e1 e2 (fun kk h => ?_)
                have h4 := e3 kk h
                have : kk ≠ m + 1 := fun z => by
                  obtain ⟨_, ho⟩ := (vdi e1).mp vd
                  rw [h, z, e2] at ho
                  exact c3 (wrm.mp ho.2.2)
                omega
            · rintro σ H6 ⟨⟨v6, rfl⟩, s6, ihm⟩
              walk_at "v"
              refine ⟨⟨_, _, _, rfl⟩, s6, fun r vd e1 e2 => ?_⟩
              rw [List.take_succ, hnj] at e2
              rcases List.mem_append.mp e2 with e2 | e2
              · exact ihj r vd e1 e2
              · have e2' : r.page = page := by rw [epg]; simpa using e2
                refine ihm r vd e1 e2' (fun kk h => ?_)
                obtain ⟨_, ho⟩ := (vdi e1).mp vd
                rw [h, e2'] at ho
                have := ho.2.1
                omega
        · rintro σ H4 ⟨⟨v4, v5, v6, rfl⟩, s4, ihj⟩
          rw [lyx, List.take_length] at ihj
          walk_at "v"
          refine ⟨⟨_, _, _, _, rfl⟩, s4, fun r vd hk => ?_⟩
          rcases Nat.lt_or_ge i r.k with h | h
          · exact ihj r vd (by omega) ((vdi (by omega)).mp vd).1
          · exact ih r vd h
      · walk_at "v"
        refine ⟨⟨_, _, _, _, rfl⟩, s3, fun r vd hk => ?_⟩
        rcases Nat.lt_or_ge i r.k with h | h
        · intro ew
          exact c ((split1 (by omega)).mp ew).1
        · exact ih r vd h
    · rintro σ H2 ⟨⟨v3, v4, v5, v6, rfl⟩, s1, ih⟩
      walk_at "v"
      refine k0 (parse_none fun r vd e => ?_) _ s1
      refine ih r vd ?_ e
      have := vd.hi
      rw [llr]; omega
end Lr
set_option Elab.async false
set_option linter.all false
set_option maxRecDepth 100000
set_option maxHeartbeats 4000000
namespace Lr
open PySem PySem.Spec PyProof.Rows L2 TL
open C8 (InsC call_isC)
local macro_rules | `(tactic| walk_at "ne") => `(tactic| (first | assumption | (refine ne_sym ?_; assumption) | (exact ne_of_none (by assumption) (by assumption)) | (exact ne_sym (ne_of_none (by assumption) (by assumption)))))
local macro_rules | `(tactic| walk_at "h") => `(tactic| (first | assumption | exact upd_same | (refine h_new ?_ (by assumption); walk_at "h") | (refine h_ne (by walk_at "ne") ?_; walk_at "h")))
local macro_rules | `(tactic| walk_at "v1") => `(tactic| (with_reducible first
  | refine i_seq ?_ | refine i_asg ?_ | refine i_ret ?_ | refine i_next ?_ | refine i_drop ?_ | refine i_ifS ?_ | refine i_if ?_ | refine i_and ?_ | refine i_or ?_ | refine i_not ?_ | refine i_test ?_ | refine i_tB ?_ | refine i_bl ?_ | refine i_yes ?_
  | refine i_op ?_ | refine i_un ?_ | refine i_chain ?_ | refine i_andV ?_ | refine i_orV ?_ | refine i_notV ?_ | refine i_cb ?_ | refine i_cons ?_ | refine i_nil ?_ | refine i_bm ?_ | refine i_bm0 ?_ | refine i_c ?_ | refine i_name ?_ | refine i_sub ?_
  | refine i_call ?_ | refine i_lst ?_ | refine i_tup ?_ | refine i_par ?_ | refine i_par2 ?_ | refine i_sl ?_ | refine i_np ?_ | refine i_pt ?_ | refine i_int ?_ | refine i_m0 ?_ | refine i_m1 ?_ | refine i_isS ?_
  | refine i_rI0 ?_ | refine i_inSign ?_ | refine i_notInSign ?_ | refine i_int1 ?_ | refine i_tru ?_ | refine i_isN ?_ | refine i_notN ?_ | refine iteT ?_ | refine iteF ?_ | refine i_brk ?_ | refine i_rt ?_ | refine i_nx ?_ | refine i_bk ?_ | refine i_ct ?_ | refine i_for ?_ | refine i_lc ?_ | refine i_dc ?_ | refine i_iL ?_ | refine i_iT ?_ | refine i_iR1 ?_ | refine i_iR2 ?_ | refine i_iS ?_ | refine i_iE ?_ | refine i_iEK ?_ | refine i_iEQ ?_ | refine i_dget ?_ | refine i_fld ?_ | refine i_sfld ?_ | refine i_dput ?_ | refine i_meth ?_ | refine i_rU ?_ | refine i_cont ?_ | refine i_make ?_))
local macro_rules | `(tactic| walk_at "v2") => `(tactic| (first
  | ((with_reducible refine' i_var ?k1 ?_); (case k1 => exact rfl))
  | ((with_reducible refine' i_eq ?k1 ?_); (case k1 => exact rfl))
  | ((with_reducible refine' i_ne ?k1 ?_); (case k1 => exact rfl))
  | ((with_reducible refine' i_ixL ?k1 ?k2 ?_); (case k1 => walk_at "h"); (case k2 => exact rfl))
  | ((with_reducible refine' i_ixT ?k1 ?k2 ?_); (case k1 => walk_at "h"); (case k2 => exact rfl))
  | ((with_reducible refine' i_lenL ?k1 ?_); (case k1 => walk_at "h"))
  | ((with_reducible refine' i_lenT ?k1 ?_); (case k1 => walk_at "h"))
  | (refine i_wipe (show wipe _ _ = wipe _ _ from rfl) ?_)
  | ((with_reducible refine' i_setL ?k1 ?k2 ?_); (case k1 => walk_at "h"); (case k2 => exact rfl))
  | ((with_reducible refine' i_tyl ?k1 ?_); (case k1 => walk_at "h"))))
local macro_rules | `(tactic| walk_at "v") => `(tactic| repeat (first | walk_at "v1" | walk_at "v2"))

variable {P : Program} {w : World} {K :
      PySem.W.Frag} {mg : Str → Option Value} {base : Heap}
abbrev s_law_nfits : Stmt := top 51
abbrev N_law_nfits : List Str := ["log", "needs", "words", "due", "reader", "page", "version", "k"]
abbrev P_law_nfits : List Str := ["log", "needs", "words"]
theorem sc_law_nfits : FnScope N_law_nfits P_law_nfits (defScope s_law_nfits) := ⟨rfl, rfl, rfl, by decide +kernel, rfl, by decide +kernel, by decide +kernel⟩
theorem DtAll.avoid {S T : List Addr} {H : Hp} (hT : ∀ t ∈ T, H t = none) : ∀ (ds : List PyData) (xs : List V), DtAll S H ds xs → DtAll (T ++ S) H ds xs
  | [], xs, h => by rw [DtAll.nil_iff] at h ⊢; exact h
  | d :: ds, xs, h => by
    obtain ⟨x, r, e, h1, h2⟩ := DtAll.cons_iff.mp h
    exact DtAll.cons_iff.mpr ⟨x, r, e, Dt.avoid hT d x h1, DtAll.avoid hT ds r h2⟩
theorem Acc.cat {H0 H1 H' : Hp} {D E D2 : Addr} {ds es : List PyData} {acc acc2 : List V} (a : Acc [] H0 H' D ds) (ea : H' D = some (.lst acc)) (b : Acc [] H1 H' E es) (eb : H' E = some (.lst acc2)) (k : Same H0 H1) (h : H' D2 = none) :
    Acc [] H0 (upd H' D2 (.lst (acc ++ acc2))) D2 (ds ++ es) := by
  obtain ⟨acc', ea', la, za⟩ := a.ex
  rw [ea] at ea'; cases ea'
  obtain ⟨acc2', eb', lb, zb⟩ := b.ex
  rw [eb] at eb'; cases eb'
  have hT : ∀ t ∈ [D2], H' t = none := fun t ht => by simp at ht; subst ht; exact h
  refine ⟨⟨_, upd_same, by simp [la, lb], fun S t m => ?_⟩, a.kp.new h, a.kp.free h⟩
  have z1 := DtAll.mono (S := D2 :: S) (fun x hx => by simp at hx ⊢; rcases hx with hx | hx <;> simp [hx]) _ _ (DtAll.avoid hT _ _ (za S t m))
  have z2 := DtAll.mono (S := D2 :: S) (fun x hx => by simp at hx ⊢; rcases hx with hx | hx <;> simp [hx]) _ _ (DtAll.avoid hT _ _ (zb S (t.same k) m))
  exact DtAll.keep ((Keep.refl (D2 :: S) H').new h) _ _ (DtAll.append z1 z2)
def lsD (l : List Str) : PyData := .list (l.map .str)
theorem any_ls (e : List Str) : ∀ (ds : List (List Str)), ((ds.map lsD).any fun y => PyData.eqv y (lsD e)) = decide (e ∈ ds)
  | [] => rfl
  | l :: ds => by
    have h1 : PyData.eqv (lsD l) (lsD e) = decide (l = e) := eqv_strs l e
    rw [List.map_cons, List.any_cons, any_ls e ds, h1]
    by_cases a : l = e
    · subst a; simp
    · have : ¬ e = l := fun z => a z.symm
      simp [a, this]
theorem cut_drop2 (xs : List V) : cutV xs (some 2) none = xs.drop 2 := by
  unfold cutV
  have e1 : HT.sIx xs.length 0 (some 2) = min 2 xs.length := HT.sIx_nat _ _ 2
  have e2 : HT.sIx xs.length xs.length none = xs.length := rfl
  rw [e1, e2]
  rcases xs with _ | ⟨a, _ | ⟨b, r⟩⟩
  · rfl
  · rfl
  · simp
theorem in34 (n : Nat) : inV (.int (n : Nat)) [V.int 3, V.int 4] = decide (n = 3 ∨ n = 4) := by
  by_cases h3 : n = 3
  · subst h3; rfl
  · by_cases h4 : n = 4
    · subst h4; rfl
    · have a : ¬ (n : Int) = 3 := by omega
      have b : ¬ (n : Int) = 4 := by omega
      simp [inV, eqV, h3, h4]
      constructor <;>
            intro z <;> omega
def spNfits : Sp := fun vs H Q _ => ∃ (S T : List Addr) (L : LG) (v vn : V) (W : Addr) (ws : List Str), vs = [v, vn, .ref W] ∧ Dt S H (logD L) v ∧ L.Ok ∧ Dt T H (needsL L) vn ∧ H W = some (.lst (ws.map V.str)) ∧
  ∀ H', Same H H' → Q (.bl (parse L ws).isSome) H'
theorem ok_nfits (d : Fd K mg "_law_nfits" s_law_nfits P_law_nfits) (B : Blt mg) : FnOk P w K mg base CX0 1 d.f d.fd P_law_nfits spNfits := by
  refine d.F.ok sc_law_nfits (fun vs H Q E h => ?_) (fun cdv A outer s H vs Q E hr h => ?_)
  · obtain ⟨S, T, L, v, vn, W, ws, rfl, _⟩ := h
    rfl
  · obtain ⟨S, T, L, v, vn, W, ws, rfl, hd, ok, hn, hW, k⟩ := h
    refine ⟨_, (pss_cons (ps_if (pt_cmpR (o_notIn K) (pe_callB (c_len K) (by rfl) B.len (by decide +kernel) (pa_cons (pv 2) pa_nil)) (pe_tup (pa_cons pe_int (pa_cons pe_int pa_nil))) (by rfl)) (pss_one (ps_ret pe_bl)) pss_nil)
      (pss_cons (ps_set (i := 3) sc_law_nfits.nd rfl (by first | exact Or.inl rfl | exact Or.inr rfl) (pe_lst pa_nil))
      (pss_cons (ps_for PassesOwn.never rfl (pi_range2 (by rfl) B.range (pa_cons pe_int (pa_cons (pe_op op_add (pe_callB (c_len K) (by rfl) B.len (by decide +kernel) (pa_cons (pe_ix (x_list K) (pv 0) pe_int (fun _ _ => rfl)) pa_nil)) pe_int) pa_nil))) (pg_name (i := 4) sc_law_nfits.nd rfl (by first | exact Or.inl rfl | exact Or.inr rfl))
      (pss_one (ps_for PassesOwn.never rfl (w_list K (pe_ix (x_list K) (pv 1) (pe_op op_sub (pv 4) pe_int) (fun _ _ => rfl))) (g_tup K (n := 2) rfl (pgs_cons (pg_name (i := 5) sc_law_nfits.nd rfl (by first | exact Or.inl rfl | exact Or.inr rfl)) (pgs_cons (pg_name (i := 6) sc_law_nfits.nd rfl (by first | exact Or.inl rfl | exact Or.inr rfl)) pgs_nil)))
      (pss_one (ps_if (PW.pt (pw_and (pt_cmpR op_eq (pv 5) (pe_ix (x_list K) (pv 2) pe_int (fun _ _ => rfl)) (nomark _)) (pw_and1 (pt_cmpR op_eq (pe_ix (x_list K) (pv 2) pe_int (fun _ _ => rfl)) (pe_ifExp (pt_cmpR op_eq (pv 4) (pe_op op_add (pe_callB (c_len K) (by rfl) B.len (by decide +kernel) (pa_cons (pe_ix (x_list K) (pv 0) pe_int (fun _ _ => rfl)) pa_nil)) pe_int) (nomark _)) pe_str (pe_callTy c_strI (by rfl) B.str (by decide +kernel) (pa_cons (pv 4) pa_nil))) (nomark _))))) (pss_cons (ps_expr (e_bm K PySem.F.plainAttrs_list PySem.F.slot_list_append PySem.F.type_list_append mt_append (pv 3) (pa_cons (pe_lst (pa_cons pe_str pa_nil)) pa_nil)))
      (pss_one (ps_set (i := 3) sc_law_nfits.nd rfl (by first | exact Or.inl rfl | exact Or.inr rfl) (pe_op op_cat (pv 3) (pe_lc (own := [("k", 7)]) (g := gName 7) rfl sc_law_nfits.nd (pi_range2 (by rfl) B.range (pa_cons pe_int (pa_cons (pv 6) pa_nil))) (blkOk_by (own := [("k", 7)]) (N := N_law_nfits) (sc := defScope s_law_nfits) (by decide +kernel)) (fun _ _ _ _ _ => by exact (pg_name (i := 7) sc_law_nfits.nd rfl (by first | exact Or.inl rfl | exact Or.inr rfl))) (fun _ _ _ _ _ => by exact (pts_one (pt_cmpR (o_in K) (pv 5) (pe_ix (x_tup K) (pe_ix (x_list K) (pe_ix (x_list K) (pv 0) pe_int (fun _ _ => rfl)) (pe_op op_sub (pv 7) pe_int) (fun _ _ => rfl)) pe_int (fun _ _ => rfl)) (by rfl)))) (fun _ _ _ _ _ => by exact (pe_lst (pa_cons pe_str (pa_cons (pe_callTy c_strI (by rfl) B.str (by decide +kernel) (pa_cons (pv 7) pa_nil)) pa_nil))))))))) pss_nil)))))
      (pss_one (ps_ret (pe_cmpR (o_inP K hr.units) (pe_slice (s_list K) (pv 2) (po_some pe_int) po_none) (pv 3) (by rfl))))))), ?_⟩
    obtain ⟨lp, q, lr, lrx, rfl, hlp, hq, hlr, dta, nlp, nq, nlr⟩ := hd.logE
    have llr : lrx.length = L.rows.length := by rw [dta.length]; simp
    obtain ⟨nl, nx, rfl, hnl, dnx, _⟩ := hn.needsE
    have few := ok.few
    walk_at "v"
    refine ⟨show 2 ≤ sizeLine by decide, fun tp htp => ?_⟩
    have s0 : Same H (upd H tp (.tup [.int 3, .int 4])) := (Same.refl H).new htp
    walk_at "v"
    refine ⟨tp, _, rfl, .inr (SqT.of upd_same), rfl, rfl, ?_⟩
    obtain ⟨H0, e0⟩ : ∃ H0, H0 = upd H tp (.tup [.int 3, .int 4]) := ⟨_, rfl⟩
    rw [← e0] at s0 ⊢
    clear e0
    rw [if_pos rfl, in34, List.length_map]
    walk_at "v"
    refine ifn (fun h34 => ?_) (fun h34 => ?_)
    · walk_at "v"
      have e : parse L ws = none := parse_none fun r vd e => h34 (by rw [← e]; exact wordsOf_len)
      have := k _ s0
      rw [e] at this
      exact this
    · obtain ⟨w0, w1, w2, wr', ew⟩ : ∃ w0 w1 w2 wr', ws = w0 :: w1 :: w2 :: wr' := by
        match ws, (show 3 ≤ ws.length by omega) with
        | a :: b :: c :: r, _ => exact ⟨a, b, c, r, rfl⟩
      have hW0 := s0 _ _ hW
      rw [ew] at hW0
      walk_at "v"
      refine ⟨show 0 ≤ sizeLine by decide, fun D0 hD0 => ?_⟩
      walk_at "v"
      refine i_ixL (h_new (s0 _ _ hlp) hD0) (atI_nat (j := 1) rfl) ?_
      walk_at "v"
      refine i_lenL (h_new (s0 _ _ hlr) hD0) ?_
      walk_at "v"
      refine w_rg2 (by omega) (by omega) (by omega) (by omega) ?_
      refine for_by walk_range ⟨fun i σ H' => ∃ (D : Addr) (ds : List (List Str)) (v4 v5 v6 v7 : Option V), σ = [some (.ref lp), some (.ref nl), some (.ref W), some (.ref D), v4, v5, v6, v7] ∧ Acc [] H0 H' D (ds.map lsD) ∧ ds.length ≤ 1000 * i ∧
        ∀ e, e ∈ ds ↔ ∃ r, Vd L r ∧ r.k ≤ i ∧ firstW L r.k = w0 ∧ r.page = w1 ∧ lastW r.over = e, ?_, fun _ _ _ _ _ => trivial, ?_, ?_⟩
      · refine ⟨D0, [], _, _, _, _, rfl, Acc.start (Keep.refl _ _) hD0, Nat.zero_le _, fun e => Iff.intro (fun h => nomatch h) (fun ⟨r, vd, h, _⟩ => by have := vd.lo; omega)⟩
      · rintro i x σ H2 H1 hi ⟨D, ds, v4, v5, v6, v7, rfl, ac, lds, ih⟩ ⟨rfl, ex⟩
        have hi' : i < L.rows.length + 1 := by rw [llr] at hi; omega
        have ex' : x = V.int ((i + 1 : Nat) : Int) := ex.trans (congrArg V.int (by omega : (1 : Int) + (i : Nat) = ((i + 1 : Nat) : Int)))
        clear ex
        subst ex'
        obtain ⟨t, ns, en, nd, nsp, nl12, hver, vdi⟩ := need_std ok (k := i + 1) (by omega) (by omega)
        have e0 : i + 1 - 1 = i := by omega
        rw [e0] at en
        obtain ⟨y, hy, dy⟩ := dnx.get (i := i) (d := needL (standing t ns)) (by rw [List.getElem?_map, en]; rfl)
        obtain ⟨yl, yx, rfl, hyl, dyx, _⟩ := dy.needE
        have lyx : yx.length = ns.length := by rw [dyx.length]; simp [standing]
        have s1 := s0.trans ac.kp.same
        walk_at "v"
        refine i_ixL (s1 _ _ hnl) (by rw [show ((i + 1 : Nat) : Int) - 1 = ((i : Nat) : Int) by omega]; exact atI_nat hy) ?_
        walk_at "v"
        refine w_lst (s1 _ _ hyl) ?_
        refine for_by (walk_list (xs := yx)) ⟨fun j σ H' => ∃ (D : Addr) (ds : List (List Str)) (v5 v6 v7 : Option V), σ = [some (.ref lp), some (.ref nl), some (.ref W), some (.ref D), some (.int ((i + 1 : Nat) : Int)), v5, v6, v7] ∧ Acc [] H0 H' D (ds.map lsD) ∧ ds.length ≤ 1000 * i + 61 * j ∧
          ∀ e, e ∈ ds ↔ ∃ r, Vd L r ∧ (r.k ≤ i ∨ (r.k = i + 1 ∧ r.page ∈ ns.take j)) ∧ firstW L r.k = w0 ∧ r.page = w1 ∧ lastW r.over = e, ?_, fun j σ H' _ ⟨_, _, _, _, _, _, z, _⟩ => SqL.of ((s0.trans z.kp.same) _ _ hyl), ?_, ?_⟩
        · exact ⟨D, ds, _, _, _, rfl, ac, by omega, fun e => by rw [ih e]; simp⟩
        · rintro j x σ H5 H4 hj ⟨D, ds, v5, v6, v7, rfl, ac4, lds4, ihj⟩ ⟨rfl, hx⟩
          obtain ⟨dj, gj, zj⟩ := dyx.get' hx
          have hjn : j < ns.length := by omega
          have hnj : ns[j]? = some ns[j] := by simp [hjn]
          obtain ⟨page, epg⟩ : ∃ page, page = ns[j] := ⟨_, rfl⟩
          have epn : page ∈ ns := by rw [epg]; simp
          have edj : dj = pairD (page, ver t page) := by
            unfold standing at gj
            rw [List.map_map, List.getElem?_map, hnj] at gj
            rw [epg]; exact (Option.some.inj gj).symm
          subst edj
          obtain ⟨xa, rfl, hxa, _⟩ := zj.pairE
          have hv0 := ver_nonneg t page
          have hv1 := hver page
          have s4 := s0.trans ac4.kp.same
          have tk : ∀ {r : Rw}, r.page ∈ ns.take (j + 1) ↔ r.page ∈ ns.take j ∨ r.page = page := fun {r} => by
            rw [List.take_succ, hnj, epg]
            simp only [Option.toList, List.mem_append, List.mem_singleton]
          have hW4 := ac4.kp.same _ _ hW0
          refine g_two (s4 _ _ hxa) ?_
          walk_at "v"
          refine i_ixL hW4 (atI_nat (j := 1) rfl) ?_
          walk_at "v"
          have skip : (¬ page = w1 ∨ ¬ firstW L (i + 1) = w0) → ∀ e, e ∈ ds ↔ ∃ r, Vd L r ∧ (r.k ≤ i ∨ (r.k = i + 1 ∧ r.page ∈ ns.take (j + 1))) ∧ firstW L r.k = w0 ∧ r.page = w1 ∧ lastW r.over = e := fun hno e => by
            rw [ihj e]
            constructor
            · rintro ⟨r, vd, h, rest⟩
              exact ⟨r, vd, h.imp id (fun h => ⟨h.1, tk.mpr (.inl h.2)⟩), rest⟩
            · rintro ⟨r, vd, h, h0, h1, h2⟩
              refine ⟨r, vd, ?_, h0, h1, h2⟩
              rcases h with h | ⟨h, h'⟩
              · exact .inl h
              · rcases tk.mp h' with h' | h'
                · exact .inr ⟨h, h'⟩
                · exfalso
                  rcases hno with hno | hno
                  · exact hno (h' ▸ h1)
                  · exact hno (h ▸ h0)
          refine ifd (fun c1 => ?_) (fun c1 => ?_)
          · have c1' : page = w1 := V.str.inj c1
            walk_at "v"
            refine i_ixL hW4 (atI_nat (j := 0) rfl) ?_
            walk_at "v"
            refine i_ixL (s4 _ _ hlp) (atI_nat (j := 1) rfl) ?_
            walk_at "v"
            refine i_lenL (s4 _ _ hlr) ?_
            walk_at "v"
            refine i_first (L := L) (by omega) llr rfl ?_
            walk_at "v"
            refine ifd (fun c2 => ?_) (fun c2 => ?_)
            · have c2' : w0 = firstW L (i + 1) := V.str.inj c2
              obtain ⟨acc, ea, la, _⟩ := id ac4.ex
              walk_at "v"
              refine ⟨show 1 ≤ sizeLine by decide, fun l hl => ?_⟩
              walk_at "v"
              have nl1 : NewM [] H4 (upd H4 l (.lst [.str ("lacks" : Str)])) (lsD ["lacks"]) (.ref l) := NewM.lst (Keep.refl _ _) hl fun _ _ _ => DtAll.strs ["lacks"]
              have bigS : ∀ {n : Nat}, n < 100000 → n < sizeLine := fun {n} h => Nat.lt_of_lt_of_le h (by decide)
              have lacc : acc.length ≤ 1000 * i + 61 * j := by rw [la, List.length_map]; exact lds4
              refine i_app (h_new ea hl) (bigS (by omega)) ?_
              obtain ⟨e5, ac5⟩ := ac4.step trk_nil ea nl1 ((Keep.refl _ _).new hl)
              obtain ⟨H5, e5'⟩ : ∃ H5, H5 = upd (upd H4 l (.lst [.str ("lacks" : Str)])) D (.lst (acc ++ [.ref l])) := ⟨_, rfl⟩
              have ea5 : H5 D = some (.lst (acc ++ [.ref l])) := by rw [e5']; exact upd_same
              rw [← e5'] at ac5 ⊢
              clear e5' e5
              have s5 := s0.trans ac5.kp.same
              walk_at "v"
              refine w_rg2 (by omega) (by omega) (by omega) (by omega) ?_
              refine lc_by walk_range fun E hE => ⟨fun m H' => ∃ es : List (List Str), Acc [] H5 H' E (es.map lsD) ∧ es.length ≤ m ∧ ∀ e, e ∈ es ↔ ∃ kk, 1 ≤ kk ∧ kk ≤ m ∧ ((kk : Nat) : Int) ∈ wr L.rows page ∧ e = [("over" : Str), numW kk], ?_, fun _ _ _ _ => trivial, ?_, ?_⟩
              · exact ⟨[], Acc.start (Keep.refl _ _) hE, Nat.zero_le _, fun e => Iff.intro (fun h => nomatch h) (fun ⟨kk, h1, h2, _⟩ => by omega)⟩
              · rintro m x H7 H6 hm ⟨es, ac6, les, ihm⟩ ⟨rfl, ex⟩
                have hm' : m + 1 < ver t page := by omega
                have ex' : x = V.int ((m + 1 : Nat) : Int) := ex.trans (congrArg V.int (by omega : (1 : Int) + (m : Nat) = ((m + 1 : Nat) : Int)))
                clear ex
                subst ex'
                have hmr : m < L.rows.length := by omega
                have hrm : L.rows[m]? = some L.rows[m] := by simp [hmr]
                obtain ⟨ym, hym, dym⟩ := dta.get (i := m) (d := rowD L.rows[m]) (by rw [List.getElem?_map, hrm]; rfl)
                obtain ⟨rm, wm, erm⟩ : ∃ rm wm, L.rows[m] = (rm, wm) := ⟨_, _, rfl⟩
                rw [erm] at dym hrm
                obtain ⟨ty, t1, t2, rfl, hty, ht1, ht2, _, _, _⟩ := dym.rowE
                have s6 := s5.trans ac6.kp.same
                walk_at "v"
                refine i_ixL (s6 _ _ hlp) (atI_nat (j := 1) rfl) ?_
                walk_at "v"
                refine i_ixL (s6 _ _ hlr) (by rw [show ((m + 1 : Nat) : Int) - 1 = ((m : Nat) : Int) by omega]; exact atI_nat hym) ?_
                walk_at "v"
                refine i_ixT (s6 _ _ hty) (atI_nat (j := 1) rfl) ?_
                refine ⟨t2, _, rfl, .inr (SqT.of (s6 _ _ ht2)), rfl, flat_strs _, ?_⟩
                walk_at "v"
                rw [if_neg Bool.false_ne_true, inV_strs]
                have wrm : ((m + 1 : Nat) : Int) ∈ wr L.rows page ↔ page ∈ wm := by
                  rw [wr_iff (by omega)]
                  unfold Writes
                  rw [show m + 1 - 1 = m by omega, hrm]
                  simp
                refine ifd (fun c3 => ?_) (fun c3 => ?_)
                · walk_at "v"
                  refine i_strI (log2_small (by omega)) ?_
                  rw [toStr_num]
                  walk_at "v"
                  refine ⟨show 2 ≤ sizeLine by decide, fun l2 hl2 => ?_⟩
                  have nl2 : NewM [] H6 (upd H6 l2 (.lst [.str ("over" : Str), .str (numW (m + 1))])) (lsD ["over", numW (m + 1)]) (.ref l2) := NewM.lst (Keep.refl _ _) hl2 fun _ _ _ => DtAll.strs ["over", numW (m + 1)]
                  obtain ⟨acc6, ea6, la6, _⟩ := id ac6.ex
                  obtain ⟨e8, ac8⟩ := ac6.step trk_nil ea6 nl2 ((Keep.refl _ _).new hl2)
                  refine ⟨acc6, e8, ?_, es ++ [[("over" : Str), numW (m + 1)]], by rw [List.map_append]; exact ac8, by simp; omega, fun e => ?_⟩
                  · rw [la6, List.length_map]; exact bigS (by omega)
                  · rw [List.mem_append, ihm e, List.mem_singleton]
                    constructor
                    · rintro (⟨kk, h1, h2, h3⟩ | h)
                      · exact ⟨kk, h1, by omega, h3⟩
                      · exact ⟨m + 1, by omega, by omega, wrm.mpr c3, h⟩
                    · rintro ⟨kk, h1, h2, h3, h4⟩
                      by_cases e9 : kk = m + 1
                      · subst e9; exact .inr h4
                      · exact .inl ⟨kk, h1, by omega, h3, h4⟩
                · refine ⟨es, ac6, by omega, fun e => ?_⟩
                  rw [ihm e]
                  constructor
                  · rintro ⟨kk, h1, h2, h3⟩
                    exact ⟨kk, h1, by omega, h3⟩
                  · rintro ⟨kk, h1, h2, h3, h4⟩
                    have e9 : ¬ kk = m + 1 := fun z => c3 (wrm.mp (by rw [← z]; exact h3))
                    exact ⟨kk, h1, by omega, h3, h4⟩
              · rintro H6 ⟨es, ac6, les, ihm⟩
                obtain ⟨acc6, ea6, la6, _⟩ := id ac6.ex
                have ea56 := ac6.kp.same _ _ ea5
                have laL : (acc ++ [V.ref l]).length ≤ 1000 * i + 61 * j + 1 := by simp; omega
                have lbL : acc6.length ≤ 60 := by rw [la6, List.length_map]; omega
                refine i_cat ea56 ea6 (Nat.le_of_lt (bigS (by omega))) (fun D2 hD2 => ?_)
                have ac7 := (ac5.skip trk_nil ac6.kp).cat ea56 ac6 ea6 ac5.kp.same hD2
                refine ⟨D2, (ds ++ [[("lacks" : Str)]]) ++ es, _, _, _, rfl, by rw [List.map_append, List.map_append]; exact ac7, by simp; omega, fun e => ?_⟩
                rw [List.mem_append, List.mem_append, ihj e, ihm e, List.mem_singleton]
                constructor
                · rintro ((⟨r, vd, h, rest⟩ | h) | ⟨kk, h1, h2, h3, h4⟩)
                  · exact ⟨r, vd, h.imp id (fun h => ⟨h.1, tk.mpr (.inl h.2)⟩), rest⟩
                  · exact ⟨⟨i + 1, page, none⟩, (vdi rfl).mpr ⟨epn, trivial⟩, .inr ⟨rfl, tk.mpr (.inr rfl)⟩, c2'.symm, c1', h.symm⟩
                  · exact ⟨⟨i + 1, page, some kk⟩, (vdi rfl).mpr ⟨epn, h1, show ((kk : Nat) : Int) < ver t page by omega, h3⟩, .inr ⟨rfl, tk.mpr (.inr rfl)⟩, c2'.symm, c1', h4.symm⟩
                · rintro ⟨r, vd, h, h0, h1, h2⟩
                  rcases h with h | ⟨h, h'⟩
                  · exact .inl (.inl ⟨r, vd, .inl h, h0, h1, h2⟩)
                  · rcases tk.mp h' with h' | h'
                    · exact .inl (.inl ⟨r, vd, .inr ⟨h, h'⟩, h0, h1, h2⟩)
                    · cases eo : r.over with
                      | none => rw [eo] at h2; exact .inl (.inr h2.symm)
                      | some kk =>
                        obtain ⟨_, ho⟩ := (vdi h).mp vd
                        rw [eo, h'] at ho
                        rw [eo] at h2
                        have := ho.2.1
                        exact .inr ⟨kk, ho.1, by omega, ho.2.2, h2.symm⟩
            · walk_at "v"
              exact ⟨D, ds, _, _, _, rfl, ac4, by omega, skip (.inr fun h => c2 (by rw [h]))⟩
          · refine iteF ?_
            walk_at "v"
            exact ⟨D, ds, _, _, _, rfl, ac4, by omega, skip (.inl fun h => c1 (by rw [h]))⟩
        · rintro σ H4 ⟨D, ds, v5, v6, v7, rfl, ac4, lds4, ihj⟩
          rw [lyx, List.take_length] at ihj
          walk_at "v"
          refine ⟨D, ds, _, _, _, _, rfl, ac4, by omega, fun e => ?_⟩
          rw [ihj e]
          constructor
          · rintro ⟨r, vd, h, rest⟩
            exact ⟨r, vd, by rcases h with h | h <;> omega, rest⟩
          · rintro ⟨r, vd, h, rest⟩
            refine ⟨r, vd, ?_, rest⟩
            rcases Nat.lt_or_ge i r.k with h' | h'
            · exact .inr ⟨by omega, ((vdi (by omega)).mp vd).1⟩
            · exact .inl h'
      · rintro σ H1 ⟨D, ds, v4, v5, v6, v7, rfl, ac, lds, ih⟩
        have s1 := s0.trans ac.kp.same
        obtain ⟨acc, ea, la, dacc⟩ := ac.ex
        walk_at "v"
        refine ⟨W, _, rfl, SqL.of (s1 _ _ hW), fun p3 hp3 => ?_⟩
        rw [cut_drop2, ← List.map_drop]
        walk_at "v"
        have s3 := s1.new (o := .lst ((ws.drop 2).map V.str)) hp3
        have dd : Dt [] (upd H1 p3 (.lst ((ws.drop 2).map V.str))) (.list (ds.map lsD)) (.ref D) := Dt.keep ((Keep.refl [] H1).new hp3) _ _ (ac.done [] trk_nil (fun _ h => nomatch h))
        have d3 : Dt [] (upd H1 p3 (.lst ((ws.drop 2).map V.str))) (lsD (ws.drop 2)) (.ref p3) := dt_strs upd_same
        refine ⟨lsD (ws.drop 2), ds.map lsD, Dt.dp _ _ d3, .inl (Dt.dp _ _ dd), Dt.plain _ _ dd, Dt.plain _ _ d3, depth_l _, ?_⟩
        rw [if_neg Bool.false_ne_true, any_ls]
        have eq : decide (ws.drop 2 ∈ ds) = (parse L ws).isSome := by
          cases ep : parse L ws with
          | some r =>
            obtain ⟨vd, e⟩ := of_parse ep
            have : ws.drop 2 ∈ ds := (ih _).mpr ⟨r, vd, by have := vd.hi; rw [llr]; omega, by rw [ew] at e; unfold wordsOf at e; exact (List.cons.inj e).1, by rw [ew] at e; unfold wordsOf at e; exact (List.cons.inj (List.cons.inj e).2).1, by rw [← e]; rfl⟩
            simp [this]
          | none =>
            have : ¬ ws.drop 2 ∈ ds := fun h => by
              obtain ⟨r, vd, _, h1, h2, h3⟩ := (ih _).mp h
              refine of_parse_none ep r vd ?_
              unfold wordsOf
              rw [h1, h2, h3, ew]; rfl
            simp [this]
        rw [eq]
        exact k _ s3
end Lr
set_option Elab.async false
set_option linter.all false
set_option maxRecDepth 100000
set_option maxHeartbeats 4000000
namespace Lr
open PySem PySem.Spec PyProof.Rows L2 TL
open C8 (InsC call_isC)
local macro_rules | `(tactic| walk_at "ne") => `(tactic| (first | assumption | (refine ne_sym ?_; assumption) | (exact ne_of_none (by assumption) (by assumption)) | (exact ne_sym (ne_of_none (by assumption) (by assumption)))))
local macro_rules | `(tactic| walk_at "h") => `(tactic| (first | assumption | exact upd_same | (refine h_new ?_ (by assumption); walk_at "h") | (refine h_ne (by walk_at "ne") ?_; walk_at "h")))
local macro_rules | `(tactic| walk_at "v1") => `(tactic| (with_reducible first
  | refine i_seq ?_ | refine i_asg ?_ | refine i_ret ?_ | refine i_next ?_ | refine i_drop ?_ | refine i_ifS ?_ | refine i_if ?_ | refine i_and ?_ | refine i_or ?_ | refine i_not ?_ | refine i_test ?_ | refine i_tB ?_ | refine i_bl ?_ | refine i_yes ?_
  | refine i_op ?_ | refine i_un ?_ | refine i_chain ?_ | refine i_andV ?_ | refine i_orV ?_ | refine i_notV ?_ | refine i_cb ?_ | refine i_cons ?_ | refine i_nil ?_ | refine i_bm ?_ | refine i_bm0 ?_ | refine i_c ?_ | refine i_name ?_ | refine i_sub ?_
  | refine i_call ?_ | refine i_lst ?_ | refine i_tup ?_ | refine i_par ?_ | refine i_par2 ?_ | refine i_sl ?_ | refine i_np ?_ | refine i_pt ?_ | refine i_int ?_ | refine i_m0 ?_ | refine i_m1 ?_ | refine i_isS ?_
  | refine i_rI0 ?_ | refine i_inSign ?_ | refine i_notInSign ?_ | refine i_int1 ?_ | refine i_tru ?_ | refine i_isN ?_ | refine i_notN ?_ | refine iteT ?_ | refine iteF ?_ | refine i_brk ?_ | refine i_rt ?_ | refine i_nx ?_ | refine i_bk ?_ | refine i_ct ?_ | refine i_for ?_ | refine i_lc ?_ | refine i_dc ?_ | refine i_iL ?_ | refine i_iT ?_ | refine i_iR1 ?_ | refine i_iR2 ?_ | refine i_iS ?_ | refine i_iE ?_ | refine i_iEK ?_ | refine i_iEQ ?_ | refine i_dget ?_ | refine i_fld ?_ | refine i_sfld ?_ | refine i_dput ?_ | refine i_meth ?_ | refine i_rU ?_ | refine i_cont ?_ | refine i_make ?_))
local macro_rules | `(tactic| walk_at "v2") => `(tactic| (first
  | ((with_reducible refine' i_var ?k1 ?_); (case k1 => exact rfl))
  | ((with_reducible refine' i_eq ?k1 ?_); (case k1 => exact rfl))
  | ((with_reducible refine' i_ne ?k1 ?_); (case k1 => exact rfl))
  | ((with_reducible refine' i_ixL ?k1 ?k2 ?_); (case k1 => walk_at "h"); (case k2 => exact rfl))
  | ((with_reducible refine' i_ixT ?k1 ?k2 ?_); (case k1 => walk_at "h"); (case k2 => exact rfl))
  | ((with_reducible refine' i_lenL ?k1 ?_); (case k1 => walk_at "h"))
  | ((with_reducible refine' i_lenT ?k1 ?_); (case k1 => walk_at "h"))
  | (refine i_wipe (show wipe _ _ = wipe _ _ from rfl) ?_)
  | ((with_reducible refine' i_setL ?k1 ?k2 ?_); (case k1 => walk_at "h"); (case k2 => exact rfl))
  | ((with_reducible refine' i_tyl ?k1 ?_); (case k1 => walk_at "h"))))
local macro_rules | `(tactic| walk_at "v") => `(tactic| repeat (first | walk_at "v1" | walk_at "v2"))

variable {P : Program} {w : World} {K :
      PySem.W.Frag} {mg : Str → Option Value} {base : Heap}
abbrev s_law_nfault : Stmt := top 52
abbrev N_law_nfault : List Str := ["log", "needs", "text", "lines", "at", "line"]
abbrev P_law_nfault : List Str := ["log", "needs", "text"]
theorem sc_law_nfault : FnScope N_law_nfault P_law_nfault (defScope s_law_nfault) := ⟨rfl, rfl, rfl, by decide +kernel, rfl, by decide +kernel, by decide +kernel⟩
abbrev s_law_nrow : Stmt := top 50
abbrev N_law_nrow : List Str := ["stream", "log", "needs", "reader", "page", "version", "below", "over", "k"]
abbrev P_law_nrow : List Str := ["stream", "log", "needs"]
theorem sc_law_nrow : FnScope N_law_nrow P_law_nrow (defScope s_law_nrow) := ⟨rfl, rfl, rfl, by decide +kernel, rfl, by decide +kernel, by decide +kernel⟩
abbrev FdNfits (K : PySem.W.Frag) (mg : Str → Option Value) := Fd K mg "_law_nfits" s_law_nfits P_law_nfits
def spNfault : Sp := fun vs H Q _ => ∃ (S T : List Addr) (L : LG) (v vn : V) (z : Str), vs = [v, vn, .str z] ∧ Dt S H (logD L) v ∧ L.Ok ∧ Dt T H (needsL L) vn ∧ z.length ≤ 1000000 ∧
  ∀ H', Same H H' → Q (numV (faultO L z)) H'
theorem ok_nfault (d : Fd K mg "_law_nfault" s_law_nfault P_law_nfault) (d_law_nfits : FdNfits K mg) (B : Blt mg) : FnOk P w K mg base CX0 2 d.f d.fd P_law_nfault spNfault := by
  have G_law_nfits : FnOk P w K mg base CX0 1 d_law_nfits.f d_law_nfits.fd P_law_nfits spNfits := ok_nfits d_law_nfits B
  refine d.F.ok sc_law_nfault (fun vs H Q E h => ?_) (fun cdv A outer s H vs Q E hr h => ?_)
  · obtain ⟨S, T, L, v, vn, z, rfl, _⟩ := h
    rfl
  · obtain ⟨S, T, L, v, vn, z, rfl, hd, ok, hn, hz, k⟩ := h
    refine ⟨_, (pss_cons (ps_set (i := 3) sc_law_nfault.nd rfl (by first | exact Or.inl rfl | exact Or.inr rfl) (pe_m1 PySem.F.slot_str_split PySem.F.type_str_split m_split (pv 2) pe_str))
      (pss_cons (ps_for PassesOwn.never rfl (w_enumQ K (by rfl) B.enumerate (pa_cons (pe_slice (s_list K) (pv 3) po_none (po_some (pe_un un_neg pe_int))) pa_nil)) (g_tup K (n := 2) rfl (pgs_cons (pg_name (i := 4) sc_law_nfault.nd rfl (by first | exact Or.inl rfl | exact Or.inr rfl)) (pgs_cons (pg_name (i := 5) sc_law_nfault.nd rfl (by first | exact Or.inl rfl | exact Or.inr rfl)) pgs_nil)))
      (pss_one (ps_if (pt_not (pt_val (pe_call G_law_nfits (hr.mono (by decide)) (by rfl) d_law_nfits.g d_law_nfits.F.kp d_law_nfits.b .nil pass0 (pa_cons (pv 0) (pa_cons (pv 1) (pa_cons (pe_m1 PySem.F.slot_str_split PySem.F.type_str_split m_split (pv 5) pe_str) pa_nil)))))) (pss_one (ps_ret (pe_op op_add (pv 4) pe_int))) pss_nil)))
      (pss_one (ps_ret (pe_ifExp (pt_cmpR op_eq (pe_ix (x_list K) (pv 3) (pe_un un_neg pe_int) (fun _ _ => rfl)) pe_str (nomark _)) pe_non (pe_callB (c_len K) (by rfl) B.len (by decide +kernel) (pa_cons (pv 3) pa_nil))))))), ?_⟩
    obtain ⟨ls, l, el⟩ := lines_cat z
    rw [faultO_of el] at k
    walk_at "v"
    refine i_split (by decide +kernel) (Nat.le_trans (Nat.add_le_add_right hz 2) (by decide)) (fun p hp => ?_)
    have e' : Txt.split z (Str.ofString "\n") = ls ++ [l] := el
    rw [e', List.map_append]
    have s1 : Same H (upd H p (.lst (ls.map V.str ++ [l].map V.str))) := (Same.refl H).new hp
    obtain ⟨H1, e1⟩ : ∃ H1, H1 = upd H p (.lst (ls.map V.str ++ [l].map V.str)) := ⟨_, rfl⟩
    have hp1 : H1 p = some (.lst (ls.map V.str ++ [.str l])) := by rw [e1]; exact upd_same
    rw [← e1] at s1 ⊢
    clear e1
    walk_at "v"
    refine ⟨p, _, rfl, SqL.of hp1, fun q1 hq1 => ?_⟩
    rw [cut_last]
    have s2 := s1.new (o := .lst (ls.map V.str)) hq1
    have hp2 := h_new (o := .lst (ls.map V.str)) hp1 hq1
    obtain ⟨H2, e2⟩ : ∃ H2, H2 = upd H1 q1 (.lst (ls.map V.str)) := ⟨_, rfl⟩
    have hq2 : H2 q1 = some (.lst (ls.map V.str)) := by rw [e2]; exact upd_same
    rw [← e2] at s2 hp2 ⊢
    clear e2
    walk_at "v"
    have lsz : ∀ x ∈ ls, x.length ≤ 1000000 := fun x hx => Nat.le_trans (len_sum_split tl_nln (by decide) x (by show x ∈ lines z; rw [el]; simp [hx])) hz
    refine ⟨q1, ls.map V.str, _, rfl, .inl rfl, hq2, fun J wk => ?_⟩
    refine for_by wk ⟨fun i σ H' => (∃ v4 v5 : Option V, σ = [some v, some vn, some (.str z), some (.ref p), v4, v5]) ∧ Same H2 H' ∧ ∀ j y, j < i → ls[j]? = some y → parse L (words y) ≠ none, ?_, fun i σ H' _ ⟨_, s, _⟩ => s _ _ hq2, ?_, ?_⟩
    · exact ⟨⟨_, _, rfl⟩, Same.refl _, fun j y h => absurd h (Nat.not_lt_zero _)⟩
    · rintro i x σ H3 H4 hi ⟨⟨v4, v5, rfl⟩, s3, ih⟩ ⟨T', y0, y, rfl, hT, rfl, e0, hy⟩
      obtain rfl : y0 = .int ((0 : Int) + (i : Nat)) := (Option.some.inj e0).symm
      have hy' : (ls.map V.str)[i]? = some y := hy
      rw [List.getElem?_map] at hy'
      obtain ⟨x, hxi, rfl⟩ := Option.map_eq_some_iff.mp hy'
      refine g_two upd_same ?_
      have s4 : Same H2 (upd H3 T' (.tup [.int ((0 : Int) + (i : Nat)), .str x])) := s3.new hT
      walk_at "v"
      refine i_split (by decide +kernel) (Nat.le_trans (Nat.add_le_add_right (lsz x (List.mem_of_getElem? hxi)) 2) (by decide)) (fun W hW => ?_)
      have s5 := s4.new (o := .lst ((words x).map V.str)) hW
      walk_at "v"
      refine ⟨S, T, L, v, vn, W, words x, rfl, hd.same (s2.trans s5), ok, hn.same (s2.trans s5), upd_same, fun H5 s6 => ?_⟩
      walk_at "v"
      cases ep : parse L (words x) with
      | some r =>
        refine iteF ?_
        walk_at "v"
        refine ⟨⟨_, _, rfl⟩, s5.trans s6, fun j y hj hyy => ?_⟩
        rcases Nat.lt_or_ge
              j i with h | h
        · exact ih j y h hyy
        · have ej : j = i := by omega
          subst ej; rw [hxi] at hyy; cases hyy
          rw [ep]; simp
      | none =>
        refine iteT ?_
        walk_at "v"
        have ef := faultL_at (k := 0) ih hxi ep
        rw [ef] at k
        have e1 : (0 : Int) + (i : Nat) + 1 = ((0 + i + 1 : Nat) : Int) := by omega
        rw [e1]
        exact k _ ((s2.trans s5).trans s6)
    · rintro σ H3 ⟨⟨v4, v5, rfl⟩, s3, ih⟩
      have ef : faultL L ls 0 = none := faultL_none fun y hy => by
        obtain ⟨j, hj, e⟩ := List.getElem_of_mem hy
        exact ih j y (by simpa using hj) (by rw [← e]; simp)
      rw [ef] at k
      walk_at "v"
      refine i_ixL (s3 _ _ hp2) (atI_last _ _) ?_
      walk_at "v"
      refine ifd (fun h => ?_) (fun h => ?_)
      · have h' : l = ("" : Str) := V.str.inj h
        walk_at "v"
        simp only [if_pos h'] at k
        exact k _ (s2.trans s3)
      · have h' : ¬ l = ("" : Str) := fun e => h (by rw [e])
        walk_at "v"
        refine i_lenL (s3 _ _ hp2) ?_
        simp only [if_neg h'] at k
        have e1 : ((ls.map V.str ++ [V.str l]).length : Int) = ((ls.length + 1 : Nat) : Int) := by simp
        rw [e1]
        exact k _ (s2.trans s3)
end Lr
set_option Elab.async false
set_option linter.all false
set_option maxRecDepth 100000
set_option maxHeartbeats 4000000
/-! Vs: list(a text). -/
namespace L2
open PySem PySem.Spec
      PyProof.Rows
def rListS : List V → Hp → VK → Prop := fun xs H Q => ∃ z : Str, xs = [.str z] ∧ z.length ≤ sizeLine ∧ ∀ l, H l = none → Q (.ref l) (upd H l (.lst (z.cps.toList.map fun c => V.str ⟨#[c]⟩)))
theorem vals_get : ∀ {ys : List V} {us : List Value}, ys.length = us.length → (∀ (i : Nat) y u, ys[i]? = some y → us[i]? = some u → RelV y u) → Vals ys us
  | [], [], _, _ => .nil
  | [], _ :: _, h,
        _ => by simp at h
  | _ :: _, [], h,
        _ => by simp at h
  | y :: ys, u :: us, h, k => .cons (k 0 y u rfl rfl) (vals_get (by simpa using h) (fun i y' u' h1 h2 => k (i + 1) y' u' (by simpa using h1) (by simpa using h2)))
theorem c_listS {X : Cx} (hc : X.calm = true) : CallR X (.type "list") rListS := by
  intro pins s σ
        H xs us Q I r h
  obtain ⟨z, rfl, hz, q⟩ := h
  obtain ⟨u, rfl, t,
        rfl⟩ := vals1 r
  refine call_list_str (I.ok.hd hc) z t (hn := hz) fun h' tk acc' c' hk hS' hacc => ?_
  have hv : Vals (z.cps.toList.map fun c => V.str ⟨#[c]⟩) acc'.toList := by
    refine vals_get (by simp [hacc.1]) (fun i y u h1 h2 => ?_)
    obtain ⟨c, u', hc', rfl⟩ := hacc.2 i u (by simpa using h2)
    rw [List.getElem?_map] at h1
    have e : z.cps.toList[i]? = some c := by simpa using hc'
    rw [e] at h1
    cases h1
    exact ⟨u', rfl⟩
  refine ⟨.ref s.heap.objs.size, _, I.laid (t' := tk) hk (Nat.le_refl _) (show ObjOk X.prog X.w _ h' _ (.lst _) from ⟨?_, acc'.toList, c', hv, by simpa using hS'⟩), rfl, q _ (I.hok.fresh (Nat.le_refl _))⟩
  rw [List.length_map]; simpa [Str.length] using hz
end L2
set_option Elab.async false
set_option linter.all false
set_option maxRecDepth 100000
set_option maxHeartbeats 4000000
namespace Lr
open PySem PySem.Spec PyProof.Rows L2 TL
open C8 (InsC call_isC)
local macro_rules | `(tactic| walk_at "ne") => `(tactic| (first | assumption | (refine ne_sym ?_; assumption) | (exact ne_of_none (by assumption) (by assumption)) | (exact ne_sym (ne_of_none (by assumption) (by assumption)))))
local macro_rules | `(tactic| walk_at "h") => `(tactic| (first | assumption | exact upd_same | (refine h_new ?_ (by assumption); walk_at "h") | (refine h_ne (by walk_at "ne") ?_; walk_at "h")))
local macro_rules | `(tactic| walk_at "v1") => `(tactic| (with_reducible first
  | refine i_seq ?_ | refine i_asg ?_ | refine i_ret ?_ | refine i_next ?_ | refine i_drop ?_ | refine i_ifS ?_ | refine i_if ?_ | refine i_and ?_ | refine i_or ?_ | refine i_not ?_ | refine i_test ?_ | refine i_tB ?_ | refine i_bl ?_ | refine i_yes ?_
  | refine i_op ?_ | refine i_un ?_ | refine i_chain ?_ | refine i_andV ?_ | refine i_orV ?_ | refine i_notV ?_ | refine i_cb ?_ | refine i_cons ?_ | refine i_nil ?_ | refine i_bm ?_ | refine i_bm0 ?_ | refine i_c ?_ | refine i_name ?_ | refine i_sub ?_
  | refine i_call ?_ | refine i_lst ?_ | refine i_tup ?_ | refine i_par ?_ | refine i_par2 ?_ | refine i_sl ?_ | refine i_np ?_ | refine i_pt ?_ | refine i_int ?_ | refine i_m0 ?_ | refine i_m1 ?_ | refine i_isS ?_
  | refine i_rI0 ?_ | refine i_inSign ?_ | refine i_notInSign ?_ | refine i_int1 ?_ | refine i_tru ?_ | refine i_isN ?_ | refine i_notN ?_ | refine iteT ?_ | refine iteF ?_ | refine i_brk ?_ | refine i_rt ?_ | refine i_nx ?_ | refine i_bk ?_ | refine i_ct ?_ | refine i_for ?_ | refine i_lc ?_ | refine i_dc ?_ | refine i_iL ?_ | refine i_iT ?_ | refine i_iR1 ?_ | refine i_iR2 ?_ | refine i_iS ?_ | refine i_iE ?_ | refine i_iEK ?_ | refine i_iEQ ?_ | refine i_dget ?_ | refine i_fld ?_ | refine i_sfld ?_ | refine i_dput ?_ | refine i_meth ?_ | refine i_rU ?_ | refine i_cont ?_ | refine i_make ?_))
local macro_rules | `(tactic| walk_at "v2") => `(tactic| (first
  | ((with_reducible refine' i_var ?k1 ?_); (case k1 => exact rfl))
  | ((with_reducible refine' i_eq ?k1 ?_); (case k1 => exact rfl))
  | ((with_reducible refine' i_ne ?k1 ?_); (case k1 => exact rfl))
  | ((with_reducible refine' i_ixL ?k1 ?k2 ?_); (case k1 => walk_at "h"); (case k2 => exact rfl))
  | ((with_reducible refine' i_ixT ?k1 ?k2 ?_); (case k1 => walk_at "h"); (case k2 => exact rfl))
  | ((with_reducible refine' i_lenL ?k1 ?_); (case k1 => walk_at "h"))
  | ((with_reducible refine' i_lenT ?k1 ?_); (case k1 => walk_at "h"))
  | (refine i_wipe (show wipe _ _ = wipe _ _ from rfl) ?_)
  | ((with_reducible refine' i_setL ?k1 ?k2 ?_); (case k1 => walk_at "h"); (case k2 => exact rfl))
  | ((with_reducible refine' i_tyl ?k1 ?_); (case k1 => walk_at "h"))))
local macro_rules | `(tactic| walk_at "v") => `(tactic| repeat (first | walk_at "v1" | walk_at "v2"))

variable {P : Program} {w : World} {K :
      PySem.W.Frag} {mg : Str → Option Value} {base : Heap}
abbrev s_law_nbent : Stmt := top 54
abbrev N_law_nbent : List Str := ["stream", "text", "at", "sign"]
abbrev P_law_nbent : List Str := ["stream", "text"]
theorem sc_law_nbent : FnScope N_law_nbent P_law_nbent (defScope s_law_nbent) := ⟨rfl, rfl, rfl, by decide +kernel, rfl, by decide +kernel, by decide +kernel⟩
theorem eqv_pairs_nil : ∀ (l : List (Str × Int)), PyData.eqv (needL l) (.list []) = decide (l = [])
  | [] => rfl
  | _ :: _ => rfl
def spNrow (a b : Addr) : Sp := fun vs H Q _ => ∃ (n : Nat) (L : LG) (v vn : V), vs = [.ref a, v, vn] ∧ Dt [a, b] H (logD L) v ∧ L.Ok ∧ Dt [a, b] H (needsL L) vn ∧ StreamAt a b n H ∧ n < 2 ^ 38 ∧
  (∀ H', StreamAt a b (n + 4) H' → Keep [a, b] H H' → Q .non H') ∧ (∀ r, Vd L r → ∀ v' H', NewM [a, b] H H' (rwD r) v' → StreamAt a b (n + 4) H' → Keep [a, b] H H' → Q v' H')
theorem ok_nrow {a b : Addr} (d : Fd K mg "_law_nrow" s_law_nrow P_law_nrow) (d_law_below : FdB K mg) (d_law_pick : FdPick K mg) (d_law_chance : FdChance K mg) (B : Blt mg) : FnOk P w K mg base CX0 3 d.f d.fd P_law_nrow (spNrow a b) := by
  have G_law_below : FnOk P w K mg base CX0 1 d_law_below.f d_law_below.fd P_law_below (spBelow a b) := ok_below d_law_below B
  have G_law_pick : FnOk P w K mg base CX0 2 d_law_pick.f d_law_pick.fd P_law_pick (spPick a b) := ok_pick d_law_pick d_law_below B
  have G_law_chance : FnOk P w K mg base CX0 2 d_law_chance.f d_law_chance.fd P_law_chance (spChance a b) := ok_chance d_law_chance d_law_below B
  refine d.F.ok sc_law_nrow (fun vs H Q E h => ?_) (fun cdv A outer s H vs Q E hr h => ?_)
  · obtain ⟨n, L, v, vn, rfl, _⟩ := h
    rfl
  · obtain ⟨n, L, v, vn, rfl, hd, ok, hn, hS, hlt, k0, k1⟩ := h
    refine ⟨_, (pss_cons (ps_set (i := 3) sc_law_nrow.nd rfl (by first | exact Or.inl rfl | exact Or.inr rfl) (pe_op op_add pe_int (pe_call G_law_below (hr.mono (by decide)) (by rfl) d_law_below.g d_law_below.F.kp d_law_below.b .nil pass0 (pa_cons (pv 0) (pa_cons (pe_op op_add (pe_callB (c_len K) (by rfl) B.len (by decide +kernel) (pa_cons (pe_ix (x_list K) (pv 1) pe_int (fun _ _ => rfl)) pa_nil)) pe_int) pa_nil)))))
      (pss_cons (ps_if (pt_cmpR (o_eqP K hr.units) (pe_ix (x_list K) (pv 2) (pe_op op_sub (pv 3) pe_int) (fun _ _ => rfl)) (pe_lst pa_nil) (nomark _)) (pss_one (ps_ret pe_non)) pss_nil)
      (pss_cons (ps_asg (pe_call G_law_pick (hr.mono (by decide)) (by rfl) d_law_pick.g d_law_pick.F.kp d_law_pick.b .nil pass0 (pa_cons (pv 0) (pa_cons (pe_ix (x_list K) (pv 2) (pe_op op_sub (pv 3) pe_int) (fun _ _ => rfl)) pa_nil))) (g_tup K (n := 2) rfl (pgs_cons (pg_name (i := 4) sc_law_nrow.nd rfl (by first | exact Or.inl rfl | exact Or.inr rfl)) (pgs_cons (pg_name (i := 5) sc_law_nrow.nd rfl (by first | exact Or.inl rfl | exact Or.inr rfl)) pgs_nil))))
      (pss_cons (ps_setLc (i := 6) (own := [("k", 8)]) (g := gName 8) rfl sc_law_nrow.nd rfl rfl (sw_true rfl rfl rfl (by decide +kernel)) (pi_range2 (by rfl) B.range (pa_cons pe_int (pa_cons (pv 5) pa_nil))) (blkOk_by (own := [("k", 8)]) (N := N_law_nrow) (sc := defScope s_law_nrow) (by decide +kernel)) (fun _ _ _ _ _ => by exact (pg_name (i := 8) sc_law_nrow.nd rfl (by first | exact Or.inl rfl | exact Or.inr rfl))) (fun _ _ _ _ _ => by exact (pts_one (pt_cmpR (o_in K) (pv 4) (pe_ix (x_tup K) (pe_ix (x_list K) (pe_ix (x_list K) (pv 1) pe_int (fun _ _ => rfl)) (pe_op op_sub (pv 8) pe_int) (fun _ _ => rfl)) pe_int (fun _ _ => rfl)) (by rfl)))) (fun _ _ _ _ _ => by exact (pv 8)))
      (pss_cons (ps_set (i := 7) sc_law_nrow.nd rfl (by first | exact Or.inl rfl | exact Or.inr rfl) (pe_ifExp (PW.pt (pw_and (pt_cmpR (o_neP K hr.units) (pv 6) (pe_lst pa_nil) (nomark _)) (pw_and1 (pt_val (pe_call G_law_chance (hr.mono (by decide)) (by rfl) d_law_chance.g d_law_chance.F.kp d_law_chance.b .nil pass0 (pa_cons (pv 0) (pa_cons pe_int pa_nil))))))) (pe_call G_law_pick (hr.mono (by decide)) (by rfl) d_law_pick.g d_law_pick.F.kp d_law_pick.b .nil pass0 (pa_cons (pv 0) (pa_cons (pv 6) pa_nil))) pe_non))
      (pss_one (ps_ret (pe_tup (pa_cons (pv 3) (pa_cons (pv 4) (pa_cons (pv 7) pa_nil))))))))))), ?_⟩
    obtain ⟨lp, q, lr, lrx, rfl, hlp, hq, hlr, dta, nlp, nq, nlr⟩ := hd.logE
    have llr : lrx.length = L.rows.length := by rw [dta.length]; simp
    obtain ⟨nl, nx, rfl, hnl, dnx, nnl⟩ := hn.needsE
    have few := ok.few
    walk_at "v"
    refine ⟨n, (lrx.length : Int) + 1, rfl, by omega, by omega, hS, by omega, fun d1 H1 d10 d11 st1 kp1 => ?_⟩
    obtain ⟨i, rfl⟩ : ∃ y : Nat, d1 = y := ⟨d1.toNat, by omega⟩
    have hi' : i < L.rows.length + 1 := by omega
    obtain ⟨t, ns, en, nd, nsp, nl12, hver, vdi⟩ := need_std ok (k := i + 1) (by omega) (by omega)
    have e0 : i + 1 - 1 = i := by omega
    rw [e0] at en
    obtain ⟨y, hy, dy⟩ := dnx.get (i := i) (d := needL (standing t ns)) (by rw [List.getElem?_map, en]; rfl)
    obtain ⟨yl, yx, rfl, hyl, dyx, nyl⟩ := dy.needE
    have lyx : yx.length = ns.length := by rw [dyx.length]; simp [standing]
    have ei : (1 : Int) + (i : Nat) = ((i + 1 : Nat) : Int) := by omega
    refine i_rI0 ?_
    show gName 3 (V.int ((1 : Int) + (i : Nat))) _ _ _
    rw [ei]
    walk_at "v"
    refine i_ixL (kp1 _ _ nnl hnl) (by rw [show ((i + 1 : Nat) : Int) - 1 = ((i : Nat) : Int) by omega]; exact atI_nat hy) ?_
    walk_at "v"
    refine ⟨show 0 ≤ sizeLine by decide, fun l hl => ?_⟩
    refine i_eqP (d := needL (standing t ns)) (e := .list []) (Dt.keep (kp1.new hl) _ _ dy) (dt_nil upd_same) (.inr (by decide)) ?_
    rw [eqv_pairs_nil]
    have kp1' := kp1.new (o := .lst []) hl
    have st1' := st1.new (o := .lst []) hl
    obtain ⟨H2, eH2⟩ : ∃ H2, H2 = upd H1 l (.lst []) := ⟨_, rfl⟩
    rw [← eH2] at kp1' st1' ⊢
    clear eH2
    walk_at "v"
    refine ifd (fun hnil => ?_) (fun hnil => ?_)
    · walk_at "v"
      exact k0 _ (st1'.mono (by omega)) kp1'
    · have npos : 0 < ns.length := by
        rcases ns with _ | ⟨x, r⟩
        · exact absurd rfl hnil
        · simp
      walk_at "v"
      refine i_ixL (kp1' _ _ nnl hnl) (by rw [show ((i + 1 : Nat) : Int) - 1 = ((i : Nat) : Int) by omega]; exact atI_nat hy) ?_
      walk_at "v"
      refine ⟨n + 1, yl, yx, rfl, kp1' _ _ nyl hyl, nyl, by omega, by omega, st1', by omega, fun x j H3 hx st3 kp3 => ?_⟩
      obtain ⟨dj, gj, zj⟩ := dyx.get' hx
      have hjn : j < ns.length := by have := (List.getElem?_eq_some_iff.mp hx).1; omega
      have hnj : ns[j]? = some ns[j] := by simp [hjn]
      obtain ⟨page, epg⟩ : ∃ page, page = ns[j] := ⟨_, rfl⟩
      have epn : page ∈ ns := by rw [epg]; simp
      have edj : dj = pairD (page, ver t page) := by
        unfold standing at gj
        rw [List.map_map, List.getElem?_map, hnj] at gj
        rw [epg]; exact (Option.some.inj gj).symm
      subst edj
      obtain ⟨xa, rfl, hxa, nxa⟩ := zj.pairE
      have hv0 := ver_nonneg t page
      have hv1 := hver page
      have kp03 := kp1'.trans kp3
      refine g_two (kp03 _ _ nxa hxa) ?_
      walk_at "v"
      refine w_rg2 (by omega) (by omega) (by omega) (by omega) ?_
      refine lc_by walk_range fun D hD => ⟨fun m H' => ∃ bs : List Nat, H' D = some (.lst (bs.map fun k => V.int (k : Nat))) ∧ bs.length ≤ m ∧ (∀ k ∈ bs, 1 ≤ k ∧ k ≤ m ∧ ((k : Nat) : Int) ∈ wr L.rows page) ∧ Same H3 H', ?_, fun _ _ _ _ => trivial, ?_, ?_⟩
      · exact ⟨[], upd_same, Nat.zero_le _, by simp, (Same.refl _).new hD⟩
      · rintro m x H5 H4 hm ⟨bs, hD4, lbs, hbs, s4⟩ ⟨rfl, ex⟩
        have hm' : m + 1 < ver t page := by omega
        have ex' : x = V.int ((m + 1 : Nat) : Int) := ex.trans (congrArg V.int (by omega : (1 : Int) + (m : Nat) = ((m + 1 : Nat) : Int)))
        clear ex
        subst ex'
        have hmr : m < L.rows.length := by omega
        have hrm : L.rows[m]? = some L.rows[m] := by simp [hmr]
        obtain ⟨ym, hym, dym⟩ := dta.get (i := m) (d := rowD L.rows[m]) (by rw [List.getElem?_map, hrm]; rfl)
        obtain ⟨rm, wm, erm⟩ : ∃ rm wm, L.rows[m] = (rm, wm) := ⟨_, _, rfl⟩
        rw [erm] at dym hrm
        obtain ⟨ty, t1, t2, rfl, hty, ht1, ht2, nty, nt1, nt2⟩ := dym.rowE
        have kp04 : ∀ {z o}, z ∉ [a, b] → H z = some o → H4 z = some o := fun nz h => s4 _ _ (kp03 _ _ nz h)
        walk_at "v"
        refine i_ixL (kp04 nlp hlp) (atI_nat (j := 1) rfl) ?_
        walk_at "v"
        refine i_ixL (kp04 nlr hlr) (by rw [show ((m + 1 : Nat) : Int) - 1 = ((m : Nat) : Int) by omega]; exact atI_nat hym) ?_
        walk_at "v"
        refine i_ixT (kp04 nty hty) (atI_nat (j := 1) rfl) ?_
        refine ⟨t2, _, rfl, .inr (SqT.of (kp04 nt2 ht2)), rfl, flat_strs _, ?_⟩
        walk_at "v"
        rw [if_neg Bool.false_ne_true, inV_strs]
        have wrm : ((m + 1 : Nat) : Int) ∈ wr L.rows page ↔ page ∈ wm := by
          rw [wr_iff (by omega)]
          unfold Writes
          rw [show m + 1 - 1 = m by omega, hrm]
          simp
        refine ifd (fun c3 => ?_) (fun c3 => ?_)
        · walk_at "v"
          refine ⟨_, hD4, by rw [List.length_map]; exact small1000 (by omega), bs ++ [m + 1], by rw [List.map_append]; exact upd_same, by simp; omega, fun k hk => ?_, s4.put hD⟩
          rcases List.mem_append.mp
                hk with hk | hk
          · obtain ⟨h1, h2, h3⟩ := hbs k hk
            exact ⟨h1, by omega, h3⟩
          · simp at hk; subst hk
            exact ⟨by omega, by omega, wrm.mpr c3⟩
        · exact ⟨bs, hD4, by omega, fun k hk => by obtain ⟨h1, h2, h3⟩ := hbs k hk; exact ⟨h1, by omega, h3⟩, s4⟩
      · rintro H4 ⟨bs, hD4, lbs, hbs, s4⟩
        have kp04 : Keep [a, b] H H4 := kp03.trans (Keep.of_same s4)
        have st4 := st3.same s4
        have fin : ∀ (o : Option Nat) (H5 : Hp), OvOk L page (ver t page) o → StreamAt a b (n + 4) H5 → Keep [a, b] H H5 →
            tRet (tTup (tCons (tVar 3) (tCons (tVar 4) (tCons (tVar 7) tNil)))) { nx := fun x H' => Q V.non H', rt := Q } [some (.ref a), some (.ref lp), some (.ref nl), some (.int ((i + 1 : Nat) : Int)), some (.str page), some (.int (ver t page)), some (.ref D), some (numV o), none] H5 := fun o H5 ho st5 kp5 => by
          walk_at "v"
          refine ⟨show 3 ≤ sizeLine by decide, fun t' ht' => ?_⟩
          walk_at "v"
          have vd : Vd L ⟨i + 1, page, o⟩ := (vdi rfl).mpr ⟨epn, ho⟩
          exact k1 _ vd _ _ ((NewM.tup (M := [a, b]) (Keep.refl _ _) ht' fun _ _ _ => DtAll.cons dt_i (DtAll.cons dt_s (DtAll.cons (numV_dt o) DtAll.nil)) : NewM [a, b] H5 _ (rwD ⟨i + 1, page, o⟩) _).pre kp5) (st5.new ht') (kp5.new ht')
        have nD := st3.nm hD
        walk_at "v"
        refine ⟨show 0 ≤ sizeLine by decide, fun l2 hl2 => ?_⟩
        have hD5 := h_new (o := .lst []) hD4 hl2
        have kp05 := kp04.new (o := .lst []) hl2
        have st5 := st4.new (o := .lst []) hl2
        have dD : Dt [] (upd H4 l2 (.lst [])) (.list ((bs.map fun k => ((k : Nat) : Int)).map .int)) (.ref D) := dt_list (xs := (bs.map fun k => ((k : Nat) : Int)).map V.int) (by rw [hD5]; simp [List.map_map, Function.comp_def]) (DtAll.ints _) (by simp)
        refine i_neP (e := .list []) dD (dt_nil upd_same) (.inr (by decide)) ?_
        have en : PyData.eqv (.list ((bs.map fun k => ((k : Nat) : Int)).map .int)) (.list []) = decide (bs = []) := by cases bs <;> rfl
        rw [en]
        obtain ⟨H5, eH5⟩ : ∃ H5, H5 = upd H4 l2 (.lst []) := ⟨_, rfl⟩
        rw [← eH5] at kp05 st5 hD5 ⊢
        clear dD eH5
        walk_at "v"
        refine ifn (fun hb => ?_) (fun hb => ?_)
        · walk_at "v"
          refine ⟨n + 2, 2, rfl, by decide, by decide, st5.mono (by omega), by omega, fun ch H6 st6 kp6 => ?_⟩
          walk_at "v"
          cases ch with
          | true =>
            refine iteT ?_
            walk_at "v"
            refine ⟨n + 3, D, _, rfl, kp6 _ _ nD hD5, nD, ?_, ?_, st6, by omega, fun x j' H7 hx' st7 kp7 => ?_⟩
            · rw [List.length_map]; exact List.length_pos_iff.mpr hb
            · rw [List.length_map]; omega
            · rw [List.getElem?_map] at hx'
              obtain ⟨kk, hkk, rfl⟩ := Option.map_eq_some_iff.mp hx'
              obtain ⟨h1, h2, h3⟩ := hbs kk (List.mem_of_getElem? hkk)
              exact fin (some kk) H7 ⟨h1, by omega, h3⟩ st7 ((kp05.trans kp6).trans kp7)
          | false =>
            refine iteF ?_
            exact fin none H6 trivial (st6.mono (by omega)) (kp05.trans kp6)
        · refine iteF ?_
          exact fin none H5 trivial (st5.mono (by omega)) kp05
theorem i_slS {z : Str} {lo hi : Option Int} {H : Hp} {Q : VK} (h : z.length ≤ sizeLine) (q : Q (.str (cutS z lo hi)) H) : rSlS (.str z) lo hi H Q := ⟨z, rfl, h, q⟩
theorem cutS_le (z : Str) (lo hi : Option Int) : (cutS z lo hi).length ≤ z.length := by
  rw [len_tl, len_tl]
  unfold cutS
  rw [tl_mk, List.length_take, List.length_drop]
  exact Nat.le_trans (Nat.min_le_right _ _) (Nat.sub_le _ _)
def spNbent (a b : Addr) : Sp := fun vs H Q _ => ∃ (n : Nat) (z : Str), vs = [.ref a, .str z] ∧ z.length ≤ 1000 ∧ StreamAt a b n H ∧ n < 2 ^ 38 ∧ ∀ (z' : Str) H', z'.length ≤ 2 * z.length + 5 → StreamAt a b (n + 4) H' → Keep [a, b] H H' → Q (.str z') H'
theorem ok_nbent {a b : Addr} (d : Fd K mg "_law_nbent" s_law_nbent P_law_nbent) (d_law_below : FdB K mg) (d_law_pick : FdPick K mg) (B : Blt mg) : FnOk P w K mg base CX0 3 d.f d.fd P_law_nbent (spNbent a b) := by
  have G_law_below : FnOk P w K mg base CX0 1 d_law_below.f d_law_below.fd P_law_below (spBelow a b) := ok_below d_law_below B
  have G_law_pick : FnOk P w K mg base CX0 2 d_law_pick.f d_law_pick.fd P_law_pick (spPick a b) := ok_pick d_law_pick d_law_below B
  refine d.F.ok sc_law_nbent (fun vs H Q E h => ?_) (fun cdv A outer s H vs Q E hr h => ?_)
  · obtain ⟨n, z, rfl, _⟩ := h
    rfl
  · obtain ⟨n, z, rfl, hz, hS, hlt, k⟩ := h
    refine ⟨_, (pss_cons (ps_set (i := 2) sc_law_nbent.nd rfl (by first | exact Or.inl rfl | exact Or.inr rfl) (pe_call G_law_below (hr.mono (by decide)) (by rfl) d_law_below.g d_law_below.F.kp d_law_below.b .nil pass0 (pa_cons (pv 0) (pa_cons (pe_op op_add (pe_callB c_lenS (by rfl) B.len (by decide +kernel) (pa_cons (pv 1) pa_nil)) pe_int) pa_nil))))
      (pss_cons (ps_set (i := 3) sc_law_nbent.nd rfl (by first | exact Or.inl rfl | exact Or.inr rfl) (pe_call G_law_pick (hr.mono (by decide)) (by rfl) d_law_pick.g d_law_pick.F.kp d_law_pick.b .nil pass0 (pa_cons (pv 0) (pa_cons (pe_op op_cat (pe_callTy (c_listS rfl) (by rfl) B.list (by decide +kernel) (pa_cons pe_str pa_nil)) (pe_lst (pa_cons pe_str (pa_cons pe_str (pa_cons pe_str (pa_cons pe_str (pa_cons pe_str pa_nil))))))) pa_nil))))
      (pss_one (ps_ret (pe_op o_addS (pe_op o_addS (pe_slice sl_str (pv 1) po_none (po_some (pv 2))) (pe_call G_law_pick (hr.mono (by decide)) (by rfl) d_law_pick.g d_law_pick.F.kp d_law_pick.b .nil pass0 (pa_cons (pv 0) (pa_cons (pe_lst (pa_cons pe_str (pa_cons (pv 3) pa_nil))) pa_nil)))) (pe_slice sl_str (pv 1) (po_some (pe_op op_add (pv 2) (pe_call G_law_below (hr.mono (by decide)) (by rfl) d_law_below.g d_law_below.F.kp d_law_below.b .nil pass0 (pa_cons (pv 0) (pa_cons pe_int pa_nil))))) po_none)))))), ?_⟩
    have zs : z.length ≤ sizeLine := Nat.le_trans hz (by decide)
    walk_at "v"
    refine i_lenS zs ?_
    walk_at "v"
    refine ⟨n, (z.length : Int) + 1, rfl, by omega, by omega, hS, by omega, fun d1 H1 d10 d11 st1 kp1 => ?_⟩
    walk_at "v"
    refine ⟨_, rfl, by decide, fun l hl => ?_⟩
    walk_at "v"
    refine ⟨show 5 ≤ sizeLine by decide, fun l2 hl2 => ?_⟩
    refine i_cat (h_new upd_same hl2) upd_same (by rw [List.length_map]; decide) (fun p hp => ?_)
    have kp2 := ((kp1.new (o := .lst ((Str.ofString " \n0123456789abdelnorsvxz").cps.toList.map fun c => V.str ⟨#[c]⟩)) hl).new (o := .lst [V.str (Str.ofString "  "), V.str (Str.ofString " 0"), V.str (Str.ofString "over"), V.str (Str.ofString "lacks"), V.str (Str.ofString "end")]) hl2)
    have st2 := ((st1.new (o := .lst ((Str.ofString " \n0123456789abdelnorsvxz").cps.toList.map fun c => V.str ⟨#[c]⟩)) hl).new (o := .lst [V.str (Str.ofString "  "), V.str (Str.ofString " 0"), V.str (Str.ofString "over"), V.str (Str.ofString "lacks"), V.str (Str.ofString "end")]) hl2)
    have npab := st2.nm hp
    walk_at "v"
    refine ⟨n + 1, p, _, rfl, upd_same, npab, by simp, ?_, st2.new hp, by omega, fun x i H3 hx st3 kp3 => ?_⟩
    · rw [List.length_append, List.length_map]; decide
    have hsg : ∃ sg : Str, x = .str sg ∧ sg.length ≤ 5 := by
      have hm := List.mem_of_getElem? hx
      rcases List.mem_append.mp
            hm with hm | hm
      · obtain ⟨c, _, rfl⟩ := List.mem_map.mp hm
        exact ⟨_, rfl, by show 1 ≤ 5; decide⟩
      · simp only [List.mem_cons, List.not_mem_nil, or_false] at hm
        rcases hm with rfl | rfl | rfl | rfl | rfl
        all_goals exact ⟨_, rfl, by decide⟩
    obtain ⟨sg, rfl, lsg⟩ := hsg
    have kp4 := (kp2.new hp).trans kp3
    walk_at "v"
    have lc : ∀ lo hi, (cutS z lo hi).length ≤ z.length := cutS_le z
    refine i_slS zs ?_
    walk_at "v"
    refine ⟨show 2 ≤ sizeLine by decide, fun l3 hl3 => ?_⟩
    walk_at "v"
    refine ⟨n + 2, l3, _, rfl, upd_same, st3.nm hl3, (show 0 < 2 by decide), (show 2 ≤ 1000000 by decide), st3.new hl3, by omega, fun x2 i2 H4 hx2 st4 kp4' => ?_⟩
    have hsg2 : ∃ sg : Str, x2 = .str sg ∧ sg.length ≤ 5 := by
      have hm := List.mem_of_getElem? hx2
      simp only [List.mem_cons,
            List.not_mem_nil, or_false] at hm
      rcases hm with rfl | rfl
      · exact ⟨_, rfl, by decide⟩
      · exact ⟨_, rfl, lsg⟩
    obtain ⟨sg2, rfl, lsg2⟩ := hsg2
    have kp5 := (kp4.new (o := .lst [V.str (Str.ofString ""), V.str sg]) hl3).trans kp4'
    have big : ∀ {m : Nat}, m ≤ 3000 → m ≤ sizeLine := fun h => Nat.le_trans h (by decide)
    have c1 := lc none (some d1)
    refine i_adds (big (by omega)) ?_
    walk_at "v"
    refine ⟨n + 3, 2, rfl, by decide, by decide, st4, by omega, fun d2 H5 d20 d21 st5 kp6 => ?_⟩
    walk_at "v"
    refine i_slS zs ?_
    have c2 := lc (some (d1 + d2)) none
    refine i_adds (big (by rw [len_app]; omega)) ?_
    refine k _ _ ?_ st5 (kp5.trans kp6)
    rw [len_app, len_app]; omega
end Lr
set_option Elab.async false
set_option linter.all false
set_option maxRecDepth 100000
set_option maxHeartbeats 4000000
/-! Vt: try, several clauses 'except x as n'. -/
namespace L2
open PySem PySem.Spec
      PyProof.Rows
abbrev Cl := Value × Nat × (Addr → Value → Option Addr → TS)
/-- behind a clause's suite its name is gone -/
def Ends.gone (D : Ends) (i : Nat) : Ends := ⟨fun t G => D.nx (t.set i none) G, D.rt, fun t G => D.bk (t.set i none) G, fun t G => D.ct (t.set i none) G⟩
/-- what the clauses wish, one after the other -/
def wNamed (K : PySem.W.Frag) (Wout : WX) (D : Ends) : List Cl → WX
  | [] => Wout
  | z :: r => fun cls d σ H => ∃ b, PySem.W.exmOne K cls z.1 = some b ∧ (b = true → ∀ a, H a = none → z.2.2 a cls d (D.gone z.2.1) (σ.set z.2.1 (some (.ref a))) H) ∧ (b = false → wNamed K Wout D r cls d σ H)
inductive Clauses (X : Cx) : List ExceptHandler → List Cl → Prop
  | nil : Clauses X [] []
  | cons {x n : Str} {i : Nat} {c : Value} {ts : Addr → Value → Option Addr → TS} {b₀ : Stmt} {suite : List Stmt} {np pos' : Pos} {hds : List ExceptHandler} {l : List Cl} (hi : X.N[i]? = some n) (hln : X.env.kindOf n = some .local) (hc : Names X x c)
      (hsu : ∀ (a : Addr) (oe : Obj) (cls : Value) (d : Option Addr) (pn : List (Addr × Obj)), Zc cls d oe → (∃ vs, oe.data = .fields vs) → PSs (X.suite a ((a, oe) :: pn)) (b₀ :: suite) (ts a cls d)) (r : Clauses X hds l) :
      Clauses X (.ExceptHandler (some (.Name x np)) (some n) (b₀ :: suite) pos' :: hds) ((c, i, ts) :: l)
section
variable {X : Cx} {body : List Stmt} {h₀ : ExceptHandler} {hds : List ExceptHandler} {l : List Cl} {pos : Pos} {tb : WX → TS} {Wout : WX}
theorem ps_try_named (hs : X.stack = X.env :: X.outer) (hf : X.env.frame = some X.env.locals) (hN : X.N.Nodup) (tk : Takes X Wout)
    (hb : ∀ (W : WX) (pn : List (Addr × Obj)) (xe : Value → Shared → Prop), Takes (X.tr
          pn xe) W → PassesOwn (model X.prog X.w) X.A X.env xe → PSs (X.tr pn xe) body (tb W))
    (hh : Clauses X (h₀ :: hds) l) : PS X (.Try body (h₀ :: hds) [] [] pos) (fun D σ H => tb (wNamed X.K Wout D l) D σ H) := by
  refine ⟨fun pins
        s σ H D I h => ?_⟩
  have okX := I.ok
  have framesX : X.A.frames = some (X.env :: X.outer) := by rw [okX.frames, hs]
  refine wpAny_Try_except ?_
  have run := (hb (wNamed X.K Wout D l) (X.pn ++ pins) (fun e u1 => wpAny (model X.prog X.w) X.A (noteFrame e X.env) (fun _ u2 => wpAny (model X.prog X.w) X.A (setFlight e none)
    (fun _ u3 => wpAny (model X.prog X.w) X.A (handleBy e X.env (h₀ :: hds)) (SP X pins D) X.xe u3) X.xe u2) X.xe u1) (fun u z xx => ?_) PassesOwn.looking).run [] s σ H D (I.toTry _) h
  refine wpAny_mono run (fun f z q => ?_) (fun e z q => q)
  · cases f with
    | next => obtain ⟨σ', G, J, q⟩ := q; exact wpAny_execs_nil ⟨σ', G, J.ofTry okX, q⟩
    | brk => obtain ⟨σ', G, J, q⟩ := q; exact ⟨σ', G, J.ofTry okX, q⟩
    | cont => obtain ⟨σ', G, J, q⟩ := q; exact ⟨σ', G, J.ofTry okX, q⟩
    | ret u => obtain ⟨v, σ', G, J, r, q⟩ := q; exact ⟨v, σ', G, J.ofTry okX, r, q⟩
  · obtain ⟨a, B, sI, pins', σ', G, cls, d, rfl, J0, nb, up, sky, na, os, ag, w⟩ := xx
    have Jt : Inv X pins σ' G sI := J0.ofTry okX
    have skyX : Sky B (X.env :: X.outer) a (Zc cls d) X.env.locals z.heap := by rw [← hs]; exact sky
    show wpAny (model X.prog X.w) X.A
          (noteFrame (.ref a) X.env) _ _ _
    refine Sky.land Zc.steady framesX hf skyX fun g3 fly3 up3 => ?_
    have Jl : Inv X pins σ' G { z with heap := g3 } := Jt.landed nb fly3.1 (up.trans up3) os ag
    obtain ⟨oX, vX, gotX, zcX, datX⟩ := fly3.there
    have offFr : ∀ {g : Heap} {o : Obj} {vs : Array Value}, g.FunFrames B (X.env :: X.outer) → g.get? a = some o → o.data = .fields vs → a ∉ frs (X.env :: X.outer) := fun {g o vs} ff e dd hm => by
      obtain ⟨_, o2, e2, no2⟩ := ff.mem hm
      rw [e] at e2; cases e2
      exact no2 _ dd
    have noFr := offFr fly3.2.2.1 gotX datX
    have noL : a ≠ X.env.locals := fun q => noFr (List.mem_filterMap.mpr ⟨X.env, List.mem_cons_self, by rw [hf, q]⟩)
    have noF : a ∉ X.fs := fun hm => by
      obtain ⟨e, he, q⟩
            := List.mem_filterMap.mp hm
      exact noFr (List.mem_filterMap.mpr ⟨e, List.mem_cons_of_mem _ he, q⟩)
    have Sl := Jl.suite gotX datX na noL noF
    have go : ∀ {hd2 : List ExceptHandler} {l2 : List Cl}, Clauses X hd2 l2 → wNamed X.K Wout D l2 cls d σ' G → wpAny (model X.prog X.w) X.A (handleBy (.ref a) X.env hd2) (SP X pins D) X.xe { z with heap := g3 } := by
      intro hd2 l2 hk
      induction hk with
      | nil =>
        intro w
        refine wpAny_handleBy_nil ?_
        obtain ⟨k1, k2, k3, oe, vs, T, oT, tt, he, hz, hd, h1, hr⟩ := id fly3
        unfold PySem.passOn
        refine wpAny_bind
              (wpAny_field he hd h1 ?_)
        rw [if_neg (show ¬ ((Value.ref T ==
              Value.none) = true) from by simp)]
        have last : wpAny (model X.prog X.w) X.A (setFlight (.ref a) X.env.frame) (fun _ u4 => wpAny (model X.prog X.w) X.A (throw (.ref a) : Sem Flow) (SP X pins D) X.xe u4) X.xe { z with heap := g3 } := by
          rw [hf]
          refine HandSPX.setFlight_upZ fly3 fun g4 at4 up4 => wpAny_throw (tk _ _ ?_)
          exact ⟨a, B, sI, pins, σ', G, cls, d, rfl, Jt, nb, (up.trans up3).trans up4, .inr (.inr (by rw [hs]; exact at4)), na, os, ag, w⟩
        first
          | exact wpAny_bind (wpAny_pure (wpAny_bind last))
          | exact wpAny_bind last
      | @cons x n i c ts b₀ suite np pos' hd3 l3 hi hln hc hsu r ih =>
        intro w
        obtain ⟨b, hb1, yes, no⟩ := w
        refine wpAny_handleBy_cons
              (codeAny_handlers_test ?_) (by intro q; cases q)
        have LT : PySem.W.Looks (model X.prog X.w) g3 (typeOf (.ref a)) cls := fun A Q E s k q => wpAny_typeOf_ref (k _ _ gotX) (by rw [zcX.1]; exact q)
        have LM := PySem.W.exm_one (M := model X.prog X.w) (Jl.kIn) LT hb1
        have test : ∀ {Q E : Value → Shared → Prop}, Q c { z with heap := g3 } → wpAny (model X.prog X.w) (X.A.mark (some (.ref a))) (eval (.Name x np) X.env) Q E { z with heap := g3 } := fun {Q E} q => by
          obtain ⟨hg, hdbg,
                hm | ⟨hm, hv, hnn⟩⟩ := hc
          · exact ld_glob (X := X.suite a ((a, oX) :: (X.pn ++ pins))) Sl hg hm q hdbg
          · exact ld_blt (X := X.suite a ((a, oX) :: (X.pn ++ pins))) Sl hg hm hv q hnn hdbg
        refine test (LM.here ?_)
        cases b with
        | false =>
          show wpAny _ X.A (handleBy (.ref a) X.env hd3) _ _ _
          exact ih (no rfl)
        | true =>
          refine
                codeAny_handlers_suite_as ?_
          refine HandSPX.lands_againZ fly3 fun g4 fly4 up4 => ?_
          have Jl4 : Inv X pins σ' G { z with heap := g4 } := Jt.landed nb fly4.1 ((up.trans up3).trans up4) os ag
          obtain ⟨o4, v4, got4, zc4, dat4⟩ := fly4.there
          have S4 := Jl4.suite got4 dat4 na noL noF
          refine store_ok (X := X.suite a ((a, o4) :: (X.pn ++ pins))) (v := .ref a) S4 hN hi (.inl hln) rfl (fun s5 S5 => ?_) (.inr hln)
          refine wpAny_mono ((hsu a o4 cls d (X.pn ++ pins) zc4 ⟨_, dat4⟩).run [] s5 _ G _ S5 (yes rfl a na)) (fun f s6 q => ?_) (fun _ _ q => False.elim q)
          have out : ∀ {t6 : St} {G6 : Hp} {Q : Shared → Prop}, Inv (X.suite a ((a, o4) :: (X.pn ++ pins))) [] t6 G6 s6 → (∀ s7, Inv X pins (t6.set i none) G6 s7 → Q s7) →
              wpAny (model X.prog X.w) X.A (do bindName X.env n .none; unbindBehindTheSuite X.env n pos') (fun _ s7 => Q s7) X.xe s6 := fun {t6 G6 Q} S6 hq => gone_ok (S6.unsuite okX) hN hi hln hq
          cases f with
          | next => obtain ⟨t6, G6, S6, q6⟩ := q; exact out S6 fun s7 J7 => ⟨_, _, J7, q6⟩
          | brk => obtain ⟨t6, G6, S6, q6⟩ := q; exact out S6 fun s7 J7 => ⟨_, _, J7, q6⟩
          | cont => obtain ⟨t6, G6, S6, q6⟩ := q; exact out S6 fun s7 J7 => ⟨_, _, J7, q6⟩
          | ret u => obtain ⟨v6, t6, G6, S6, r6, q6⟩ := q; exact out S6 fun s7 J7 => ⟨_, _, _, J7, r6, q6⟩
    exact go hh w
end
end L2
set_option Elab.async false
set_option linter.all false
set_option maxRecDepth 100000
set_option maxHeartbeats 4000000
/-! Vu: x(lambda: body), where x's except clauses look at their own names: what an exception wishes is told at the very slots. -/
namespace LamX
open PySem PySem.Spec
      PyProof.Rows L2
section
variable {X : Cx} {pins : List (Addr × Obj)}
      {σ : L2.St} {H HZ : Hp} {s s1 : Shared}
/-- the call of what was handed -/
theorem act_at {CXg : CXT} {Eg : XK} {Ng : List Str} {qg : Str} {sg : Scope} {g f c' : Addr} {cdg pm ctv : Value} {params : Arguments} {body : Expr} {scope : Scope} {k i : Nat} {a : Str} {pn : List (Addr × Obj)} {xe : Value → Shared → Prop} {W : WX} {tb : XK → TE} {p1 p2 : Pos}
    (I : Inv X pins σ H s) (L : LamS X.env.scope scope) (hf : s.heap.get? f = some (PySem.W.kla_obj "<lambda>" (X.env.qual ++
          "<lambda>") params body scope (cloFrom X.env.cells scope.names []) pm c' ctv)) (hfn : H f = none) (hfr : f ∉ frs X.stack)
    (hbind : bindArgs (PySem.W.kla_fn "<lambda>" (X.env.qual ++ "<lambda>") params body
          scope (cloFrom X.env.cells scope.names []) pm (.ref c') ctv) ⟨[], []⟩ = pure [])
    (tk : Takes ((cxOf CXg X.prog X.w X.K X.mg X.base Ng qg sg g cdg X.A X.stack s H Eg).tr pn xe) W) (hr : Room (k + 1) (X.A.deeper (envOfC qg sg s.heap.objs.size g cdg)))
    (hbody : ∀ (A : Around) (outer : List Env) (s : Shared) (H : Hp) (E : XK), Room k (A.deeper (lamEnv X scope s.heap.objs.size f c')) → PE (lamCx X A outer s H E scope f c') body (tb E))
    (hN : Ng[i]? = some a) (hv : Vis sg a) (hd : (a == ("__debug__" : Str)) = false
          := by decide) (hcd : (a == ("__classdict__" : Str)) = false := by decide) :
    PE ((cxOf CXg X.prog X.w X.K X.mg X.base Ng qg sg g cdg
          X.A X.stack s H Eg).tr pn xe) (.Call (.Name a p1) [] [] p2)
      (fun σZ HZ Q => σZ[i]? = some (some (.ref f)) ∧ HZ c' = some (CodeO c' (X.env.qual ++ "<lambda>")) ∧ tb (fun cls d G => W cls d σZ G) σ HZ Q) := by
  refine ⟨fun pinsZ sZ
        σZ HZ Q IZ h => ?_⟩
  obtain ⟨atf, atc, ht⟩ := h
  refine wpAny_Call_Name_kw (thn ((pe_var (pos := p1) (i := i) hN hv hd hcd).run pinsZ sZ σZ HZ (fun v G => v = .ref f ∧ G = HZ) IZ ⟨.ref f, atf, rfl, rfl⟩) fun u z1 ⟨v, G1, J1, r1, q1⟩ => ?_)
  obtain ⟨ev, eG⟩ := q1
  subst ev
  rw [eG] at J1
  obtain rfl : u =
        Value.ref f := r1
  have fAt : z1.heap.get? f = some (PySem.W.kla_obj "<lambda>" (X.env.qual ++ "<lambda>") params body scope (cloFrom X.env.cells scope.names []) pm c' ctv) := J1.base.keep f _ hf hfn hfr (fun z => nomatch (show f ∈ ([] : List Addr) from z))
  refine PySem.W.callWith_F0 ⟨_, _, _, _, fAt⟩ ?_
  have unZ : Un (frs X.stack) [] H HZ s.heap z1.heap := J1.base
  obtain ⟨⟨oc, vs, t, hoc, hdc, hvc⟩, _, _⟩ := J1.hok c' _ atc
  have rc : codeAny (model X.prog X.w) (X.A.deeper (envOfC qg sg s.heap.objs.size g cdg)) (.call (.ref f) ⟨[], []⟩)
      (CR (L2.CX X.prog X.w) (envOfC qg sg s.heap.objs.size g cdg :: X.stack) X.prog X.w HZ z1 Q (fun cls d G => W cls d σZ G)) z1 := by
    refine PySem.W.kla_callFunE hr.depth fAt rfl L.co L.gen rfl ⟨c', oc, vs, t, rfl, hoc, hdc, hvc⟩ ?_
    rw [hbind]
    refine wpAny_pure (wpAny_newFunctionEnv (fun y hy => (L.own y hy).2) (fun y hy => absurd hy (by simp)) (fun g1 hns hsb => ⟨J1.nolimit.fresh _ hsb, ?_⟩) L.kind)
    show codeAny _ _ (.expr body (lamEnv X scope z1.heap.objs.size f c')) _ _
    have kept : ∀ b o, z1.heap.get? b = some o → g1.get? b = some o := fun b o e =>
      hsb.extBut b o (Nat.ne_of_lt (Heap.lt_size e)) (Heap.get?_push_of_some _ e)
    have J : Inv (lamCx X (X.A.deeper (envOfC qg sg s.heap.objs.size g cdg)) (envOfC qg sg s.heap.objs.size g cdg :: X.stack) z1 HZ (fun cls d G => W cls d σZ G) scope f c') [] σ HZ { z1 with heap := g1, toks := z1.toks + ([] : List (Str × Value)).length } :=
      lam_start2 I L J1.env0 hr.hd unZ hns kept
    refine PySem.W.kla_codeExpr (wpAny_mono ((hbody _ _ z1 HZ _ (hr.deeper _)).run [] _ _ HZ Q J ht) (fun v z2 hq => ?_) fun e z2 hq => hq)
    obtain ⟨w', G', J', rv, q⟩ := hq
    exact ⟨w', G', J'.os, J'.bare, J'.base, J'.hok, rv, q⟩
  have out := passAt tk σZ
  refine wpAny_call (codeAny_mono rc fun r z2 hq => ?_)
  cases r with
  | error e => exact out pinsZ HZ z1 e z2 J1 hq
  | ok fl =>
    cases fl with
    | ret u => exact J1.after hq
    | next => exact False.elim hq
    | brk => exact False.elim hq
    | cont => exact False.elim hq
end
/-- the def that calls what it got; TT: what it makes of the lambda's reading -/
def GivesAt (X : Cx) (Ng : List Str) (x : Str) (sg : Scope) (g : Addr) (cdg : Value) (bg : List Stmt) (a : Str) (q : Str) (TT : (XK → Hp → VK → Prop) → Hp → VK → Prop) : Prop :=
  ∀ (f c' : Addr) (s : Shared) (H : Hp)
        (Q : VK) (tl : XK → Hp → VK → Prop),
    (∀ (W : WX) (pn : List (Addr × Obj)) (xe : Value → Shared → Prop) (p1 p2 : Pos), Takes ((cxOf C8.CX0 X.prog X.w X.K X.mg X.base Ng x sg g cdg X.A X.stack s H C8.E0).tr pn xe) W →
      PE ((cxOf C8.CX0 X.prog X.w X.K X.mg X.base Ng x sg g cdg X.A X.stack s H C8.E0).tr pn xe) (.Call (.Name a p1) [] [] p2) (fun σZ HZ Q => σZ[0]? = some (some (.ref f)) ∧ HZ c' = some (CodeO c' q) ∧ tl (fun cls d G => W cls d σZ G) HZ Q)) →
    H c' = some (CodeO
          c' q) → TT tl H Q →
    ∃ t, PSs (cxOf C8.CX0 X.prog X.w X.K X.mg X.base Ng x sg g cdg X.A X.stack s H
          C8.E0).nox bg t ∧ t { nx := fun _ H' => Q .non H', rt := Q } (L2.start Ng [.ref f]) H
section
variable {X : Cx}
theorem pe_lamAt {T : List (Addr × Str)} {TT : (XK → Hp → VK → Prop) → Hp → VK → Prop} {x a : Str} {g c P : Addr} {k : Nat} {pg : Arguments} {bg : List Stmt} {sg : Scope} {dV kV doc pm cdv ct oc : Value} {an od : Option Addr} {osl : Array (Option Value)} {Ng : List Str}
    {params : Arguments} {body : Expr} {scope : Scope} {t : XK → TE} {p lpos pos : Pos}
          (hg : Gl X x) (hm : X.mg x = some (.ref g)) (hk : PySem.W.keepIn X.K (.ref g) = true)
    (lk : X.K.lookup g = some ⟨oc, od, .func (PySem.W.fnOf x x pg bg sg dV kV doc pm an cdv ct), osl⟩) (hcg : PySem.W.codeIn X.K cdv x = true) (hb
          : L2.Binds X.K (PySem.W.fnOf x x pg bg sg dV kV doc pm an cdv ct) [a] []) (Sg : FnScope Ng [a] sg) (hNg : Ng[0]? = some a) (hva : Vis sg a)
    (hG : GivesAt X Ng x sg g cdv bg a (X.env.qual ++ "<lambda>") TT)
    (TB : TabB X.base X.mg c P) (hcode : X.env.code = .ref c) (hmT : (P, X.env.qual ++ "<lambda>") ∈ T) (hu : ∀ p ∈ T, p.1 = P →
          p.2 = X.env.qual ++ "<lambda>") (hr : Room (k + 2) X.A) (L : LamS X.env.scope scope) (hdef : defaultsOf params X.env = ([], []))
    (hbind : ∀ (q : Str) (cl : List (Str × Addr)) (pm cv ctv : Value), bindArgs
          (PySem.W.kla_fn "<lambda>" q params body scope cl pm cv ctv) ⟨[], []⟩ = pure [])
    (hbody : ∀ (A : Around) (outer : List Env) (s : Shared) (H : Hp) (E : XK) (f c' : Addr), Room k
          (A.deeper (lamEnv X scope s.heap.objs.size f c')) → PE (lamCx X A outer s H E scope f c') body (t E))
    (hdb : (x == ("__debug__" : Str)) = false := by decide) (hd : (a == ("__debug__" : Str))
          = false := by decide) (hcd : (a == ("__classdict__" : Str)) = false := by decide) :
    PE X (.Call (.Name x p) [.Lambda params body
          scope lpos] [] pos) (tLam T TT t) := by
  refine ⟨fun pins
        s σ H Q I h => ?_⟩
  obtain ⟨tabs, h⟩ := h
  refine wpAny_Call_Name_kw
        (ld_glob I hg hm ?_ hdb)
  refine PySem.W.callWith_K (h₀ := X.base)
        I.ok.mod.kin hk ?_ (by rfl) (by rfl)
  show wpAny _ _ (spliced ((false, eval (.Lambda params body
        scope lpos) X.env) :: backTo pos (starEach [] X.env))) _ _ s
  refine Calls.spliced_cons (lam_make2 I TB hcode hmT hu tabs hdef (L.has I.ok) fun f c' pm' ctv G1 z J1 eN tabs1 hf hfn hfr hco => ?_)
  refine Calls.spliced_nil ⟨J1.kIn, ?_⟩
  have rc : codeAny (model X.prog X.w) X.A (.call (.ref g) ⟨[.ref f], []⟩) (CR C8.CX0 X.stack X.prog X.w G1 z Q C8.E0) z := by
    refine run_ofS (N := Ng) (ps := [a]) (us := [.ref f]) (vs := [.ref f]) lk hcg Sg hr J1.env0 (hb z [.ref f] J1.kIn rfl) (.cons rfl .nil) rfl fun room => ?_
    obtain ⟨t2, ht2, hq2⟩ := hG f c' z G1 Q (fun E G Q' => t E σ G Q') (fun W pn xe p1 p2 tk => act_at (i := 0) J1 L hf hfn hfr (hbind _ _ _ _ _) tk room (fun A outer s H E room2 => hbody A outer s H E f c' room2) hNg hva hd hcd) hco (h G1 eN tabs1)
    exact ⟨t2, ht2.nox, hq2⟩
  refine wpAny_call (codeAny_mono rc fun r z2 hq => ?_)
  cases r with
  | error e => exact (show
        False from hq).elim
  | ok fl =>
    cases fl with
    | ret u => exact J1.after hq
    | next => exact False.elim hq
    | brk => exact False.elim hq
    | cont => exact False.elim hq
end
end LamX
set_option Elab.async false
set_option linter.all false
set_option maxRecDepth 100000
set_option maxHeartbeats 4000000
namespace Lr
open PySem PySem.Spec PyProof.Rows L2 TL
open C8 (InsC call_isC)
open LamX (GivesAt CodeO)
local macro_rules | `(tactic| walk_at "ne") => `(tactic| (first | assumption | (refine ne_sym ?_; assumption) | (exact ne_of_none (by assumption) (by assumption)) | (exact ne_sym (ne_of_none (by assumption) (by assumption)))))
local macro_rules | `(tactic| walk_at "h") => `(tactic| (first | assumption | exact upd_same | (refine h_new ?_ (by assumption); walk_at "h") | (refine h_ne (by walk_at "ne") ?_; walk_at "h")))
local macro_rules | `(tactic| walk_at "v1") => `(tactic| (with_reducible first
  | refine i_seq ?_ | refine i_asg ?_ | refine i_ret ?_ | refine i_next ?_ | refine i_drop ?_ | refine i_ifS ?_ | refine i_if ?_ | refine i_and ?_ | refine i_or ?_ | refine i_not ?_ | refine i_test ?_ | refine i_tB ?_ | refine i_bl ?_ | refine i_yes ?_
  | refine i_op ?_ | refine i_un ?_ | refine i_chain ?_ | refine i_andV ?_ | refine i_orV ?_ | refine i_notV ?_ | refine i_cb ?_ | refine i_cons ?_ | refine i_nil ?_ | refine i_bm ?_ | refine i_bm0 ?_ | refine i_c ?_ | refine i_name ?_ | refine i_sub ?_
  | refine i_call ?_ | refine i_lst ?_ | refine i_tup ?_ | refine i_par ?_ | refine i_par2 ?_ | refine i_sl ?_ | refine i_np ?_ | refine i_pt ?_ | refine i_int ?_ | refine i_m0 ?_ | refine i_m1 ?_ | refine i_isS ?_
  | refine i_rI0 ?_ | refine i_inSign ?_ | refine i_notInSign ?_ | refine i_int1 ?_ | refine i_tru ?_ | refine i_isN ?_ | refine i_notN ?_ | refine iteT ?_ | refine iteF ?_ | refine i_brk ?_ | refine i_rt ?_ | refine i_nx ?_ | refine i_bk ?_ | refine i_ct ?_ | refine i_for ?_ | refine i_lc ?_ | refine i_dc ?_ | refine i_iL ?_ | refine i_iT ?_ | refine i_iR1 ?_ | refine i_iR2 ?_ | refine i_iS ?_ | refine i_iE ?_ | refine i_iEK ?_ | refine i_iEQ ?_ | refine i_dget ?_ | refine i_fld ?_ | refine i_sfld ?_ | refine i_dput ?_ | refine i_meth ?_ | refine i_rU ?_ | refine i_cont ?_ | refine i_make ?_))
local macro_rules | `(tactic| walk_at "v2") => `(tactic| (first
  | ((with_reducible refine' i_var ?k1 ?_); (case k1 => exact rfl))
  | ((with_reducible refine' i_eq ?k1 ?_); (case k1 => exact rfl))
  | ((with_reducible refine' i_ne ?k1 ?_); (case k1 => exact rfl))
  | ((with_reducible refine' i_ixL ?k1 ?k2 ?_); (case k1 => walk_at "h"); (case k2 => exact rfl))
  | ((with_reducible refine' i_ixT ?k1 ?k2 ?_); (case k1 => walk_at "h"); (case k2 => exact rfl))
  | ((with_reducible refine' i_lenL ?k1 ?_); (case k1 => walk_at "h"))
  | ((with_reducible refine' i_lenT ?k1 ?_); (case k1 => walk_at "h"))
  | (refine i_wipe (show wipe _ _ = wipe _ _ from rfl) ?_)
  | ((with_reducible refine' i_setL ?k1 ?k2 ?_); (case k1 => walk_at "h"); (case k2 => exact rfl))
  | ((with_reducible refine' i_tyl ?k1 ?_); (case k1 => walk_at "h"))))
local macro_rules | `(tactic| walk_at "v") => `(tactic| repeat (first | walk_at "v1" | walk_at "v2"))

variable {P : Program} {w : World} {K :
      PySem.W.Frag} {mg : Str → Option Value} {base : Heap}
/-- what _law_nindex makes of what it is handed -/
def EIndex (CR CT : Addr) (Q : VK) : XK := fun cls d G => (cls = .ref CR ∧ ∃ dd v, d = some dd ∧ G dd = some (.xd [(("index" : Str), v)]) ∧ ∀ p, G p = none → Q (.ref p) (upd G p (.lst [.str ("rows" : Str), v]))) ∨
  (cls = .ref CT ∧ ∃ dd v, d = some dd ∧ G dd = some (.xd [(("line" : Str), v)]) ∧ ∀ p, G p = none → Q (.ref p) (upd G p (.lst [.str ("text" : Str), v])))
def TIndex (CR CT : Addr) : (XK → Hp → VK → Prop) → Hp → VK → Prop := fun tl H Q => ∀ E : XK, (∀ cls d G, EIndex CR CT Q cls d G → E cls d G) → tl E H (fun _ G => Q .non G)
structure Exm (K : PySem.W.Frag) (CR CT : Addr) : Prop where
  rr : PySem.W.exmOne K (.ref CR) (.ref CR) = some true
  tr : PySem.W.exmOne K (.ref CT) (.ref CR) = some false
  tt : PySem.W.exmOne K (.ref CT) (.ref CT) = some true
abbrev s_law_nindex : Stmt := top 53
abbrev N_law_nindex : List Str := ["call", "e"]
theorem sc_law_nindex : FnScope N_law_nindex ["call"] (defScope s_law_nindex) := ⟨rfl, rfl, rfl, by decide +kernel, rfl, by decide +kernel, by decide +kernel⟩
theorem nindex_gives {X : Cx} {g : Addr} {cdg : Value} {q : Str} (eR : ExRows X.K X.mg) (eT : ExText X.K X.mg) (ex : Exm X.K eR.C eT.C) : GivesAt X N_law_nindex "_law_nindex" (defScope s_law_nindex) g cdg (defBody s_law_nindex) "call" q (TIndex eR.C eT.C) := by
  intro f c' s H Q tl act hc h
  refine ⟨_, pss_cons (ps_try_named (X := (cxOf C8.CX0 X.prog X.w X.K X.mg X.base N_law_nindex "_law_nindex" (defScope s_law_nindex) g cdg X.A X.stack s H C8.E0).nox) (Wout := fun _ _ _ _ => False)
      (tb := fun W D σ H => σ[0]? = some (some (.ref f)) ∧ H c' = some (CodeO c' q) ∧ tl (fun cls d G => W cls d σ G) H (fun _ G => D.nx σ G))
      rfl rfl sc_law_nindex.nd takes_none5 (fun W pn xe tk _ => ?_)
      (Clauses.cons (i := 1) (c := .ref eR.C) rfl rfl ⟨rfl, by decide, .inl eR.g⟩ (fun a oe cls d pn hz hf => pss_one (ps_ret (pe_lst (pa_cons pe_str (pa_cons (pe_xf eR.xf eR.no hz hf (pv 1)) pa_nil)))))
        (Clauses.cons (i := 1) (c := .ref eT.C) rfl rfl ⟨rfl, by decide, .inl eT.g⟩ (fun a oe cls d pn hz hf => pss_one (ps_ret (pe_lst (pa_cons pe_str (pa_cons (pe_xf eT.xf eT.no hz hf (pv 1)) pa_nil))))) .nil)))
    (pss_one (ps_ret pe_non)), ?_⟩
  · exact pss_one (ps_expr (act W pn xe _ _ tk))
  · refine ⟨rfl, hc, h _ fun cls d G he => ?_⟩
    rcases he with ⟨rfl, dd, v, rfl, hg, k⟩ | ⟨rfl, dd, v, rfl, hg, k⟩
    · refine ⟨true, ex.rr, fun _ a ha => ?_, fun z => Bool.noConfusion z⟩
      exact ⟨_, rfl, rfl, rfl, dd, _, v, rfl, hg, by simp [List.lookup], show 2 ≤ sizeLine by decide, k⟩
    · refine ⟨false, ex.tr, fun z => Bool.noConfusion z, fun _ => ⟨true, ex.tt, fun _ a ha => ?_, fun z => Bool.noConfusion z⟩⟩
      exact ⟨_, rfl, rfl, rfl, dd, _, v, rfl, hg, by simp [List.lookup], show 2 ≤ sizeLine by decide, k⟩
theorem nindex_at {X : Cx} {g : Addr} {cdg : Value} {q : Str} (eR : ExRows K mg) (eT : ExText K mg) (ex : Exm K eR.C eT.C) (hK : X.K = K := by rfl) (hm : X.mg = mg := by rfl) : GivesAt X N_law_nindex "_law_nindex" (defScope s_law_nindex) g cdg (defBody s_law_nindex) "call" q (TIndex eR.C eT.C) := by
  subst hK hm
  exact nindex_gives eR eT ex
end Lr
set_option Elab.async false
set_option linter.all false
set_option maxRecDepth 100000
set_option maxHeartbeats 4000000
namespace Lr
open PySem PySem.Spec PyProof.Rows L2 TL
open C8 (InsC call_isC)
open LamX (GivesAt CodeO Tabs TabS TabB ExtN)
local macro_rules | `(tactic| walk_at "ne") => `(tactic| (first | assumption | (refine ne_sym ?_; assumption) | (exact ne_of_none (by assumption) (by assumption)) | (exact ne_sym (ne_of_none (by assumption) (by assumption)))))
local macro_rules | `(tactic| walk_at "h") => `(tactic| (first | assumption | exact upd_same | (refine h_new ?_ (by assumption); walk_at "h") | (refine h_ne (by walk_at "ne") ?_; walk_at "h")))
local macro_rules | `(tactic| walk_at "v1") => `(tactic| (with_reducible first
  | refine i_seq ?_ | refine i_asg ?_ | refine i_ret ?_ | refine i_next ?_ | refine i_drop ?_ | refine i_ifS ?_ | refine i_if ?_ | refine i_and ?_ | refine i_or ?_ | refine i_not ?_ | refine i_test ?_ | refine i_tB ?_ | refine i_bl ?_ | refine i_yes ?_
  | refine i_op ?_ | refine i_un ?_ | refine i_chain ?_ | refine i_andV ?_ | refine i_orV ?_ | refine i_notV ?_ | refine i_cb ?_ | refine i_cons ?_ | refine i_nil ?_ | refine i_bm ?_ | refine i_bm0 ?_ | refine i_c ?_ | refine i_name ?_ | refine i_sub ?_
  | refine i_call ?_ | refine i_lst ?_ | refine i_tup ?_ | refine i_par ?_ | refine i_par2 ?_ | refine i_sl ?_ | refine i_np ?_ | refine i_pt ?_ | refine i_int ?_ | refine i_m0 ?_ | refine i_m1 ?_ | refine i_isS ?_
  | refine i_rI0 ?_ | refine i_inSign ?_ | refine i_notInSign ?_ | refine i_int1 ?_ | refine i_tru ?_ | refine i_isN ?_ | refine i_notN ?_ | refine iteT ?_ | refine iteF ?_ | refine i_brk ?_ | refine i_rt ?_ | refine i_nx ?_ | refine i_bk ?_ | refine i_ct ?_ | refine i_for ?_ | refine i_lc ?_ | refine i_dc ?_ | refine i_iL ?_ | refine i_iT ?_ | refine i_iR1 ?_ | refine i_iR2 ?_ | refine i_iS ?_ | refine i_iE ?_ | refine i_iEK ?_ | refine i_iEQ ?_ | refine i_dget ?_ | refine i_fld ?_ | refine i_sfld ?_ | refine i_dput ?_ | refine i_meth ?_ | refine i_rU ?_ | refine i_cont ?_ | refine i_make ?_))
local macro_rules | `(tactic| walk_at "v2") => `(tactic| (first
  | ((with_reducible refine' i_var ?k1 ?_); (case k1 => exact rfl))
  | ((with_reducible refine' i_eq ?k1 ?_); (case k1 => exact rfl))
  | ((with_reducible refine' i_ne ?k1 ?_); (case k1 => exact rfl))
  | ((with_reducible refine' i_ixL ?k1 ?k2 ?_); (case k1 => walk_at "h"); (case k2 => exact rfl))
  | ((with_reducible refine' i_ixT ?k1 ?k2 ?_); (case k1 => walk_at "h"); (case k2 => exact rfl))
  | ((with_reducible refine' i_lenL ?k1 ?_); (case k1 => walk_at "h"))
  | ((with_reducible refine' i_lenT ?k1 ?_); (case k1 => walk_at "h"))
  | (refine i_wipe (show wipe _ _ = wipe _ _ from rfl) ?_)
  | ((with_reducible refine' i_setL ?k1 ?k2 ?_); (case k1 => walk_at "h"); (case k2 => exact rfl))
  | ((with_reducible refine' i_tyl ?k1 ?_); (case k1 => walk_at "h"))))
local macro_rules | `(tactic| walk_at "v") => `(tactic| repeat (first | walk_at "v1" | walk_at "v2"))

variable {P : Program} {w : World} {K :
      PySem.W.Frag} {mg : Str → Option Value} {base : Heap}
abbrev slaw : Stmt := top 55
abbrev Nlaw : List Str := ["script", "stream", "turn", "log", "needs", "rows", "text", "handed", "was", "again", "due", "told", "at", "page", "end", "bad", "asked", "bent", "made", "odd", "k", "row", "line"]
abbrev Plaw : List Str := ["script"]
theorem sclaw : FnScope Nlaw Plaw (defScope slaw) := ⟨rfl, rfl, rfl, by decide +kernel, rfl, by decide +kernel, by decide +kernel⟩
/-- a def whose code object stands at c -/
theorem okC {x qual : Str} {st : Stmt} {f c : Addr} {N ps : List Str} {k : Nat} {sp : Sp} {oc kV doc pm ct : Value} {od an : Option Addr} {osl : Array (Option Value)}
    (lk : K.lookup f = some ⟨oc, od, .func (PySem.W.fnOf x qual (defArgs st) (defBody st) (defScope st) .none kV doc pm an (.ref c) ct), osl⟩) (hcd : PySem.W.codeIn K (.ref c) qual = true) (S : FnScope N ps (defScope st)) (len : ∀ vs H Q E, sp vs H Q E → vs.length = ps.length)
    (hbody : ∀ (A : Around) (outer : List Env) (s : Shared) (H : Hp) (vs : List V) (Q : VK) (E : XK), Room k (A.deeper (envOfC qual (defScope st) s.heap.objs.size f (.ref c))) → sp vs H Q E →
      ∃ t, PSs (cxOf CX0 P w K mg base N qual (defScope st) f (.ref c) A outer s H E).nox (defBody st) t ∧ t { nx := fun _ H' => Q .non H', rt := Q } (start N vs) H) :
    FnOk P w K mg base CX0 (k + 1) f (PySem.W.fnOf x qual (defArgs st) (defBody st) (defScope st) .none kV doc pm an (.ref c) ct) ps sp := by
  refine fn_of lk hcd S len fun
        A outer s H vs Q E hr hsp => ?_
  obtain ⟨t, h, q⟩ := hbody A outer s H vs Q E hr hsp
  exact ⟨t, h.nox, q⟩
def lawQ : Str := (envOfC "law" (defScope slaw) 0 0 .none).qual ++ "<lambda>"
def TL (PT : Addr) : List (Addr × Str) := [(PT, lawQ)]
/-- no error leaves a call that makes none -/
theorem FnOk.quiet {k : Nat} {f : Addr} {fd : FuncData} {ps : List Str} {sp : Sp} (F : FnOk P w K mg base (L2.CX P w) k f fd ps sp) : FnOk P w K mg base CX0 k f fd ps (fun vs H Q _ => sp vs H Q (fun _ _ _ => False)) := by
  refine ⟨fun vs H Q E h => F.len vs H Q _ h, fun A outer s H args us vs Q E hr he hb hv h => ?_⟩
  refine codeAny_mono (F.run A outer s H args us vs Q _ hr he hb hv h) fun r s' q => ?_
  cases r with
  | ok fl =>
    cases fl with
    | ret u => exact q
    | next => exact q
    | brk => exact q
    | cont => exact q
  | error e =>
    obtain ⟨_, _, _, _, _, _, _, _, _, _, _, _, z⟩ := q
    exact z.elim
theorem FnOk.or {CX : CXT} {k : Nat} {f : Addr} {fd : FuncData} {ps : List Str} {sp sp' : Sp} (F : FnOk P w K mg base CX k f fd ps sp) (G : FnOk P w K mg base CX k f fd ps sp') : FnOk P w K mg base CX k f fd ps (fun vs H Q E => sp vs H Q E ∨ sp' vs H Q E) :=
  ⟨fun vs H Q E h => h.elim (F.len vs H Q E) (G.len vs H Q E), fun A outer s H args us vs Q E hr he hb hv h => h.elim (F.run A outer s H args us vs Q E hr he hb hv) (G.run A outer s H args us vs Q E hr he hb hv)⟩
/-! ### what stands through the law's turns -/
section
variable {H H' : Hp}
mutual
theorem Dt.extn {S : List Addr} (k : ExtN H H') : ∀ (d : PyData) (v : V), Dt S H d v → Dt S H' d v
  | .none, _, h => by unfold Dt at *; exact h
  | .bool b, _, h => by unfold Dt at *; exact h
  | .int i, _, h => by unfold Dt at *; exact h
  | .str x, _, h => by unfold Dt at *; exact h
  | .list ds, _, h => by
    unfold Dt at *
    obtain ⟨a, xs, e, n, q, z⟩ := h
    exact ⟨a, xs, e, n, k a _ q (fun ps e => nomatch e), DtAll.extn k ds xs z⟩
  | .tuple ds, _, h => by
    unfold Dt at *
    obtain ⟨a, xs, e, n, q, z⟩ := h
    exact ⟨a, xs, e, n, k a _ q (fun ps e => nomatch e), DtAll.extn k ds xs z⟩
  | .dict _, _, h => by unfold Dt at h; exact h.elim
theorem DtAll.extn {S : List Addr} (k : ExtN H H') : ∀ (ds : List PyData) (xs : List V), DtAll S H ds xs → DtAll S H' ds xs
  | [], _, h => by rw [DtAll.nil_iff] at *; exact h
  | d :: ds, _, h => by
    obtain ⟨x, r, e, h1, h2⟩ := DtAll.cons_iff.mp h
    exact DtAll.cons_iff.mpr ⟨x, r, e, Dt.extn k d x h1, DtAll.extn k ds r h2⟩
end
end
theorem LogAt.extn {S : List Addr} {C : Addr} {H H' : Hp} {p : Addr} {L : LG} (h : LogAt S C H p L) (k : ExtN H H') : LogAt S C H' p L := by
  obtain ⟨np, dx, tn, lr, dw, ln, kvs, q, h1, h2, h3, h4, h5, h6, ⟨e, h7⟩, h8, h9⟩ := h
  exact ⟨np, dx, tn, lr, dw, ln, kvs, q, k _ _ h1 (fun _ e => nomatch e), h2, k _ _ h3 (fun _ e => nomatch e), Dt.extn k _ _ h4, h5, k _ _ h6 (fun _ e => nomatch e), ⟨e, fun x hx => k _ _ (h7 x hx) (fun _ e => nomatch e)⟩, h8, Dt.extn k _ _ h9⟩
theorem LogAt.keep {S : List Addr} {C : Addr} {H H' : Hp} {p : Addr} {L : LG} (h : LogAt S C H p L) (k : Keep S H H') : LogAt S C H' p L := by
  obtain ⟨np, dx, tn, lr, dw, ln, kvs, q, h1, h2, h3, h4, h5, h6, ⟨e, h7⟩, h8, h9⟩ := h
  exact ⟨np, dx, tn, lr, dw, ln, kvs, q, k _ _ np h1, h2, k _ _ h2 h3, Dt.keep k _ _ h4, h5, k _ _ h5 h6, ⟨e, fun x hx => k _ _ (h8 x hx) (h7 x hx)⟩, h8, Dt.keep k _ _ h9⟩
theorem LogAt.nil {S : List Addr} {C : Addr} {H : Hp} {p : Addr} {L : LG} (h : LogAt S C H p L) : LogAt [] C H p L := by
  obtain ⟨np, dx, tn, lr, dw, ln, kvs, q, h1, h2, h3, h4, h5, h6, ⟨e, h7⟩, h8, h9⟩ := h
  exact ⟨by simp, dx, tn, lr, dw, ln, kvs, q, h1, by simp, h3, Dt.mono (by simp) _ _ h4, by simp, h6, ⟨e, h7⟩, fun _ _ => by simp, Dt.mono (by simp) _ _ h9⟩
theorem StreamAt.extn {a b : Addr} {n : Nat} {H H' : Hp} (s : StreamAt a b n H) (k : ExtN H H') : StreamAt a b n H' := by
  obtain ⟨ne, cells, x, c, m, h1, h2, r⟩ := s
  exact ⟨ne, cells, x, c, m, k _ _ h1 (fun _ e => nomatch e), k _ _ h2 (fun _ e => nomatch e), r⟩
theorem tabs_kp {T : List (Addr × Str)} {H H' : Hp} {M : List Addr} (t : Tabs T H) (k : Keep M H H') (hM : ∀ m ∈ M, ∃ xs, H m = some (.lst xs)) : Tabs T H' := fun p hp => by
  obtain ⟨ps, h1, h2, h3⟩ := t p hp
  have no : ∀ {z : Addr} {o : HO}, H z = some o → (∀ xs, o ≠ .lst xs) → z ∉ M := fun e n m => by
    obtain ⟨xs, e2⟩ := hM _ m
    rw [e2] at e; cases e
    exact n xs rfl
  refine ⟨ps, k _ _ (no h1 (fun _ e => nomatch e)) h1, h2, fun pos cv hc => ?_⟩
  obtain ⟨c, e1, e2⟩
        := h3 pos cv hc
  exact ⟨c, e1, k _ _ (no e2 (fun xs e => by unfold CodeO at e; cases e)) e2⟩
structure Env1 (a b C PT : Addr) (n : Nat) (L : LG) (vl vn : V) (p : Addr) (H : Hp) : Prop where
  st : StreamAt a b n H
  tb : Tabs (TL PT) H
  dl : Dt [a, b] H (logD L) vl
  dn : Dt [a, b] H (needsL L) vn
  la : LogAt [a, b] C H p L
theorem StreamAt.lsts {a b : Addr} {n : Nat} {H : Hp} (s : StreamAt a b n H) : ∀ m ∈ [a, b], ∃ xs, H m = some (.lst xs) := by
  obtain ⟨ne, cells, x, c, m, h1, h2, r⟩ := s
  intro z hz
  rcases List.mem_cons.mp
        hz with rfl | hz
  · exact ⟨_, h1⟩
  · simp at hz; subst hz; exact ⟨_, h2⟩
theorem Env1.keep {a b C PT : Addr} {n m : Nat} {L : LG} {vl vn : V} {p : Addr} {H H' : Hp} (e : Env1 a b C PT n L vl vn p H) (k : Keep [a, b] H H') (s : StreamAt a b m H') : Env1 a b C PT m L vl vn p H' :=
  ⟨s, tabs_kp e.tb k e.st.lsts, Dt.keep k _ _ e.dl, Dt.keep k _ _ e.dn, e.la.keep k⟩
theorem Env1.same {a b C PT : Addr} {n : Nat} {L : LG} {vl vn : V} {p : Addr} {H H' : Hp} (e : Env1 a b C PT n L vl vn p H) (k : Same H H') : Env1 a b C PT n L vl vn p H' := e.keep (Keep.of_same k) (e.st.same k)
theorem Env1.extn {a b C PT : Addr} {n : Nat} {L : LG} {vl vn : V} {p : Addr} {H H' : Hp} (e : Env1 a b C PT n L vl vn p H) (k : ExtN H H') (t : Tabs (TL PT) H') : Env1 a b C PT n L vl vn p H' :=
  ⟨e.st.extn k, t, Dt.extn k _ _ e.dl, Dt.extn k _ _ e.dn, e.la.extn k⟩
end Lr
set_option Elab.async false
set_option linter.all false
set_option maxRecDepth 100000
set_option maxHeartbeats 4000000
namespace Lr
open PySem PySem.Spec PyProof.Rows L2 TL
open C8 (InsC call_isC)
open LamX (GivesAt CodeO Tabs TabS TabB ExtN)
local macro_rules | `(tactic| walk_at "ne") => `(tactic| (first | assumption | (refine ne_sym ?_; assumption) | (exact ne_of_none (by assumption) (by assumption)) | (exact ne_sym (ne_of_none (by assumption) (by assumption)))))
local macro_rules | `(tactic| walk_at "h") => `(tactic| (first | assumption | exact upd_same | (refine h_new ?_ (by assumption); walk_at "h") | (refine h_ne (by walk_at "ne") ?_; walk_at "h")))
local macro_rules | `(tactic| walk_at "v1") => `(tactic| (with_reducible first
  | refine i_seq ?_ | refine i_asg ?_ | refine i_ret ?_ | refine i_next ?_ | refine i_drop ?_ | refine i_ifS ?_ | refine i_if ?_ | refine i_and ?_ | refine i_or ?_ | refine i_not ?_ | refine i_test ?_ | refine i_tB ?_ | refine i_bl ?_ | refine i_yes ?_
  | refine i_op ?_ | refine i_un ?_ | refine i_chain ?_ | refine i_andV ?_ | refine i_orV ?_ | refine i_notV ?_ | refine i_cb ?_ | refine i_cons ?_ | refine i_nil ?_ | refine i_bm ?_ | refine i_bm0 ?_ | refine i_c ?_ | refine i_name ?_ | refine i_sub ?_
  | refine i_call ?_ | refine i_lst ?_ | refine i_tup ?_ | refine i_par ?_ | refine i_par2 ?_ | refine i_sl ?_ | refine i_np ?_ | refine i_pt ?_ | refine i_int ?_ | refine i_m0 ?_ | refine i_m1 ?_ | refine i_isS ?_
  | refine i_rI0 ?_ | refine i_inSign ?_ | refine i_notInSign ?_ | refine i_int1 ?_ | refine i_tru ?_ | refine i_isN ?_ | refine i_notN ?_ | refine iteT ?_ | refine iteF ?_ | refine i_brk ?_ | refine i_rt ?_ | refine i_nx ?_ | refine i_bk ?_ | refine i_ct ?_ | refine i_for ?_ | refine i_lc ?_ | refine i_dc ?_ | refine i_iL ?_ | refine i_iT ?_ | refine i_iR1 ?_ | refine i_iR2 ?_ | refine i_iS ?_ | refine i_iE ?_ | refine i_iEK ?_ | refine i_iEQ ?_ | refine i_dget ?_ | refine i_fld ?_ | refine i_sfld ?_ | refine i_dput ?_ | refine i_meth ?_ | refine i_rU ?_ | refine i_cont ?_ | refine i_make ?_))
local macro_rules | `(tactic| walk_at "v2") => `(tactic| (first
  | ((with_reducible refine' i_var ?k1 ?_); (case k1 => exact rfl))
  | ((with_reducible refine' i_eq ?k1 ?_); (case k1 => exact rfl))
  | ((with_reducible refine' i_ne ?k1 ?_); (case k1 => exact rfl))
  | ((with_reducible refine' i_ixL ?k1 ?k2 ?_); (case k1 => walk_at "h"); (case k2 => exact rfl))
  | ((with_reducible refine' i_ixT ?k1 ?k2 ?_); (case k1 => walk_at "h"); (case k2 => exact rfl))
  | ((with_reducible refine' i_lenL ?k1 ?_); (case k1 => walk_at "h"))
  | ((with_reducible refine' i_lenT ?k1 ?_); (case k1 => walk_at "h"))
  | (refine i_wipe (show wipe _ _ = wipe _ _ from rfl) ?_)
  | ((with_reducible refine' i_setL ?k1 ?k2 ?_); (case k1 => walk_at "h"); (case k2 => exact rfl))
  | ((with_reducible refine' i_tyl ?k1 ?_); (case k1 => walk_at "h"))))
local macro_rules | `(tactic| walk_at "v") => `(tactic| repeat (first | walk_at "v1" | walk_at "v2"))

variable {P : Program} {w : World} {K :
      PySem.W.Frag} {mg : Str → Option Value} {base : Heap}
theorem FnOk.ex {ι : Type} {CX : CXT} {k : Nat} {f : Addr} {fd : FuncData} {ps : List Str} {sp : ι → Sp} (F : ∀ i, FnOk P w K mg base CX k f fd ps (sp i)) : FnOk P w K mg base CX k f fd ps (fun vs H Q E => ∃ i, sp i vs H Q E) :=
  ⟨fun vs H Q E ⟨i, h⟩ => (F i).len vs H Q E h, fun A outer s H args us vs Q E hr he hb hv ⟨i, h⟩ => (F i).run A outer s H args us vs Q E hr he hb hv h⟩
/-- rows handed that are a dict -/
def spRowsTextD (C CE : Addr) : Sp := fun vs H Q E => ∃ (L : LG) (p q : Addr) (kvs : List (Key × V)), vs = [.ref p, .ref q] ∧ LogAt [] C H p L ∧ H q = some (.dK kvs) ∧
  ∀ dd H', H' dd = some (.xd [(("index" : Str), .int 0)]) → Same H H' → E (.ref CE) (some dd) H'
theorem ok_rowstextD {C : Addr} (cLog : LogCls K mg C) (iLog : InsC K C) (eBadRows : ExRows K mg) (d : Fd K mg "rows_text" srows_text Prows_text) (dneed_log : FdNeedLog K mg) (drow_line : FdRowLine K mg) (drow_of : FdRowOf K mg) (dis_between : FdBetween K mg) (B : Blt mg) :
    FnOk P w K mg base (L2.CX P w) 5 d.f d.fd Prows_text (spRowsTextD C eBadRows.C) := by
  have Gneed_log : FnOk P w K mg base CX0 1 dneed_log.f dneed_log.fd Pneed_log (spNeedLog C) := ok_needlog cLog iLog dneed_log B
  have Grow_of : FnOk P w K mg base CX0 2 drow_of.f drow_of.fd Prow_of (spRowOf C) := ok_rowof cLog drow_of dis_between B
  have Grow_line : FnOk P w K mg base CX0 1 drow_line.f drow_line.fd Prow_line (spRowLine C) := ok_rowline cLog drow_line B
  have GeBadRows : FnOk P w K mg base CX0 1 eBadRows.f eBadRows.fd PBadRows___init__ (spExInit eBadRows.C "index") := ok_exrows eBadRows
  refine d.F.okX scrows_text (fun vs H Q E h => ?_) (fun cdv A outer s H vs Q E hr h => ?_)
  · obtain ⟨L, p, q, kvs, rfl, _⟩ := h
    rfl
  · obtain ⟨L, p, q, kvs, rfl, la, hq, k⟩ := h
    refine ⟨_, (pss_cons (ps_expr (pe_call Gneed_log (hr.mono (by decide)) (by rfl) dneed_log.g dneed_log.F.kp dneed_log.b .nil pass0 (pa_cons (pv 0) pa_nil)))
      (pss_cons (ps_if (pt_not (pt_val (pe_callB (c_isiT K) (by rfl) B.isinstance (by decide +kernel) (pa_cons (pv 1) (pa_cons (pe_tup (pa_cons (e_ty "list" B.list (by decide +kernel)) (pa_cons (e_ty "tuple" B.tuple (by decide +kernel)) pa_nil))) pa_nil))))) (pss_one (ps_raise rfl (takes_of rfl rfl rfl rfl) (pmk_oex eBadRows.T eBadRows.iC eBadRows.tI GeBadRows (hr.mono (by decide)) eBadRows.b .nil pass0 (by rfl) eBadRows.g (by exact (pa_cons pe_int pa_nil))))) pss_nil)
      (pss_cons (ps_set (i := 2) scrows_text.nd rfl (by first | exact Or.inl rfl | exact Or.inr rfl) (pe_lst pa_nil))
      (pss_cons (ps_for (passes_of rfl) rfl (w_enumQ K (by rfl) B.enumerate (pa_cons (pv 1) pa_nil)) (g_tup K (n := 2) rfl (pgs_cons (pg_name (i := 3) scrows_text.nd rfl (by first | exact Or.inl rfl | exact Or.inr rfl)) (pgs_cons (pg_name (i := 4) scrows_text.nd rfl (by first | exact Or.inl rfl | exact Or.inr rfl)) pgs_nil)))
      (pss_cons (ps_set (i := 5) scrows_text.nd rfl (by first | exact Or.inl rfl | exact Or.inr rfl) (pe_call Grow_of (hr.mono (by decide)) (by rfl) drow_of.g drow_of.F.kp drow_of.b .nil pass0 (pa_cons (pv 0) (pa_cons (pv 4) pa_nil))))
      (pss_cons (ps_if (pt_cmpR o_isN (pv 5) pe_non (nomark _)) (pss_one (ps_raise rfl (takes_of rfl rfl rfl rfl) (pmk_oex eBadRows.T eBadRows.iC eBadRows.tI GeBadRows (hr.mono (by decide)) eBadRows.b .nil pass0 (by rfl) eBadRows.g (by exact (pa_cons (pv 3) pa_nil))))) pss_nil)
      (pss_one (ps_expr (e_bm K PySem.F.plainAttrs_list PySem.F.slot_list_append PySem.F.type_list_append mt_append (pv 2) (pa_cons (pe_call Grow_line (hr.mono (by decide)) (by rfl) drow_line.g drow_line.F.kp drow_line.b .nil pass0 (pa_cons (pv 0) (pa_cons (pv 5) pa_nil))) pa_nil)))))))
      (pss_one (ps_ret (pe_m1 PySem.F.slot_str_join PySem.F.type_str_join (m_join K) pe_str (pv 2)))))))), ?_⟩
    obtain ⟨_, dx, tn, lr, dw, ln, kvs', q', hp, _⟩ := id la
    walk_at "v"
    refine ⟨p, dx, _, rfl, hp, ?_⟩
    walk_at "v"
    refine ⟨show 2 ≤ sizeLine by decide, fun tp htp => ?_⟩
    have s1 : Same H (upd H tp (.tup [.ty "list", .ty "tuple"])) := (Same.refl H).new htp
    walk_at "v"
    have e1 : PySem.W.kitOne K (.type "dict") (.type "list") = some false := kit_ty (by decide +kernel)
    have e2 : PySem.W.kitOne K (.type "dict") (.type "tuple") = some false := kit_ty (by decide +kernel)
    refine ⟨.ref q, tp, [.ty "list", .ty "tuple"], .type "dict", [.type "list", .type "tuple"], false, rfl, upd_same, .cons (.ty _) (.cons (.ty _) .nil), .base (.dK (s1 _ _ hq)), by simp [PySem.W.kitAny, e1, e2], ?_⟩
    walk_at "v"
    refine iteT ?_
    exact i_raise (y := .int 0) (H1 := upd H tp (.tup [.ty "list", .ty "tuple"])) ⟨rfl, rfl⟩ (fun R R' h q => h _ _ q) (fun dd hdd => k dd _ upd_same (s1.new hdd))
end Lr
set_option Elab.async false
set_option linter.all false
set_option maxRecDepth 100000
set_option maxHeartbeats 4000000
/-! Ty: whole texts, in plain terms: what is written reads back. -/
namespace Lr
open PySem PySem.Spec PyProof.Rows L2 TL
theorem letL : LET.cps.toList = [97, 98, 99, 100, 101, 102, 103, 104, 105, 106, 107, 108, 109, 110, 111, 112, 113, 114, 115, 116, 117, 118, 119, 120, 121, 122] := by decide +kernel
theorem let_big {c : Nat} (h : (letB c || figB c) = true) : 48 ≤ c := by
  rw [Bool.or_eq_true] at h
  rcases h with h | h
  · unfold letB at h
    rw [letL, decide_eq_true_eq] at h
    simp only [List.mem_cons, List.not_mem_nil, or_false] at h
    omega
  · exact ((fig_iff c).mp h).1
theorem name_free {z : Str} (h : nameB z = true) {s : Nat} (hs : s < 48) : s ∉ tl z := fun m => by
  simp only [nameB, Bool.and_eq_true] at h
  have := List.all_eq_true.mp h.1.2 s m
  have := let_big this
  omega
theorem num_free {n s : Nat} (hs : s < 48) : s ∉ tl (numW n) := by rw [tl_numW]; exact numL_free (.inl hs)
theorem words_free {L : LG} (ok : L.Ok) {r : Rw} (h : Vd L r) {s : Nat} (hs : s < 48) : ∀ w ∈ wordsOf L r, s ∉ tl w := by
  have te : tl ("end" : Str) = [101, 110, 100] := by decide +kernel
  have tk : tl ("lacks" : Str) = [108, 97, 99, 107, 115] := by decide +kernel
  have to : tl ("over" : Str) = [111, 118, 101, 114] := by decide +kernel
  intro w hw
  unfold wordsOf at hw
  rcases List.mem_cons.mp hw with rfl | hw
  · unfold firstW
    split
    · rw [te]; intro m; simp at m; omega
    · exact num_free hs
  · rcases List.mem_cons.mp hw with rfl | hw
    · exact name_free (ok.name _ (h.page ok)) hs
    · revert hw
      cases r.over with
      | none =>
        intro hw
        simp only [lastW, List.mem_cons, List.not_mem_nil, or_false] at hw
        subst hw; rw [tk]; intro m; simp at m; omega
      | some j =>
        intro hw
        simp only [lastW, List.mem_cons, List.not_mem_nil, or_false] at hw
        rcases hw with rfl | rfl
        · rw [to]; intro m; simp at m; omega
        · exact num_free hs
theorem words_line {L : LG} (ok : L.Ok) {r : Rw} (h : Vd L r) : words (lineOf L r) = wordsOf L r :=
  split_of tl_spc (by decide) (by unfold wordsOf; simp) (words_free ok h (by decide)) rfl
theorem parse_line {L : LG} (ok : L.Ok) {r : Rw} (h : Vd L r) : parse L (words (lineOf L r)) = some r := parse_some h (words_line ok h).symm
theorem line_free {L : LG} (ok : L.Ok) {r : Rw} (h : Vd L r) : 10 ∉ tl (lineOf L r) := by
  unfold lineOf
  rw [join_eq, tl_join, tl_spc]
  have key : ∀ l : List (List Nat), (∀ w ∈ l, 10 ∉ w) → 10 ∉ joinL [32] l := by
    intro l
    induction l with
    | nil => intro _; simp [joinL]
    | cons a r ih =>
      intro hl
      cases r with
      | nil => exact hl a (by simp)
      | cons b r =>
        show 10 ∉ a ++ ([32] ++ joinL [32] (b :: r))
        intro m
        rcases List.mem_append.mp m with m | m
        · exact hl a (by simp) m
        · rcases List.mem_append.mp m with m | m
          · simp at m
          · exact ih (fun w hw => hl w (by simp [hw])) m
  refine key _ (fun w hw => ?_)
  obtain ⟨x, hx, rfl⟩ := List.mem_map.mp hw
  exact words_free ok h (by decide) x hx
theorem join_nil : ∀ (l : List Str), tl (Str.join ("" : Str) l) = (l.map tl).flatten
  | [] => rfl
  | [x] => by show tl x = _; simp
  | x :: y :: r => by
    have ih := join_nil (y :: r)
    have e0 : tl ("" : Str) = [] := by decide +kernel
    show tl (x ++ ("" : Str) ++ Str.join ("" : Str) (y :: r)) = _
    rw [tl_append, tl_append, ih, e0]; simp
theorem join_nln : ∀ (ls : List Str), tl (Str.join NLN (ls ++ [("" : Str)])) = (ls.map fun x => tl x ++ [10]).flatten
  | [] => by show tl ("" : Str) = []; decide +kernel
  | x :: r => by
    have ih := join_nln r
    have e : Str.join NLN ((x :: r) ++ [("" : Str)]) = x ++ NLN ++ Str.join NLN (r ++ [("" : Str)]) := by
      cases r <;> rfl
    rw [e, tl_append, tl_append, ih, tl_nln]; simp
/-- a text of lines, each ended -/
theorem text_lines (ls : List Str) : Txt.join ("" : Str) (ls.map fun x => x ++ NLN) = Txt.join NLN (ls ++ [("" : Str)]) := by
  rw [join_eq, join_eq]
  refine ext_tl ?_
  rw [join_nil, join_nln, List.map_map]
  congr 1
  refine List.map_congr_left
        fun x _ => ?_
  show tl (x ++ NLN) = _
  rw [tl_append, tl_nln]
theorem textOf_lines (L : LG) (rs : List Rw) : textOf L rs = Txt.join NLN (rs.map (lineOf L) ++ [("" : Str)]) := by
  rw [← text_lines]; unfold textOf; rw [List.map_map]; rfl
theorem lines_textOf {L : LG} (ok : L.Ok) {rs : List Rw} (h : ∀ r ∈ rs, Vd L r) : lines (textOf L rs) = rs.map (lineOf L) ++ [("" : Str)] := by
  refine split_of tl_nln (by decide) (by simp) (fun p hp => ?_) (textOf_lines L rs).symm
  rcases List.mem_append.mp
        hp with hp | hp
  · obtain ⟨r, hr, rfl⟩ := List.mem_map.mp hp
    exact line_free ok (h r hr)
  · simp at hp; subst hp
    have : tl ("" : Str) = [] := by decide +kernel
    rw [this]; simp
theorem parse_lines {L : LG} (ok : L.Ok) : ∀ {rs : List Rw}, (∀ r ∈ rs, Vd L r) → (rs.map (lineOf L)).map (fun x => parse L (words x)) = rs.map some
  | [], _ => rfl
  | r :: rs, h => by
    simp only [List.map_cons, parse_line ok (h r (by simp))]
    rw [parse_lines ok (rs := rs) (fun z hz => h z (by simp [hz]))]
theorem fault_textOf {L : LG} (ok : L.Ok) {rs : List Rw} (h : ∀ r ∈ rs, Vd L r) : faultO L (textOf L rs) = none := by
  rw [faultO_of (lines_textOf ok h), faultL_none]
  · simp
  · intro y hy
    obtain ⟨r, hr, rfl⟩ := List.mem_map.mp hy
    rw [parse_line ok (h r hr)]; simp
/-- a text without fault is the text of the rows told -/
theorem text_told {L : LG} {z : Str} (hf : faultO L z = none) : ∃ (ls : List Str) (rs : List Rw), lines z = ls ++ [("" : Str)] ∧ ls.map (fun x => parse L (words x)) = rs.map some ∧ (∀ r ∈ rs, Vd L r) ∧ textOf L rs = z := by
  obtain ⟨ls, l, el⟩ := lines_cat z
  rw [faultO_of el] at hf
  cases efl : faultL L ls 0 with
  | some i => rw [efl] at hf; cases hf
  | none =>
    rw [efl] at hf
    have el0 : l = ("" : Str) := by
      by_cases h : l = ("" : Str)
      · exact h
      · simp only [if_neg h] at hf; cases hf
    subst el0
    obtain ⟨rs, ers⟩ := told_of (faultL_ok efl)
    have lens : ls.length = rs.length := by have := congrArg List.length ers; simpa using this
    have at_ : ∀ (j : Nat) (x : Str) (r : Rw), ls[j]? = some x → rs[j]? = some r → parse L (words x) = some r := fun j x r h1 h2 => by
      have e1 : (ls.map fun x => parse L (words x))[j]? = (rs.map some)[j]? := by rw [ers]
      rw [List.getElem?_map, List.getElem?_map, h1, h2] at e1
      exact Option.some.inj e1
    refine ⟨ls, rs, el, ers, fun r hr => ?_, ?_⟩
    · obtain ⟨j, hj, e⟩ := List.getElem_of_mem hr
      exact (of_parse (at_ j ls[j] r (by simp [show j < ls.length by omega]) (by rw [← e]; simp))).1
    · have e1 : rs.map (lineOf L) = ls := by
        refine List.ext_getElem?
              fun j => ?_
        rw [List.getElem?_map]
        rcases Nat.lt_or_ge j ls.length with h | h
        · have hj : j < rs.length := by omega
          have h1 : ls[j]? = some ls[j] := by simp [h]
          have h2 : rs[j]? = some rs[j] := by simp [hj]
          rw [h1, h2]
          have := (of_parse (at_ j _ _ h1 h2)).2
          show some (lineOf L rs[j]) = some ls[j]
          unfold lineOf
          rw [this]
          congr 1
          exact join_split tl_spc (by decide)
        · rw [List.getElem?_eq_none (by omega), List.getElem?_eq_none h]; rfl
      rw [textOf_lines, e1, ← el]
      exact join_split tl_nln (by decide)
end Lr
set_option Elab.async false
set_option linter.all false
set_option maxRecDepth 100000
set_option maxHeartbeats 4000000
/-! Tz: rows as data: how deep, and told apart. -/
namespace Lr
open PySem PySem.Spec PyProof.Rows L2 TL
theorem fit_ov {k : Nat} (o : Option Nat) : Fit (k + 1) (ovD o) := by cases o <;> trivial
theorem fit_rw (k : Nat) (r : Rw) : Fit (k + 2) (rwD r) := by
  refine ⟨by simp, fun d hd => ?_⟩
  simp only [List.mem_cons, List.not_mem_nil, or_false] at hd
  rcases hd with rfl | rfl | rfl
  · trivial
  · trivial
  · exact fit_ov _
theorem fit_rows (k : Nat) {rs : List Rw} (h : rs.length ≤ 1000) : Fit (k + 3) (.list (rs.map rwD)) := by
  refine ⟨by simpa using h, fun d hd => ?_⟩
  obtain ⟨r, _, rfl⟩ := List.mem_map.mp hd
  exact fit_rw k r
theorem Fit_un : ∀ (k : Nat) (d d' : PyData), Fit k d → un d' = un d → Fit k d' := by
  intro k
  induction k with
  | zero => intro d d' h; exact h.elim
  | succ k ih =>
    intro d d' h e
    have rowc : ∀ ds ds' : List PyData, ds.length ≤ 1000 ∧ (∀ z ∈ ds, Fit k z) → unAll ds' = unAll ds → ds'.length ≤ 1000 ∧ ∀ z ∈ ds', Fit k z := fun ds ds' ⟨h1, h2⟩ eu => by
      have l := congrArg List.length eu
      rw [unAll_len, unAll_len] at l
      refine ⟨by omega, fun z hz => ?_⟩
      obtain ⟨j, hj, ez⟩ := List.getElem_of_mem hz
      obtain ⟨y, gy, uy⟩ := unAll_get eu (i := j) (d := z) (by rw [← ez]; simp)
      exact ih y z (h2 y (List.mem_of_getElem? gy)) uy
    cases d <;> cases d' <;> simp only [un, PyData.list.injEq, reduceCtorEq] at e <;> first
      | trivial
      | exact h.elim
      | exact rowc _ _ h e
theorem nod_rw (r : Rw) : nod (rwD r) = 1 := by
  cases e : r.over <;> simp [rwD, ovD, nod, nodAll, e]
theorem nod_rows : ∀ (rs : List Rw), nodAll (rs.map rwD) = rs.length
  | [] => rfl
  | r :: rs => by simp only [List.map_cons, nodAll, nod_rw, nod_rows rs, List.length_cons]; omega
theorem un_ov (o : Option Nat) : un (ovD o) = ovD o := by cases o <;> rfl
theorem un_rw (r : Rw) : un (rwD r) = .list [.int (r.k : Nat), .str r.page, ovD r.over] := by
  simp only [rwD, un, unAll, un_ov]
theorem un_scal {d e : PyData} (h : un d = e) (he : (isK "list" e || isK "tuple" e) = false) : d = e := by
  cases d <;> simp only [un] at h <;> subst h <;> first
    | rfl
    | simp [isK, ptype] at he
theorem row_un {L : LG} {d : PyData} {r : Rw} (h : un d = un (rwD r)) (vd : Vd L r) : RowIs L d r := by
  rw [un_rw] at h
  obtain ⟨h1, h2⟩ := un_isRow h
  refine ⟨h1, ?_, vd⟩
  match e : kids d with
  | [] => rw [e] at h2; simp [unAll] at h2
  | [x] => rw [e] at h2; simp [unAll] at h2
  | [x, y] => rw [e] at h2; simp [unAll] at h2
  | [x, y, z] =>
    rw [e] at h2
    simp only [unAll, List.cons.injEq, and_true] at h2
    obtain ⟨e1, e2, e3⟩ := h2
    rw [un_scal e1 rfl, un_scal e2 rfl, un_scal e3 (by cases r.over <;> rfl)]
  | x :: y :: z :: w :: t => rw [e] at h2; simp [unAll] at h2
theorem rows_un {L : LG} {d : PyData} {rs : List Rw} (h : un d = un (.list (rs.map rwD))) (vd : ∀ r ∈ rs, Vd L r) : (isK "list" d || isK "tuple" d) = true ∧ Rows L (kids d) rs := by
  rw [un] at h
  obtain ⟨h1, h2⟩ := un_isRow h
  have l := congrArg List.length h2
  rw [unAll_len, unAll_len, List.length_map] at l
  refine ⟨h1, l, fun i k r g1 g2 => ?_⟩
  obtain ⟨y, gy, uy⟩ := unAll_get h2 g1
  rw [List.getElem?_map, g2] at gy
  obtain rfl : rwD r = y := Option.some.inj gy
  exact row_un uy (vd r (List.mem_of_getElem? g2))
theorem RowIs.uniq {L : LG} {d : PyData} {r r' : Rw} (h : RowIs L d r) (h' : RowIs L d r') : r = r' := by
  have e := h.kid.symm.trans h'.kid
  simp only [List.cons.injEq, PyData.int.injEq, PyData.str.injEq, and_true] at e
  obtain ⟨e1, e2, e3⟩ := e
  have e4 : r.over = r'.over := by
    cases a : r.over <;> cases b : r'.over <;> rw [a, b] at e3 <;> simp [ovD] at e3
    · congr 1; omega
  cases r; cases r'
  simp only at e1 e2 e4
  simp only [Rw.mk.injEq]
  exact ⟨by omega, e2, e4⟩
theorem Rows.uniq {L : LG} {ks : List PyData} {rs rs' : List Rw} (h : Rows L ks rs) (h' : Rows L ks rs') : rs = rs' := by
  refine List.ext_getElem?
        fun j => ?_
  rcases Nat.lt_or_ge j ks.length with hj | hj
  · have a1 : rs[j]? = some (rs[j]'(by rw [← h.1]; exact hj)) := by simp
    have a2 : rs'[j]? = some (rs'[j]'(by rw [← h'.1]; exact hj)) := by simp
    rw [a1, a2]
    congr 1
    exact (h.2 j ks[j] _ (by simp [hj]) a1).uniq (h'.2 j ks[j] _ (by simp [hj]) a2)
  · rw [List.getElem?_eq_none (by rw [← h.1]; exact hj), List.getElem?_eq_none (by rw [← h'.1]; exact hj)]
theorem told_uniq {L : LG} {z : Str} {ls ls' : List Str} {rs rs' : List Rw} (e1 : lines z = ls ++ [("" : Str)]) (e2 : lines z = ls' ++ [("" : Str)]) (p1 : ls.map (fun x => parse L (words x)) = rs.map some) (p2 : ls'.map (fun x => parse L (words x)) = rs'.map some) : rs = rs' := by
  have el : ls = ls' := List.append_cancel_right (e1.symm.trans e2)
  rw [el, p2] at p1
  exact (List.map_inj_right (fun a b h => Option.some.inj h)).mp p1.symm
theorem tup_rw (k : Nat) (r : Rw) : Tupled (k + 2) (rwD r) := by
  intro d hd
  simp only [List.mem_cons, List.not_mem_nil, or_false] at hd
  rcases hd with rfl | rfl | rfl
  · trivial
  · trivial
  · cases r.over <;> trivial
theorem late_name : nameB ("LATE" : Str) = false := by decide +kernel
theorem once_rw (k : Nat) {L : LG} (ok : L.Ok) {r : Rw} (h : Vd L r) : Once (k + 2) (rwD r) := by
  refine ⟨by simp, ?_, fun d hd => ?_⟩
  · rw [List.countP_eq_zero]
    intro d hd
    simp only [List.mem_cons, List.not_mem_nil, or_false] at hd
    rcases hd with rfl | rfl | rfl
    · simp [PyData.eqv]
    · have : ¬ r.page = ("LATE" : Str) := fun e => by
        have := ok.name _ (h.page ok)
        rw [e, late_name] at this; cases this
      simp [PyData.eqv, this]
    · cases r.over <;> simp [ovD, PyData.eqv]
  · simp only [List.mem_cons, List.not_mem_nil, or_false] at hd
    rcases hd with rfl | rfl | rfl
    · trivial
    · trivial
    · cases r.over <;> trivial
theorem late_rw (r : Rw) : PyData.eqv (rwD r) LATE = false := rfl
theorem spl_len (S : List Nat) : ∀ (l : List Nat) (k : Nat) (acc : List Nat), (spl S k acc l).length ≤ l.length + 1
  | [], k, acc => by rw [spl_nil]; simp
  | c :: r, 0, acc => by
    unfold spl
    split
    · have := spl_len S r (S.length - 1) []
      simp; omega
    · have := spl_len S r 0 (acc ++ [c])
      simp; omega
  | c :: r, k + 1, acc => by
    unfold spl
    have := spl_len S r k acc
    simp; omega
theorem lines_len (z : Str) : (lines z).length ≤ z.length + 1 := by
  have e := congrArg List.length (split_tl (x := z) tl_nln (by decide))
  rw [List.length_map] at e
  have := spl_len [10] (tl z) 0 []
  rw [← e, ← len_tl] at this
  exact this
theorem fault_none_of {L : LG} {z : Str} {ls : List Str} {rs : List Rw} (el : lines z = ls ++ [("" : Str)]) (em : ls.map (fun x => parse L (words x)) = rs.map some) : faultO L z = none := by
  rw [faultO_of el, faultL_none]
  · simp
  · intro y hy
    have : parse L (words y) ∈ rs.map some := by rw [← em]; exact List.mem_map.mpr ⟨y, hy, rfl⟩
    obtain ⟨r, _, e⟩ := List.mem_map.mp this
    rw [← e]; simp
end Lr
set_option Elab.async false
set_option linter.all false
set_option maxRecDepth 100000
set_option maxHeartbeats 16000000
namespace Lr
open PySem PySem.Spec PyProof.Rows L2 TL
open C8 (InsC call_isC)
open LamX (GivesAt CodeO Tabs TabS TabB ExtN)
local macro_rules | `(tactic| walk_at "ne") => `(tactic| (first | assumption | (refine ne_sym ?_; assumption) | (exact ne_of_none (by assumption) (by assumption)) | (exact ne_sym (ne_of_none (by assumption) (by assumption)))))
local macro_rules | `(tactic| walk_at "h") => `(tactic| (first | assumption | exact upd_same | (refine h_new ?_ (by assumption); walk_at "h") | (refine h_ne (by walk_at "ne") ?_; walk_at "h")))
local macro_rules | `(tactic| walk_at "v1") => `(tactic| (with_reducible first
  | refine i_seq ?_ | refine i_asg ?_ | refine i_ret ?_ | refine i_next ?_ | refine i_drop ?_ | refine i_ifS ?_ | refine i_if ?_ | refine i_and ?_ | refine i_or ?_ | refine i_not ?_ | refine i_test ?_ | refine i_tB ?_ | refine i_bl ?_ | refine i_yes ?_
  | refine i_op ?_ | refine i_un ?_ | refine i_chain ?_ | refine i_andV ?_ | refine i_orV ?_ | refine i_notV ?_ | refine i_cb ?_ | refine i_cons ?_ | refine i_nil ?_ | refine i_bm ?_ | refine i_bm0 ?_ | refine i_c ?_ | refine i_name ?_ | refine i_sub ?_
  | refine i_call ?_ | refine i_lst ?_ | refine i_tup ?_ | refine i_par ?_ | refine i_par2 ?_ | refine i_sl ?_ | refine i_np ?_ | refine i_pt ?_ | refine i_int ?_ | refine i_m0 ?_ | refine i_m1 ?_ | refine i_isS ?_
  | refine i_rI0 ?_ | refine i_inSign ?_ | refine i_notInSign ?_ | refine i_int1 ?_ | refine i_tru ?_ | refine i_isN ?_ | refine i_notN ?_ | refine iteT ?_ | refine iteF ?_ | refine i_brk ?_ | refine i_rt ?_ | refine i_nx ?_ | refine i_bk ?_ | refine i_ct ?_ | refine i_for ?_ | refine i_lc ?_ | refine i_dc ?_ | refine i_iL ?_ | refine i_iT ?_ | refine i_iR1 ?_ | refine i_iR2 ?_ | refine i_iS ?_ | refine i_iE ?_ | refine i_iEK ?_ | refine i_iEQ ?_ | refine i_dget ?_ | refine i_fld ?_ | refine i_sfld ?_ | refine i_dput ?_ | refine i_meth ?_ | refine i_rU ?_ | refine i_cont ?_ | refine i_make ?_))
local macro_rules | `(tactic| walk_at "v2") => `(tactic| (first
  | ((with_reducible refine' i_var ?k1 ?_); (case k1 => exact rfl))
  | ((with_reducible refine' i_eq ?k1 ?_); (case k1 => exact rfl))
  | ((with_reducible refine' i_ne ?k1 ?_); (case k1 => exact rfl))
  | ((with_reducible refine' i_ixL ?k1 ?k2 ?_); (case k1 => walk_at "h"); (case k2 => exact rfl))
  | ((with_reducible refine' i_ixT ?k1 ?k2 ?_); (case k1 => walk_at "h"); (case k2 => exact rfl))
  | ((with_reducible refine' i_lenL ?k1 ?_); (case k1 => walk_at "h"))
  | ((with_reducible refine' i_lenT ?k1 ?_); (case k1 => walk_at "h"))
  | (refine i_wipe (show wipe _ _ = wipe _ _ from rfl) ?_)
  | ((with_reducible refine' i_setL ?k1 ?k2 ?_); (case k1 => walk_at "h"); (case k2 => exact rfl))
  | ((with_reducible refine' i_tyl ?k1 ?_); (case k1 => walk_at "h"))))
local macro_rules | `(tactic| walk_at "v") => `(tactic| repeat (first | walk_at "v1" | walk_at "v2"))

variable {P : Program} {w : World} {K :
      PySem.W.Frag} {mg : Str → Option Value} {base : Heap}
/-- all that the law calls -/
structure Defs (K : PySem.W.Frag) (mg : Str → Option Value) (C : Addr) where
  start : Fd K mg "_law_start" s_law_start P_law_start
  below : FdB K mg
  chance : FdChance K mg
  pick : FdPick K mg
  mixed : FdMixed K mg
  lot : FdLot K mg
  name : FdName K mg
  names : FdNames K mg
  record : FdRecord K mg
  log : Fd K mg "_law_log" s_law_log P_law_log
  same : Fd K mg "_law_same" s_law_same P_law_same
  copied : Fd K mg "_law_copied" s_law_copied P_law_copied
  loose : FdLoose K mg
  spoilt : FdSpoilt K mg
  once : FdOnce K mg
  apart : Fd K mg "_law_apart" s_law_apart P_law_apart
  made : Fd K mg "_law_made" s_law_made P_law_made
  needs : Fd K mg "_law_needs" s_law_needs P_law_needs
  nline : Fd K mg "_law_nline" s_law_nline P_law_nline
  nrow_in : Fd K mg "_law_nrow_in" s_law_nrow_in P_law_nrow_in
  nrow : Fd K mg "_law_nrow" s_law_nrow P_law_nrow
  nfits : FdNfits K mg
  nfault : Fd K mg "_law_nfault" s_law_nfault P_law_nfault
  nbent : Fd K mg "_law_nbent" s_law_nbent P_law_nbent
  nindex : Fd K mg "_law_nindex" s_law_nindex ["call"]
  between : FdBetween K mg
  is_name : FdIsName K mg
  names_of : FdNamesOf K mg
  lot_among : FdLotAmong K mg
  number_in : FdNumIn K mg
  words_in : FdWordsIn K mg
  lines_in : FdLinesIn K mg
  record_of : FdRecordOf K mg
  need_log : FdNeedLog K mg
  row_of : FdRowOf K mg
  row_line : FdRowLine K mg
  rows_text : Fd K mg "rows_text" srows_text Prows_text
  row_in : FdRowIn K mg
  rows_fault : FdRowsFault K mg
  read_rows : Fd K mg "read_rows" sread_rows Pread_rows
  init : MdInit K C
  standing : MdStanding K C
  cLog : LogCls K mg C
  iLog : InsC K C
  mkLog : Mk K C init.f
  eRows : ExRows K mg
  eText : ExText K mg
  exm : Exm K eRows.C eText.C
def roD : Option Rw → PyData
  | none => .none
  | some r => rwD r
def spLaw (PT : Addr) : Sp := fun vs H Q _ => ∃ (s : Addr) (ns : List Int), vs = [.ref s] ∧ SqL K H s (ns.map V.int) ∧ ns.length ≤ 1000 ∧ H PT = some (.tbl #[]) ∧ ∀ H', Q (.bl true) H'
theorem PS.by_ {X : Cx} {st : Stmt} {t' : TS} (h : ∃ t, PS X st t ∧ ∀ D σ H, t' D σ H → t D σ H) : PS X st t' := by
  obtain ⟨t, h, m⟩ := h
  exact ⟨fun pins s σ H D I z => h.run pins s σ H D I (m D σ H z)⟩
def bodyOf : Stmt → List Stmt
  | .For _ _ b _ _ => b
  | _ => []
/-- the statements of the law's turn -/
abbrev lawS (i : Nat) : Stmt := (bodyOf ((defBody slaw).getD 1 (.Pass ⟨0, 0, 0, 0⟩))).getD i (.Pass ⟨0, 0, 0, 0⟩)
/-- the turn's frame and what stands -/
structure Mid (sc a b C PT : Addr) (n : Nat) (L : LG) (vl vn : V) (p D1 : Addr) (rs : List Rw) (σ : L2.St) (H : Hp) : Prop where
  sg : ∃ v2 v6 v7 v8 v9 v10 v11 v12 v13 v14 v15 v16 v17 v19 v20 v21 v22 : Option V, σ = [some (.ref sc), some (.ref a), v2, some vl, some vn, some (.ref D1), v6, v7, v8, v9, v10, v11, v12, v13, v14, v15, v16, v17, some (.ref p), v19, v20, v21, v22]
  en : Env1 a b C PT n L vl vn p H
  rw : Dt [a, b] H (.list (rs.map rwD)) (.ref D1)
theorem Env1.mono {a b C PT : Addr} {n m : Nat} {L : LG} {vl vn : V} {p : Addr} {H : Hp} (e : Env1 a b C PT n L vl vn p H) (h : n ≤ m) : Env1 a b C PT m L vl vn p H := ⟨e.st.mono h, e.tb, e.dl, e.dn, e.la⟩
theorem Mid.mono {sc a b C PT : Addr} {n m : Nat} {L : LG} {vl vn : V} {p D1 : Addr} {rs : List Rw} {σ : L2.St} {H : Hp} (e : Mid sc a b C PT n L vl vn p D1 rs σ H) (h : n ≤ m) : Mid sc a b C PT m L vl vn p D1 rs σ H := ⟨e.sg, e.en.mono h, e.rw⟩
end Lr
set_option Elab.async false
set_option linter.all false
set_option maxRecDepth 100000
set_option maxHeartbeats 16000000
namespace Lr
open PySem PySem.Spec PyProof.Rows L2 TL
open C8 (InsC call_isC)
open LamX (GivesAt CodeO Tabs TabS TabB ExtN)
local macro_rules | `(tactic| walk_at "ne") => `(tactic| (first | assumption | (refine ne_sym ?_; assumption) | (exact ne_of_none (by assumption) (by assumption)) | (exact ne_sym (ne_of_none (by assumption) (by assumption)))))
local macro_rules | `(tactic| walk_at "h") => `(tactic| (first | assumption | exact upd_same | (refine h_new ?_ (by assumption); walk_at "h") | (refine h_ne (by walk_at "ne") ?_; walk_at "h")))
local macro_rules | `(tactic| walk_at "v1") => `(tactic| (with_reducible first
  | refine i_seq ?_ | refine i_asg ?_ | refine i_ret ?_ | refine i_next ?_ | refine i_drop ?_ | refine i_ifS ?_ | refine i_if ?_ | refine i_and ?_ | refine i_or ?_ | refine i_not ?_ | refine i_test ?_ | refine i_tB ?_ | refine i_bl ?_ | refine i_yes ?_
  | refine i_op ?_ | refine i_un ?_ | refine i_chain ?_ | refine i_andV ?_ | refine i_orV ?_ | refine i_notV ?_ | refine i_cb ?_ | refine i_cons ?_ | refine i_nil ?_ | refine i_bm ?_ | refine i_bm0 ?_ | refine i_c ?_ | refine i_name ?_ | refine i_sub ?_
  | refine i_call ?_ | refine i_lst ?_ | refine i_tup ?_ | refine i_par ?_ | refine i_par2 ?_ | refine i_sl ?_ | refine i_np ?_ | refine i_pt ?_ | refine i_int ?_ | refine i_m0 ?_ | refine i_m1 ?_ | refine i_isS ?_
  | refine i_rI0 ?_ | refine i_inSign ?_ | refine i_notInSign ?_ | refine i_int1 ?_ | refine i_tru ?_ | refine i_isN ?_ | refine i_notN ?_ | refine iteT ?_ | refine iteF ?_ | refine i_brk ?_ | refine i_rt ?_ | refine i_nx ?_ | refine i_bk ?_ | refine i_ct ?_ | refine i_for ?_ | refine i_lc ?_ | refine i_dc ?_ | refine i_iL ?_ | refine i_iT ?_ | refine i_iR1 ?_ | refine i_iR2 ?_ | refine i_iS ?_ | refine i_iE ?_ | refine i_iEK ?_ | refine i_iEQ ?_ | refine i_dget ?_ | refine i_fld ?_ | refine i_sfld ?_ | refine i_dput ?_ | refine i_meth ?_ | refine i_rU ?_ | refine i_cont ?_ | refine i_make ?_))
local macro_rules | `(tactic| walk_at "v2") => `(tactic| (first
  | ((with_reducible refine' i_var ?k1 ?_); (case k1 => exact rfl))
  | ((with_reducible refine' i_eq ?k1 ?_); (case k1 => exact rfl))
  | ((with_reducible refine' i_ne ?k1 ?_); (case k1 => exact rfl))
  | ((with_reducible refine' i_ixL ?k1 ?k2 ?_); (case k1 => walk_at "h"); (case k2 => exact rfl))
  | ((with_reducible refine' i_ixT ?k1 ?k2 ?_); (case k1 => walk_at "h"); (case k2 => exact rfl))
  | ((with_reducible refine' i_lenL ?k1 ?_); (case k1 => walk_at "h"))
  | ((with_reducible refine' i_lenT ?k1 ?_); (case k1 => walk_at "h"))
  | (refine i_wipe (show wipe _ _ = wipe _ _ from rfl) ?_)
  | ((with_reducible refine' i_setL ?k1 ?k2 ?_); (case k1 => walk_at "h"); (case k2 => exact rfl))
  | ((with_reducible refine' i_tyl ?k1 ?_); (case k1 => walk_at "h"))))
local macro_rules | `(tactic| walk_at "v") => `(tactic| repeat (first | walk_at "v1" | walk_at "v2"))

variable {P : Program} {w : World} {K :
      PySem.W.Frag} {mg : Str → Option Value} {base : Heap}
def tagain_ok (C PT : Addr) : TS := fun D σ H => ∃ (sc a b : Addr) (n : Nat) (L : LG) (vl vn : V) (p D1 : Addr) (rs : List Rw) (text : Str) (v2 v7 v8 v9 v10 v11 v12 v13 v14 v15 v16 v17 v19 v20 v21 v22 : Option V), σ = [some (.ref sc), some (.ref a), v2, some vl, some vn, some (.ref D1), some (.str text), v7, v8, v9, v10, v11, v12, v13, v14, v15, v16, v17, some (.ref p), v19, v20, v21, v22] ∧
  Env1 a b C PT n L vl vn p H ∧ Dt [a, b] H (.list (rs.map rwD)) (.ref D1) ∧ L.Ok ∧ n < 2 ^ 37 ∧ text.length ≤ 300 ∧ ∀ σ' H', Mid sc a b C PT (n + 32) L vl vn p D1 rs σ' H' → D.nx σ' H'
theorem again_ok {C c PT f : Addr} (D : Defs K mg C) (B : Blt mg) (TB : TabB base mg c PT) {A : Around} {outer : List Env} {s : Shared} {H : Hp} {E : XK} (hr : Room 10 (A.deeper (envOfC "law" (defScope slaw) s.heap.objs.size f (.ref c)))) :
    PS (cxOf CX0 P w K mg base Nlaw "law" (defScope slaw) f (.ref c) A outer s H E).nox (lawS 9) (tagain_ok C PT) := by
  obtain ⟨d_law_start, d_law_below, d_law_chance, d_law_pick, d_law_mixed, d_law_lot, d_law_name, d_law_names, d_law_record, d_law_log, d_law_same, d_law_copied, d_law_loose, d_law_spoilt, d_law_is_once, d_law_apart, d_law_made, d_law_needs, d_law_nline, d_law_nrow_in, d_law_nrow, d_law_nfits, d_law_nfault, d_law_nbent, d_law_nindex,
    dis_between, dis_name, dnames_of, dlot_among, dnumber_in, dwords_in, dlines_in, drecord_of, dneed_log, drow_of, drow_line, drows_text, drow_in, drows_fault, dread_rows, dinit, dstanding, cLog, iLog, mkLog, eBadRows, eBadText, exm⟩ := D
  obtain ⟨ocN, odN, kVN, docN, pmN, anN, cdvN, ctN, oslN, efd, lkN, hcN⟩ := d_law_nindex.F.ex
  have bN := d_law_nindex.b
  rw [efd] at bN lkN
  have G_law_start : FnOk P w K mg base CX0 1 d_law_start.f d_law_start.fd P_law_start (spStart (K := K)) := ok_start d_law_start B
  have G_law_below : FnOk P w K mg base CX0 1 d_law_below.f d_law_below.fd P_law_below (fun vs H Q E => ∃ i : Addr × Addr, spBelow i.1 i.2 vs H Q E) := FnOk.ex fun i => ok_below d_law_below B
  have G_law_pick : FnOk P w K mg base CX0 2 d_law_pick.f d_law_pick.fd P_law_pick (fun vs H Q E => ∃ i : Addr × Addr, spPick i.1 i.2 vs H Q E) := FnOk.ex fun i => ok_pick d_law_pick d_law_below B
  have G_law_log : FnOk P w K mg base CX0 5 d_law_log.f d_law_log.fd P_law_log (fun vs H Q E => ∃ i : Addr × Addr, spLog i.1 i.2 vs H Q E) := FnOk.ex fun i => ok_log d_law_log d_law_below d_law_pick d_law_lot d_law_chance d_law_name d_law_names d_law_record B
  have G_law_needs : FnOk P w K mg base CX0 1 d_law_needs.f d_law_needs.fd P_law_needs spNeeds := ok_needs d_law_needs B
  have G_law_made : FnOk P w K mg base CX0 7 d_law_made.f d_law_made.fd P_law_made (fun vs H Q E => ∃ i : Addr × Addr, spMade i.1 i.2 C vs H Q E) := FnOk.ex fun i => ok_made d_law_made d_law_below d_law_mixed d_law_loose cLog dinit dstanding mkLog drecord_of dlot_among dnames_of dis_name B
  have G_law_nrow : FnOk P w K mg base CX0 3 d_law_nrow.f d_law_nrow.fd P_law_nrow (fun vs H Q E => ∃ i : Addr × Addr, spNrow i.1 i.2 vs H Q E) := FnOk.ex fun i => ok_nrow d_law_nrow d_law_below d_law_pick d_law_chance B
  have G_law_nline : FnOk P w K mg base CX0 1 d_law_nline.f d_law_nline.fd P_law_nline spNline := ok_nline d_law_nline B
  have G_law_same : FnOk P w K mg base CX0 4 d_law_same.f d_law_same.fd P_law_same (spSame 4) := ok_same d_law_same B 4
  have G_law_copied : FnOk P w K mg base CX0 4 d_law_copied.f d_law_copied.fd P_law_copied (spCopied 4) := ok_copied d_law_copied B 4
  have G_law_loose : FnOk P w K mg base CX0 5 d_law_loose.f d_law_loose.fd P_law_loose (fun vs H Q E => ∃ i : Addr × Addr, spLoose i.1 i.2 4 vs H Q E) := FnOk.ex fun i => ok_loose d_law_loose d_law_below B 4
  have G_law_nbent : FnOk P w K mg base CX0 3 d_law_nbent.f d_law_nbent.fd P_law_nbent (fun vs H Q E => ∃ i : Addr × Addr, spNbent i.1 i.2 vs H Q E) := FnOk.ex fun i => ok_nbent d_law_nbent d_law_below d_law_pick B
  have G_law_nfault : FnOk P w K mg base CX0 2 d_law_nfault.f d_law_nfault.fd P_law_nfault spNfault := ok_nfault d_law_nfault d_law_nfits B
  have G_law_nrow_in : FnOk P w K mg base CX0 1 d_law_nrow_in.f d_law_nrow_in.fd P_law_nrow_in spNrowIn := ok_nrowin d_law_nrow_in B
  have G_law_apart : FnOk P w K mg base CX0 10 d_law_apart.f d_law_apart.fd P_law_apart spApart := ok_apart d_law_apart d_law_spoilt d_law_is_once B
  have Grows_fault : FnOk P w K mg base CX0 4 drows_fault.f drows_fault.fd Prows_fault (spRowsFault C) := ok_rowsfault cLog iLog drows_fault dneed_log dlines_in drow_in dwords_in dnumber_in drow_of dis_between B
  have Xread_rows : FnOk P w K mg base (L2.CX P w) 5 dread_rows.f dread_rows.fd Pread_rows (spReadRows C eBadText.C) := ok_readrows cLog iLog eBadText dread_rows drows_fault dneed_log dlines_in drow_in dwords_in dnumber_in drow_of dis_between B
  have Xrows_text : FnOk P w K mg base (L2.CX P w) 5 drows_text.f drows_text.fd Prows_text (fun vs H Q E => spRowsText C eBadRows.C vs H Q E ∨ spRowsTextD C eBadRows.C vs H Q E) :=
    Lr.FnOk.or (ok_rowstext cLog iLog eBadRows drows_text dneed_log drow_line drow_of dis_between B) (ok_rowstextD cLog iLog eBadRows drows_text dneed_log drow_line drow_of dis_between B)
  have Gread_rows := Lr.FnOk.quiet Xread_rows
  have Grows_text := Lr.FnOk.quiet Xrows_text
  refine PS.by_ ⟨_, (ps_for PassesOwn.never rfl (pi_range1 (by rfl) B.range (pa_cons pe_int pa_nil)) (pg_name (i := 9) sclaw.nd rfl (by first | exact Or.inl rfl | exact Or.inr rfl))
      (pss_cons (ps_set (i := 17) sclaw.nd rfl (by first | exact Or.inl rfl | exact Or.inr rfl) (pe_call G_law_nbent (hr.mono (by decide)) (by rfl) d_law_nbent.g d_law_nbent.F.kp d_law_nbent.b .nil pass0 (pa_cons (pv 1) (pa_cons (pv 6) pa_nil))))
      (pss_cons (ps_set (i := 10) sclaw.nd rfl (by first | exact Or.inl rfl | exact Or.inr rfl) (pe_call G_law_nfault (hr.mono (by decide)) (by rfl) d_law_nfault.g d_law_nfault.F.kp d_law_nfault.b .nil pass0 (pa_cons (pv 3) (pa_cons (pv 4) (pa_cons (pv 17) pa_nil)))))
      (pss_cons (ps_if (pt_not (pt_val (pe_call G_law_same (hr.mono (by decide)) (by rfl) d_law_same.g d_law_same.F.kp d_law_same.b .nil pass0 (pa_cons (pe_call Grows_fault (hr.mono (by decide)) (by rfl) drows_fault.g drows_fault.F.kp drows_fault.b .nil pass0 (pa_cons (pv 18) (pa_cons (pv 17) pa_nil))) (pa_cons (pv 10) pa_nil))))) (pss_one (ps_ret pe_bl)) pss_nil)
      (pss_one (ps_if (pt_cmpR o_isN (pv 10) pe_non (nomark _)) (pss_cons (ps_set (i := 11) sclaw.nd rfl (by first | exact Or.inl rfl | exact Or.inr rfl) (pe_call Gread_rows (hr.mono (by decide)) (by rfl) dread_rows.g dread_rows.F.kp dread_rows.b .nil pass0 (pa_cons (pv 18) (pa_cons (pv 17) pa_nil))))
      (pss_cons (ps_if (pt_not (pt_val (pe_call G_law_same (hr.mono (by decide)) (by rfl) d_law_same.g d_law_same.F.kp d_law_same.b .nil pass0 (pa_cons (pv 11) (pa_cons (pe_lc (own := [("line", 22)]) (g := gName 22) (tt := tYes) rfl sclaw.nd (w_list K (pe_slice (s_list K) (pe_m1 PySem.F.slot_str_split PySem.F.type_str_split m_split (pv 17) pe_str) po_none (po_some (pe_un un_neg pe_int)))) (blkOk_by (own := [("line", 22)]) (N := Nlaw) (sc := defScope slaw) (by decide +kernel)) (fun _ _ _ _ _ => by exact (pg_name (i := 22) sclaw.nd rfl (by first | exact Or.inl rfl | exact Or.inr rfl))) (fun _ _ _ _ _ => pts_nil) (fun _ _ _ _ _ => by exact (pe_call G_law_nrow_in (hr.mono (by decide)) (by rfl) d_law_nrow_in.g d_law_nrow_in.F.kp d_law_nrow_in.b .nil pass0 (pa_cons (pv 3) (pa_cons (pv 4) (pa_cons (pe_m1 PySem.F.slot_str_split PySem.F.type_str_split m_split (pv 22) pe_str) pa_nil)))))) pa_nil))))) (pss_one (ps_ret pe_bl)) pss_nil)
      (pss_one (ps_if (PW.pt (pw_or (pt_not (pt_val (pe_call G_law_same (hr.mono (by decide)) (by rfl) d_law_same.g d_law_same.F.kp d_law_same.b .nil pass0 (pa_cons (pe_call Grows_text (hr.mono (by decide)) (by rfl) drows_text.g drows_text.F.kp drows_text.b .nil pass0 (pa_cons (pv 18) (pa_cons (pv 11) pa_nil))) (pa_cons (pv 17) pa_nil))))) (pw_or1 (pt_not (pt_val (pe_call G_law_apart (hr.mono (by decide)) (by rfl) d_law_apart.g d_law_apart.F.kp d_law_apart.b .nil pass0 (pa_cons (pv 11) pa_nil))))))) (pss_one (ps_ret pe_bl)) pss_nil)))) (pss_one (ps_if (pt_not (pt_val (pe_call G_law_same (hr.mono (by decide)) (by rfl) d_law_same.g d_law_same.F.kp d_law_same.b .nil pass0 (pa_cons (LamX.pe_lamAt (T := TL PT) (TT := TIndex eBadRows.C eBadText.C) (k := 6) (c := c) (P := PT) (by rfl) d_law_nindex.g d_law_nindex.F.kp lkN hcN bN sc_law_nindex rfl (.inl rfl) (nindex_at eBadRows eBadText exm) TB rfl (List.mem_singleton.mpr rfl) (fun p hp _ => by rw [List.mem_singleton.mp hp] <;> rfl) (hr.mono (by decide)) (LamX.lamS_by (by show LamX.lamSB (defScope slaw) _ = true; decide +kernel)) rfl (fun _ _ _ _ _ => rfl) (fun A outer s H E f c' room => by exact (pe_callS Xread_rows (room.mono (by decide)) (by rfl) dread_rows.g dread_rows.F.kp dread_rows.b (fun σ => passAt (takes_of rfl rfl rfl rfl) σ) (pa_cons (pv 18) (pa_cons (pv 17) pa_nil))))) (pa_cons (pe_lst (pa_cons pe_str (pa_cons (pv 10) pa_nil))) pa_nil))))) (pss_one (ps_ret pe_bl)) pss_nil)))))))), ?_⟩
  rintro D σ H ⟨sc, a, b, n20, L, vl, vn, p, D1, rs2, text, v2, v7, v8, v9, v10, v11, v12, v13, v14, v15, v16, v17, v19, v20, v21, v22, rfl, E20, drs20, ok, ln20, ltext, k⟩
  walk_at "v"
  refine w_rg1 (n := 8) (by decide) ?_
  refine for_by walk_range ⟨fun i σ H' => (∃ v9 v10 v11 v12 v13 v14 v15 v16 v17 v19 v20 v21 v22 : Option V, σ = [some (.ref sc), some (.ref a), v2, some vl, some vn, some (.ref D1), some (.str text), v7, v8, v9, v10, v11, v12, v13, v14, v15, v16, v17, some (.ref p), v19, v20, v21, v22]) ∧
    Env1 a b C PT (n20 + 4 * i) L vl vn p H' ∧ Dt [a, b] H' (.list (rs2.map rwD)) (.ref D1), ?_, fun _ _ _ _ _ => trivial, ?_, ?_⟩
  · exact ⟨⟨_, _, _, _, _, _, _, _, _, _, _, _, _, rfl⟩, E20, drs20⟩
  · rintro i x σ H22 H21 hi ⟨⟨v9, v10, v11, v12, v13, v14, v15, v16, v17, v19, v20, v21, v22, rfl⟩, E21, drs21⟩ ⟨rfl, rfl⟩
    have hi8 : i < 8 := by simpa using hi
    walk_at "v"
    refine ⟨(a, b), n20 + 4 * i, text, rfl, by omega, E21.st, by omega, fun bt H22 lbt st22 kp22 => ?_⟩
    have E22 := E21.keep kp22 st22
    have drs22 := Dt.keep kp22 _ _ drs21
    walk_at "v"
    refine ⟨[a, b], [a, b], L, vl, vn, bt, rfl, E22.dl, ok, E22.dn, by omega, fun H23 s23 => ?_⟩
    have E23 := E22.same s23
    have drs23 := drs22.same s23
    walk_at "v"
    refine ⟨[], L, p, .str bt, .str bt, rfl, E23.la.nil, ok, dt_s, fun z e => ?_, fun h => by cases h⟩
    cases e
    refine ⟨by omega, fun H24 s24 => ?_⟩
    have E24 := E23.same s24
    have drs24 := drs23.same s24
    walk_at "v"
    refine ⟨[], [], ovD (faultO L bt), _, _, rfl, numV_dt _, numV_dt _, fit_ov _, fun H25 s25 => ?_⟩
    have E25 := E24.same s25
    have drs25 := drs24.same s25
    walk_at "v"
    refine iteF ?_
    walk_at "v"
    cases ef : faultO L bt with
    | none =>
      refine ifd (fun _ => ?_) (fun h => absurd rfl h)
      walk_at "v"
      refine ⟨[], L, p, .str bt, .str bt, rfl, E25.la.nil, ok, dt_s, fun z e => ?_, fun z ls rt e el em q1 H26 nq s26 => ?_, fun z n e ef' => ?_, fun h => by cases h⟩
      · cases e; exact ⟨by omega, Nat.le_trans (lines_len bt) (by omega)⟩
      · cases e
        obtain ⟨ls', rt', el', em', vrt, ett⟩ := text_told ef
        obtain rfl : rt = rt' := told_uniq el el' em em'
        have lrt : rt.length = ls.length := by have := congrArg List.length em; simpa using this.symm
        have lls : ls.length ≤ 700 := by
          have := lines_len bt
          rw [el] at this; simp at this; omega
        have lsz : ∀ x ∈ ls, x.length ≤ 1000000 := fun x hx => Nat.le_trans (len_sum_split tl_nln (by decide) x (by show x ∈ lines bt; rw [el]; simp [hx])) (by omega)
        have E26 := E25.same s26
        have drs26 := drs25.same s26
        have dt26 : Dt [a, b] H26 (.list (rt.map rwD)) (.ref q1) := nq _ E25.st.trk
        walk_at "v"
        refine i_split (by decide +kernel) (Nat.le_trans (show bt.length + 2 ≤ 1000 by omega) (by decide)) (fun p1 hp1 => ?_)
        have e' : Txt.split bt (Str.ofString "\n") = ls ++ [("" : Str)] := el
        rw [e', List.map_append]
        have s27 : Same H26 (upd H26 p1 (.lst (ls.map V.str ++ [("" : Str)].map V.str))) := (Same.refl _).new hp1
        obtain ⟨H27, e27⟩ : ∃ H27, H27 = upd H26 p1 (.lst (ls.map V.str ++ [("" : Str)].map V.str)) := ⟨_, rfl⟩
        have hp27 : H27 p1 = some (.lst (ls.map V.str ++ [.str ("" : Str)])) := by rw [e27]; exact upd_same
        rw [← e27] at s27 ⊢
        clear e27
        walk_at "v"
        refine ⟨p1, _, rfl, SqL.of hp27, fun q2 hq2 => ?_⟩
        rw [cut_last]
        have s28 := s27.new (o := .lst (ls.map V.str)) hq2
        obtain ⟨H28, e28⟩ : ∃ H28, H28 = upd H27 q2 (.lst (ls.map V.str)) := ⟨_, rfl⟩
        have hq28 : H28 q2 = some (.lst (ls.map V.str)) := by rw [e28]; exact upd_same
        rw [← e28] at s28 ⊢
        clear e28
        have E28 := E26.same s28
        walk_at "v"
        refine w_lst hq28 ?_
        refine lc_by (walk_list (xs := ls.map V.str)) fun D3 hD3 => ⟨fun j H' => Acc [] H28 H' D3 ((rt.take j).map rwD), Acc.start (Keep.refl _ _) hD3, fun j H' _ ac => SqL.of (ac.kp.same _ _ hq28), ?_, ?_⟩
        · rintro j x H30 H29 hj ac ⟨rfl, hx⟩
          rw [List.getElem?_map] at hx
          obtain ⟨x, hxj, rfl⟩ := Option.map_eq_some_iff.mp hx
          have hjr : j < rt.length := by rw [lrt]; simpa using hj
          have hrj : rt[j]? = some rt[j] := by simp [hjr]
          have epr : parse L (words x) = some rt[j] := by
            have e1 : (ls.map fun x => parse L (words x))[j]? = (rt.map some)[j]? := by rw [em]
            rw [List.getElem?_map, List.getElem?_map, hxj, hrj] at e1
            exact Option.some.inj e1
          walk_at "v"
          refine i_split (by decide +kernel) (Nat.le_trans (Nat.add_le_add_right (lsz x (List.mem_of_getElem? hxj)) 2) (by decide)) (fun W hW => ?_)
          have s30 : Same H29 (upd H29 W (.lst ((words x).map V.str))) := (Same.refl _).new hW
          have E30 := (E28.same ac.kp.same).same s30
          walk_at "v"
          refine ⟨[a, b], [a, b], [], L, vl, vn, W, words x, rfl, E30.dl, ok, E30.dn, upd_same, fun r er v' H31 nv s31 => ?_, fun en => ?_⟩
          · rw [epr] at er
            cases er
            obtain ⟨acc, ea, la', _⟩ := id ac.ex
            obtain ⟨e5, ac5⟩ := ac.step trk_nil ea (nv.pre s30).toM (Keep.of_same (s30.trans s31))
            refine ⟨acc, e5, ?_, ?_⟩
            · rw [la', List.length_map, List.length_take]; exact small1000 (by omega)
            · show Acc [] H28 _ D3 ((rt.take (j + 1)).map rwD)
              rw [List.take_succ, hrj, List.map_append]; exact ac5
          · rw [epr] at en; cases en
        · rintro H29 ac
          rw [List.length_map, ← lrt, List.take_length] at ac
          have s29 := s28.trans ac.kp.same
          have E29 := E26.same s29
          have drs29 := drs26.same s29
          have dt29 := dt26.same s29
          walk_at "v"
          refine ⟨[a, b], [], .list (rt.map rwD), .ref q1, .ref D3, rfl, dt29, ac.done [] trk_nil (fun _ h => nomatch h), fit_rows 1 (by omega), fun H30 s30 => ?_⟩
          have E30 := E29.same s30
          have drs30 := drs29.same s30
          have dt30 := dt29.same s30
          walk_at "v"
          refine iteF ?_
          walk_at "v"
          obtain ⟨rowt, rowst⟩ := rows_un (L := L) (d := .list (rt.map rwD)) rfl vrt
          refine .inl ⟨[a, b], L, p, .list (rt.map rwD), .ref q1, rfl, E30.la.nil, ok, dt30, by rw [rowst.1]; omega, fun rs3 _ hr3 H31 s31 => ?_, fun n k' rs3 _ gk no _ => ?_, fun h => by cases h⟩
          · obtain rfl : rs3 = rt := hr3.uniq rowst
            rw [ett]
            have E31 := E30.same s31
            have drs31 := drs30.same s31
            have dt31 := dt30.same s31
            walk_at "v"
            refine ⟨[], [], .str bt, .str bt, .str bt, rfl, dt_s, dt_s, trivial, fun H32 s32 => ?_⟩
            have E32 := E31.same s32
            have drs32 := drs31.same s32
            have dt32 := dt31.same s32
            walk_at "v"
            refine iteF ?_
            walk_at "v"
            have fq : H25 q1 = none := by
              cases e : H25 q1 with
              | none => rfl
              | some o =>
                have z := nq [q1] (fun s hs => by simp at hs; subst hs; exact ⟨o, e⟩)
                unfold Dt at z
                obtain ⟨a', xs, e2, n, _⟩ := z
                cases e2
                simp at n
            obtain ⟨xs1, hq1, dx1, n1⟩ : ∃ xs1, H32 q1 = some (.lst xs1) ∧ DtAll [a, b] H32 (rs3.map rwD) xs1 ∧ q1 ∉ [a, b] := by
              unfold Dt at dt32
              obtain ⟨a', xs, e2, n, h1, h2⟩ := dt32
              cases e2
              exact ⟨xs, h1, h2, n⟩
            refine ⟨[a, b], rs3.map rwD, q1, xs1, rfl, hq1, dx1, by simp; omega, fun d hd => ?_, fun H33 k33 => ?_⟩
            · obtain ⟨r, hr, rfl⟩ := List.mem_map.mp hd
              exact ⟨tup_rw 6 r, once_rw 6 ok (vrt r hr), late_rw r⟩
            · have s2532 := (((s26.trans s29).trans s30).trans s31).trans s32
              have kp : Keep [a, b] H25 H33 := ⟨fun z o _ e => k33 z o (fun m => by simp at m; rw [m, fq] at e; cases e) (s2532 z o e), fun z o e => k33.tr z o (s2532 z o e)⟩
              simp only [List.mem_cons, List.not_mem_nil, or_false, not_or] at n1
              have st33 := E32.st.kp k33 (by simp; exact fun e => n1.1 e.symm) (by simp; exact fun e => n1.2 e.symm)
              have E33 := E25.keep kp st33
              walk_at "v"
              refine iteF ?_
              walk_at "v"
              exact ⟨⟨_, _, _, _, _, _, _, _, _, _, _, _, _, rfl⟩, ⟨E33.st.mono (by omega), E33.tb, E33.dl, E33.dn, E33.la⟩, Dt.keep kp _ _ drs25⟩
          · have hn : n < rt.length := by rw [← rowst.1]; exact (List.getElem?_eq_some_iff.mp gk).1
            exact (no _ (rowst.2 n k' rt[n] gk (by simp [hn]))).elim
      · cases e; rw [ef] at ef'; cases ef'
    | some nf =>
      refine ifd (fun h => by cases h) (fun _ => ?_)
      walk_at "v"
      refine ⟨E25.tb, fun H26 xt T26 Ex hEx => ?_⟩
      have E26 := E25.extn xt T26
      have drs26 := Dt.extn xt _ _ drs25
      refine ⟨_, rfl, _, rfl, ?_⟩
      refine ⟨[], L, p, .str bt, .str bt, rfl, E26.la.nil, ok, dt_s, fun z e => ?_, fun z ls rt e el em => ?_, fun z n e ef' dd H27 hdd s27 => ?_, fun h => by cases h⟩
      · cases e; exact ⟨by omega, Nat.le_trans (lines_len bt) (by omega)⟩
      · cases e
        rw [fault_none_of el em] at ef; cases ef
      · cases e
        obtain rfl : nf = n := by rw [ef] at ef'; exact Option.some.inj ef'
        refine hEx _ _ _ (.inr ⟨rfl, dd, _, rfl, hdd, fun q1 hq1 => ?_⟩)
        walk_at "v"
        refine ⟨show 2 ≤ sizeLine by decide, fun q2 hq2 => ?_⟩
        walk_at "v"
        have s28 := (s27.new (o := .lst [.str ("text" : Str), .int (nf : Nat)]) hq1).new (o := .lst [.str ("text" : Str), .int (nf : Nat)]) hq2
        refine ⟨[], [], .list [.str ("text" : Str), .int (nf : Nat)], _, _, rfl, dt_list (h_new upd_same hq2) (DtAll.cons dt_s (DtAll.cons dt_i DtAll.nil)) (by simp), dt_list upd_same (DtAll.cons dt_s (DtAll.cons dt_i DtAll.nil)) (by simp), ?_, fun H29 s29 => ?_⟩
        · refine ⟨by simp, fun d hd => ?_⟩
          simp only [List.mem_cons, List.not_mem_nil, or_false] at hd
          rcases hd with rfl | rfl <;> trivial
        · walk_at "v"
          refine iteF ?_
          walk_at "v"
          have E29 := (E26.same s28).same s29
          exact ⟨⟨_, _, _, _, _, _, _, _, _, _, _, _, _, rfl⟩, ⟨E29.st.mono (by omega), E29.tb, E29.dl, E29.dn, E29.la⟩, (drs26.same s28).same s29⟩
  · rintro σ H21 ⟨⟨v9, v10, v11, v12, v13, v14, v15, v16, v17, v19, v20, v21, v22, rfl⟩, E21, drs21⟩
    exact k _ _ ⟨⟨_, _, _, _, _, _, _, _, _, _, _, _, _, _, _, _, _, rfl⟩, E21.mono (by simp), drs21⟩
end Lr
set_option Elab.async false
set_option linter.all false
set_option maxRecDepth 100000
set_option maxHeartbeats 16000000
namespace Lr
open PySem PySem.Spec PyProof.Rows L2 TL
open C8 (InsC call_isC)
open LamX (GivesAt CodeO Tabs TabS TabB ExtN)
local macro_rules | `(tactic| walk_at "ne") => `(tactic| (first | assumption | (refine ne_sym ?_; assumption) | (exact ne_of_none (by assumption) (by assumption)) | (exact ne_sym (ne_of_none (by assumption) (by assumption)))))
local macro_rules | `(tactic| walk_at "h") => `(tactic| (first | assumption | exact upd_same | (refine h_new ?_ (by assumption); walk_at "h") | (refine h_ne (by walk_at "ne") ?_; walk_at "h")))
local macro_rules | `(tactic| walk_at "v1") => `(tactic| (with_reducible first
  | refine i_seq ?_ | refine i_asg ?_ | refine i_ret ?_ | refine i_next ?_ | refine i_drop ?_ | refine i_ifS ?_ | refine i_if ?_ | refine i_and ?_ | refine i_or ?_ | refine i_not ?_ | refine i_test ?_ | refine i_tB ?_ | refine i_bl ?_ | refine i_yes ?_
  | refine i_op ?_ | refine i_un ?_ | refine i_chain ?_ | refine i_andV ?_ | refine i_orV ?_ | refine i_notV ?_ | refine i_cb ?_ | refine i_cons ?_ | refine i_nil ?_ | refine i_bm ?_ | refine i_bm0 ?_ | refine i_c ?_ | refine i_name ?_ | refine i_sub ?_
  | refine i_call ?_ | refine i_lst ?_ | refine i_tup ?_ | refine i_par ?_ | refine i_par2 ?_ | refine i_sl ?_ | refine i_np ?_ | refine i_pt ?_ | refine i_int ?_ | refine i_m0 ?_ | refine i_m1 ?_ | refine i_isS ?_
  | refine i_rI0 ?_ | refine i_inSign ?_ | refine i_notInSign ?_ | refine i_int1 ?_ | refine i_tru ?_ | refine i_isN ?_ | refine i_notN ?_ | refine iteT ?_ | refine iteF ?_ | refine i_brk ?_ | refine i_rt ?_ | refine i_nx ?_ | refine i_bk ?_ | refine i_ct ?_ | refine i_for ?_ | refine i_lc ?_ | refine i_dc ?_ | refine i_iL ?_ | refine i_iT ?_ | refine i_iR1 ?_ | refine i_iR2 ?_ | refine i_iS ?_ | refine i_iE ?_ | refine i_iEK ?_ | refine i_iEQ ?_ | refine i_dget ?_ | refine i_fld ?_ | refine i_sfld ?_ | refine i_dput ?_ | refine i_meth ?_ | refine i_rU ?_ | refine i_cont ?_ | refine i_make ?_))
local macro_rules | `(tactic| walk_at "v2") => `(tactic| (first
  | ((with_reducible refine' i_var ?k1 ?_); (case k1 => exact rfl))
  | ((with_reducible refine' i_eq ?k1 ?_); (case k1 => exact rfl))
  | ((with_reducible refine' i_ne ?k1 ?_); (case k1 => exact rfl))
  | ((with_reducible refine' i_ixL ?k1 ?k2 ?_); (case k1 => walk_at "h"); (case k2 => exact rfl))
  | ((with_reducible refine' i_ixT ?k1 ?k2 ?_); (case k1 => walk_at "h"); (case k2 => exact rfl))
  | ((with_reducible refine' i_lenL ?k1 ?_); (case k1 => walk_at "h"))
  | ((with_reducible refine' i_lenT ?k1 ?_); (case k1 => walk_at "h"))
  | (refine i_wipe (show wipe _ _ = wipe _ _ from rfl) ?_)
  | ((with_reducible refine' i_setL ?k1 ?k2 ?_); (case k1 => walk_at "h"); (case k2 => exact rfl))
  | ((with_reducible refine' i_tyl ?k1 ?_); (case k1 => walk_at "h"))))
local macro_rules | `(tactic| walk_at "v") => `(tactic| repeat (first | walk_at "v1" | walk_at "v2"))

variable {P : Program} {w : World} {K :
      PySem.W.Frag} {mg : Str → Option Value} {base : Heap}
def todd_ok (C PT : Addr) : TS := fun D σ H => ∃ (sc a b : Addr) (n : Nat) (L : LG) (vl vn : V) (p D1 : Addr) (rs : List Rw), Mid sc a b C PT n L vl vn p D1 rs σ H ∧ L.Ok ∧ n < 2 ^ 37 ∧ rs.length ≤ 9 ∧ (∀ r ∈ rs, Vd L r) ∧ ∀ σ' H', Mid sc a b C PT n L vl vn p D1 rs σ' H' → D.nx σ' H'
theorem odd_ok {C c PT f : Addr} (D : Defs K mg C) (B : Blt mg) (TB : TabB base mg c PT) {A : Around} {outer : List Env} {s : Shared} {H : Hp} {E : XK} (hr : Room 10 (A.deeper (envOfC "law" (defScope slaw) s.heap.objs.size f (.ref c)))) :
    PS (cxOf CX0 P w K mg base Nlaw "law" (defScope slaw) f (.ref c) A outer s H E).nox (lawS 10) (todd_ok C PT) := by
  obtain ⟨d_law_start, d_law_below, d_law_chance, d_law_pick, d_law_mixed, d_law_lot, d_law_name, d_law_names, d_law_record, d_law_log, d_law_same, d_law_copied, d_law_loose, d_law_spoilt, d_law_is_once, d_law_apart, d_law_made, d_law_needs, d_law_nline, d_law_nrow_in, d_law_nrow, d_law_nfits, d_law_nfault, d_law_nbent, d_law_nindex,
    dis_between, dis_name, dnames_of, dlot_among, dnumber_in, dwords_in, dlines_in, drecord_of, dneed_log, drow_of, drow_line, drows_text, drow_in, drows_fault, dread_rows, dinit, dstanding, cLog, iLog, mkLog, eBadRows, eBadText, exm⟩ := D
  obtain ⟨ocN, odN, kVN, docN, pmN, anN, cdvN, ctN, oslN, efd, lkN, hcN⟩ := d_law_nindex.F.ex
  have bN := d_law_nindex.b
  rw [efd] at bN lkN
  have G_law_start : FnOk P w K mg base CX0 1 d_law_start.f d_law_start.fd P_law_start (spStart (K := K)) := ok_start d_law_start B
  have G_law_below : FnOk P w K mg base CX0 1 d_law_below.f d_law_below.fd P_law_below (fun vs H Q E => ∃ i : Addr × Addr, spBelow i.1 i.2 vs H Q E) := FnOk.ex fun i => ok_below d_law_below B
  have G_law_pick : FnOk P w K mg base CX0 2 d_law_pick.f d_law_pick.fd P_law_pick (fun vs H Q E => ∃ i : Addr × Addr, spPick i.1 i.2 vs H Q E) := FnOk.ex fun i => ok_pick d_law_pick d_law_below B
  have G_law_log : FnOk P w K mg base CX0 5 d_law_log.f d_law_log.fd P_law_log (fun vs H Q E => ∃ i : Addr × Addr, spLog i.1 i.2 vs H Q E) := FnOk.ex fun i => ok_log d_law_log d_law_below d_law_pick d_law_lot d_law_chance d_law_name d_law_names d_law_record B
  have G_law_needs : FnOk P w K mg base CX0 1 d_law_needs.f d_law_needs.fd P_law_needs spNeeds := ok_needs d_law_needs B
  have G_law_made : FnOk P w K mg base CX0 7 d_law_made.f d_law_made.fd P_law_made (fun vs H Q E => ∃ i : Addr × Addr, spMade i.1 i.2 C vs H Q E) := FnOk.ex fun i => ok_made d_law_made d_law_below d_law_mixed d_law_loose cLog dinit dstanding mkLog drecord_of dlot_among dnames_of dis_name B
  have G_law_nrow : FnOk P w K mg base CX0 3 d_law_nrow.f d_law_nrow.fd P_law_nrow (fun vs H Q E => ∃ i : Addr × Addr, spNrow i.1 i.2 vs H Q E) := FnOk.ex fun i => ok_nrow d_law_nrow d_law_below d_law_pick d_law_chance B
  have G_law_nline : FnOk P w K mg base CX0 1 d_law_nline.f d_law_nline.fd P_law_nline spNline := ok_nline d_law_nline B
  have G_law_same : FnOk P w K mg base CX0 4 d_law_same.f d_law_same.fd P_law_same (spSame 4) := ok_same d_law_same B 4
  have G_law_copied : FnOk P w K mg base CX0 4 d_law_copied.f d_law_copied.fd P_law_copied (spCopied 4) := ok_copied d_law_copied B 4
  have G_law_loose : FnOk P w K mg base CX0 5 d_law_loose.f d_law_loose.fd P_law_loose (fun vs H Q E => ∃ i : Addr × Addr, spLoose i.1 i.2 4 vs H Q E) := FnOk.ex fun i => ok_loose d_law_loose d_law_below B 4
  have G_law_nbent : FnOk P w K mg base CX0 3 d_law_nbent.f d_law_nbent.fd P_law_nbent (fun vs H Q E => ∃ i : Addr × Addr, spNbent i.1 i.2 vs H Q E) := FnOk.ex fun i => ok_nbent d_law_nbent d_law_below d_law_pick B
  have G_law_nfault : FnOk P w K mg base CX0 2 d_law_nfault.f d_law_nfault.fd P_law_nfault spNfault := ok_nfault d_law_nfault d_law_nfits B
  have G_law_nrow_in : FnOk P w K mg base CX0 1 d_law_nrow_in.f d_law_nrow_in.fd P_law_nrow_in spNrowIn := ok_nrowin d_law_nrow_in B
  have G_law_apart : FnOk P w K mg base CX0 10 d_law_apart.f d_law_apart.fd P_law_apart spApart := ok_apart d_law_apart d_law_spoilt d_law_is_once B
  have Grows_fault : FnOk P w K mg base CX0 4 drows_fault.f drows_fault.fd Prows_fault (spRowsFault C) := ok_rowsfault cLog iLog drows_fault dneed_log dlines_in drow_in dwords_in dnumber_in drow_of dis_between B
  have Xread_rows : FnOk P w K mg base (L2.CX P w) 5 dread_rows.f dread_rows.fd Pread_rows (spReadRows C eBadText.C) := ok_readrows cLog iLog eBadText dread_rows drows_fault dneed_log dlines_in drow_in dwords_in dnumber_in drow_of dis_between B
  have Xrows_text : FnOk P w K mg base (L2.CX P w) 5 drows_text.f drows_text.fd Prows_text (fun vs H Q E => spRowsText C eBadRows.C vs H Q E ∨ spRowsTextD C eBadRows.C vs H Q E) :=
    Lr.FnOk.or (ok_rowstext cLog iLog eBadRows drows_text dneed_log drow_line drow_of dis_between B) (ok_rowstextD cLog iLog eBadRows drows_text dneed_log drow_line drow_of dis_between B)
  have Gread_rows := Lr.FnOk.quiet Xread_rows
  have Grows_text := Lr.FnOk.quiet Xrows_text
  refine PS.by_ ⟨_, (ps_for PassesOwn.never rfl (w_list K (pe_lst (pa_cons pe_non (pa_cons pe_int (pa_cons (pe_lst (pa_cons pe_str pa_nil)) pa_nil))))) (pg_name (i := 19) sclaw.nd rfl (by first | exact Or.inl rfl | exact Or.inr rfl))
      (pss_cons (ps_if (pt_not (pt_val (pe_call G_law_same (hr.mono (by decide)) (by rfl) d_law_same.g d_law_same.F.kp d_law_same.b .nil pass0 (pa_cons (pe_call Grows_fault (hr.mono (by decide)) (by rfl) drows_fault.g drows_fault.F.kp drows_fault.b .nil pass0 (pa_cons (pv 18) (pa_cons (pv 19) pa_nil))) (pa_cons pe_int pa_nil))))) (pss_one (ps_ret pe_bl)) pss_nil)
      (pss_one (ps_if (pt_not (pt_val (pe_call G_law_same (hr.mono (by decide)) (by rfl) d_law_same.g d_law_same.F.kp d_law_same.b .nil pass0 (pa_cons (LamX.pe_lamAt (T := TL PT) (TT := TIndex eBadRows.C eBadText.C) (k := 6) (c := c) (P := PT) (by rfl) d_law_nindex.g d_law_nindex.F.kp lkN hcN bN sc_law_nindex rfl (.inl rfl) (nindex_at eBadRows eBadText exm) TB rfl (List.mem_singleton.mpr rfl) (fun p hp _ => by rw [List.mem_singleton.mp hp] <;> rfl) (hr.mono (by decide)) (LamX.lamS_by (by show LamX.lamSB (defScope slaw) _ = true; decide +kernel)) rfl (fun _ _ _ _ _ => rfl) (fun A outer s H E f c' room => by exact (pe_callS Xread_rows (room.mono (by decide)) (by rfl) dread_rows.g dread_rows.F.kp dread_rows.b (fun σ => passAt (takes_of rfl rfl rfl rfl) σ) (pa_cons (pv 18) (pa_cons (pv 19) pa_nil))))) (pa_cons (pe_lst (pa_cons pe_str (pa_cons pe_int pa_nil))) pa_nil))))) (pss_one (ps_ret pe_bl)) pss_nil)))), ?_⟩
  rintro D σ H ⟨sc, a, b, n, L, vl, vn, p, D1, rs, ⟨⟨v2, v6, v7, v8, v9, v10, v11, v12, v13, v14, v15, v16, v17, v19, v20, v21, v22, rfl⟩, E1, drs1⟩, ok, ln, lrs, vrs, k⟩
  walk_at "v"

  refine ⟨show 1 ≤ sizeLine by decide, fun p1 hp1 => ?_⟩
  walk_at "v"
  refine ⟨show 3 ≤ sizeLine by decide, fun p2 hp2 => ?_⟩
  have s21 := ((Same.refl H).new (o := .lst [.str ("end" : Str)]) hp1).new (o := .lst [V.non, V.int 5, V.ref p1]) hp2
  have E22 := E1.same s21
  have drs22 := drs1.same s21
  obtain ⟨H22, e22⟩ : ∃ H22, H22 = upd (upd H p1 (.lst [.str ("end" : Str)])) p2 (.lst [V.non, V.int 5, V.ref p1]) := ⟨_, rfl⟩
  have h1 : H22 p1 = some (.lst [.str ("end" : Str)]) := by rw [e22]; exact h_new upd_same hp2
  have h2 : H22 p2 = some (.lst [V.non, V.int 5, V.ref p1]) := by rw [e22]; exact upd_same
  rw [← e22] at E22 drs22 ⊢
  clear e22
  refine w_lst h2 ?_
  refine for_by (walk_list (xs := [V.non, V.int 5, V.ref p1])) ⟨fun i σ H' => (∃ v6 v7 v8 v9 v10 v11 v12 v13 v14 v15 v16 v17 v19 v20 v21 v22 : Option V, σ = [some (.ref sc), some (.ref a), v2, some vl, some vn, some (.ref D1), v6, v7, v8, v9, v10, v11, v12, v13, v14, v15, v16, v17, some (.ref p), v19, v20, v21, v22]) ∧
    Env1 a b C PT n L vl vn p H' ∧ Dt [a, b] H' (.list (rs.map rwD)) (.ref D1) ∧ H' p1 = some (.lst [.str ("end" : Str)]) ∧ H' p2 = some (.lst [V.non, V.int 5, V.ref p1]), ?_, fun i σ H' _ ⟨_, _, _, _, z⟩ => SqL.of z, ?_, ?_⟩
  · exact ⟨⟨_, _, _, _, _, _, _, _, _, _, _, _, _, _, _, _, rfl⟩, E22, drs22, h1, h2⟩
  · rintro i x σ H24 H23 hi ⟨⟨v6, v7, v8, v9, v10, v11, v12, v13, v14, v15, v16, v17, v19, v20, v21, v22, rfl⟩, E23, drs23, g1, g2⟩ ⟨rfl, hx⟩
    obtain ⟨dx, ddx, ndx⟩ : ∃ dx, Dt [] H23 dx x ∧ isK "str" dx = false := by
      have hm := List.mem_of_getElem? hx
      simp only [List.mem_cons,
            List.not_mem_nil, or_false] at hm
      rcases hm with rfl | rfl | rfl
      · exact ⟨.none, dt_n, rfl⟩
      · exact ⟨.int 5, dt_i, rfl⟩
      · exact ⟨.list ([("end" : Str)].map .str), dt_strs g1, rfl⟩
    have noz : ∀ z, dx ≠ .str z := fun z e => by rw [e] at ndx; cases ndx
    walk_at "v"
    refine ⟨[], L, p, dx, x, rfl, E23.la.nil, ok, ddx, fun z e => (noz z e).elim, ?_⟩
    intro _ H25 s25
    walk_at "v"
    refine ⟨[], [], .int 0, .int 0, .int 0, rfl, dt_i, dt_i, trivial, fun H26 s26 => ?_⟩
    walk_at "v"
    refine iteF ?_
    walk_at "v"
    have s2326 := s25.trans s26
    have E26 := E23.same s2326
    have drs26 := drs23.same s2326
    refine ⟨E26.tb, fun H27 xt T27 Ex hEx => ?_⟩
    have E27 := E26.extn xt T27
    have drs27 := Dt.extn xt _ _ drs26
    have g27 := xt _ _ (s2326 _ _ g1) (fun _ e => nomatch e)
    have g27' := xt _ _ (s2326 _ _ g2) (fun _ e => nomatch e)
    refine ⟨_, rfl, _, rfl, ?_⟩
    refine ⟨[], L, p, dx, x, rfl, E27.la.nil, ok, Dt.extn xt _ _ (ddx.same s2326), fun z e => (noz z e).elim, fun z _ _ e => (noz z e).elim, fun z _ e => (noz z e).elim, fun _ dd H28 hdd s28 => ?_⟩
    refine hEx _ _ _ (.inr ⟨rfl, dd, _, rfl, hdd, fun q1 hq1 => ?_⟩)
    walk_at "v"
    refine ⟨show 2 ≤ sizeLine by decide, fun q2 hq2 => ?_⟩
    walk_at "v"
    have s29 := (s28.new (o := .lst [.str ("text" : Str), .int 0]) hq1).new (o := .lst [.str ("text" : Str), .int 0]) hq2
    refine ⟨[], [], .list [.str ("text" : Str), .int 0], _, _, rfl, dt_list (h_new upd_same hq2) (DtAll.cons dt_s (DtAll.cons dt_i DtAll.nil)) (by simp), dt_list upd_same (DtAll.cons dt_s (DtAll.cons dt_i DtAll.nil)) (by simp), ?_, fun H30 s30 => ?_⟩
    · refine ⟨by simp, fun d hd => ?_⟩
      simp only [List.mem_cons, List.not_mem_nil, or_false] at hd
      rcases hd with rfl | rfl <;> trivial
    · walk_at "v"
      refine iteF ?_
      walk_at "v"
      have s2730 := s29.trans s30
      exact ⟨⟨_, _, _, _, _, _, _, _, _, _, _, _, _, _, _, _, rfl⟩, E27.same s2730, drs27.same s2730, s2730 _ _ g27, s2730 _ _ g27'⟩
  · rintro σ H23 ⟨⟨v6, v7, v8, v9, v10, v11, v12, v13, v14, v15, v16, v17, v19, v20, v21, v22, rfl⟩, E23, drs23, _, _⟩
    exact k _ _ ⟨⟨_, _, _, _, _, _, _, _, _, _, _, _, _, _, _, _, _, rfl⟩, E23, drs23⟩
end Lr
set_option Elab.async false
set_option linter.all false
set_option maxRecDepth 100000
set_option maxHeartbeats 16000000
namespace Lr
open PySem PySem.Spec PyProof.Rows L2 TL
open C8 (InsC call_isC)
open LamX (GivesAt CodeO Tabs TabS TabB ExtN)
local macro_rules | `(tactic| walk_at "ne") => `(tactic| (first | assumption | (refine ne_sym ?_; assumption) | (exact ne_of_none (by assumption) (by assumption)) | (exact ne_sym (ne_of_none (by assumption) (by assumption)))))
local macro_rules | `(tactic| walk_at "h") => `(tactic| (first | assumption | exact upd_same | (refine h_new ?_ (by assumption); walk_at "h") | (refine h_ne (by walk_at "ne") ?_; walk_at "h")))
local macro_rules | `(tactic| walk_at "v1") => `(tactic| (with_reducible first
  | refine i_seq ?_ | refine i_asg ?_ | refine i_ret ?_ | refine i_next ?_ | refine i_drop ?_ | refine i_ifS ?_ | refine i_if ?_ | refine i_and ?_ | refine i_or ?_ | refine i_not ?_ | refine i_test ?_ | refine i_tB ?_ | refine i_bl ?_ | refine i_yes ?_
  | refine i_op ?_ | refine i_un ?_ | refine i_chain ?_ | refine i_andV ?_ | refine i_orV ?_ | refine i_notV ?_ | refine i_cb ?_ | refine i_cons ?_ | refine i_nil ?_ | refine i_bm ?_ | refine i_bm0 ?_ | refine i_c ?_ | refine i_name ?_ | refine i_sub ?_
  | refine i_call ?_ | refine i_lst ?_ | refine i_tup ?_ | refine i_par ?_ | refine i_par2 ?_ | refine i_sl ?_ | refine i_np ?_ | refine i_pt ?_ | refine i_int ?_ | refine i_m0 ?_ | refine i_m1 ?_ | refine i_isS ?_
  | refine i_rI0 ?_ | refine i_inSign ?_ | refine i_notInSign ?_ | refine i_int1 ?_ | refine i_tru ?_ | refine i_isN ?_ | refine i_notN ?_ | refine iteT ?_ | refine iteF ?_ | refine i_brk ?_ | refine i_rt ?_ | refine i_nx ?_ | refine i_bk ?_ | refine i_ct ?_ | refine i_for ?_ | refine i_lc ?_ | refine i_dc ?_ | refine i_iL ?_ | refine i_iT ?_ | refine i_iR1 ?_ | refine i_iR2 ?_ | refine i_iS ?_ | refine i_iE ?_ | refine i_iEK ?_ | refine i_iEQ ?_ | refine i_dget ?_ | refine i_fld ?_ | refine i_sfld ?_ | refine i_dput ?_ | refine i_meth ?_ | refine i_rU ?_ | refine i_cont ?_ | refine i_make ?_))
local macro_rules | `(tactic| walk_at "v2") => `(tactic| (first
  | ((with_reducible refine' i_var ?k1 ?_); (case k1 => exact rfl))
  | ((with_reducible refine' i_eq ?k1 ?_); (case k1 => exact rfl))
  | ((with_reducible refine' i_ne ?k1 ?_); (case k1 => exact rfl))
  | ((with_reducible refine' i_ixL ?k1 ?k2 ?_); (case k1 => walk_at "h"); (case k2 => exact rfl))
  | ((with_reducible refine' i_ixT ?k1 ?k2 ?_); (case k1 => walk_at "h"); (case k2 => exact rfl))
  | ((with_reducible refine' i_lenL ?k1 ?_); (case k1 => walk_at "h"))
  | ((with_reducible refine' i_lenT ?k1 ?_); (case k1 => walk_at "h"))
  | (refine i_wipe (show wipe _ _ = wipe _ _ from rfl) ?_)
  | ((with_reducible refine' i_setL ?k1 ?k2 ?_); (case k1 => walk_at "h"); (case k2 => exact rfl))
  | ((with_reducible refine' i_tyl ?k1 ?_); (case k1 => walk_at "h"))))
local macro_rules | `(tactic| walk_at "v") => `(tactic| repeat (first | walk_at "v1" | walk_at "v2"))

variable {P : Program} {w : World} {K :
      PySem.W.Frag} {mg : Str → Option Value} {base : Heap}
theorem cut_to (xs : List V) (n : Nat) : cutV xs none (some (n : Int)) = xs.take n := by
  unfold cutV
  have e1 : HT.sIx xs.length 0 none = 0 := rfl
  rw [e1, HT.sIx_nat, List.drop_zero, Nat.sub_zero]
  by_cases h : n ≤ xs.length
  · rw [Nat.min_eq_left h]
  · rw [Nat.min_eq_right (by omega), List.take_of_length_le
        (Nat.le_refl _), List.take_of_length_le (by omega)]
theorem cut_from (xs : List V) (n : Nat) : cutV xs (some (n : Int)) none = xs.drop n := by
  unfold cutV
  have e2 : HT.sIx xs.length xs.length none = xs.length := rfl
  rw [HT.sIx_nat, e2, List.take_of_length_le (by simp)]
  by_cases h : n ≤ xs.length
  · rw [Nat.min_eq_left h]
  · rw [Nat.min_eq_right (by omega), List.drop_of_length_le
        (Nat.le_refl _), List.drop_of_length_le (by omega)]
theorem DtAll.take_drop {S : List Addr} {H : Hp} : ∀ (n : Nat) {ds : List PyData} {xs : List V}, DtAll S H ds xs → DtAll S H (ds.take n) (xs.take n) ∧ DtAll S H (ds.drop n) (xs.drop n)
  | 0, _, _, h => ⟨DtAll.nil, h⟩
  | n + 1, [], _, h => by
    obtain rfl := DtAll.nil_iff.mp h
    exact ⟨DtAll.nil, DtAll.nil⟩
  | n + 1, d :: ds, _, h => by
    obtain ⟨x, r, rfl, h1, h2⟩ := DtAll.cons_iff.mp h
    obtain ⟨z1, z2⟩ := DtAll.take_drop n h2
    exact ⟨DtAll.cons h1 z1, z2⟩
def tbad_ok (C PT : Addr) : TS := fun D σ H => ∃ (sc a b : Addr) (n : Nat) (L : LG) (vl vn : V) (p D1 : Addr) (rs : List Rw) (at_ : Nat) (pb : Addr) (bads : List PyData) (v2 v6 v7 v8 v9 v10 v11 v13 v14 v16 v17 v19 v20 v21 v22 : Option V), σ = [some (.ref sc), some (.ref a), v2, some vl, some vn, some (.ref D1), v6, v7, v8, v9, v10, v11, some (.int at_), v13, v14, some (.ref pb), v16, v17, some (.ref p), v19, v20, v21, v22] ∧
  Env1 a b C PT n L vl vn p H ∧ Dt [a, b] H (.list (rs.map rwD)) (.ref D1) ∧ Dt [a, b] H (.list bads) (.ref pb) ∧ at_ ≤ rs.length ∧ (∀ d ∈ bads, ∀ r, ¬ RowIs L d r) ∧ L.Ok ∧ n < 2 ^ 37 ∧ rs.length ≤ 9 ∧ (∀ r ∈ rs, Vd L r) ∧ ∀ σ' H', Mid sc a b C PT n L vl vn p D1 rs σ' H' → D.nx σ' H'
theorem bad_ok {C c PT f : Addr} (D : Defs K mg C) (B : Blt mg) (TB : TabB base mg c PT) {A : Around} {outer : List Env} {s : Shared} {H : Hp} {E : XK} (hr : Room 10 (A.deeper (envOfC "law" (defScope slaw) s.heap.objs.size f (.ref c)))) :
    PS (cxOf CX0 P w K mg base Nlaw "law" (defScope slaw) f (.ref c) A outer s H E).nox (lawS 15) (tbad_ok C PT) := by
  obtain ⟨d_law_start, d_law_below, d_law_chance, d_law_pick, d_law_mixed, d_law_lot, d_law_name, d_law_names, d_law_record, d_law_log, d_law_same, d_law_copied, d_law_loose, d_law_spoilt, d_law_is_once, d_law_apart, d_law_made, d_law_needs, d_law_nline, d_law_nrow_in, d_law_nrow, d_law_nfits, d_law_nfault, d_law_nbent, d_law_nindex,
    dis_between, dis_name, dnames_of, dlot_among, dnumber_in, dwords_in, dlines_in, drecord_of, dneed_log, drow_of, drow_line, drows_text, drow_in, drows_fault, dread_rows, dinit, dstanding, cLog, iLog, mkLog, eBadRows, eBadText, exm⟩ := D
  obtain ⟨ocN, odN, kVN, docN, pmN, anN, cdvN, ctN, oslN, efd, lkN, hcN⟩ := d_law_nindex.F.ex
  have bN := d_law_nindex.b
  rw [efd] at bN lkN
  have G_law_start : FnOk P w K mg base CX0 1 d_law_start.f d_law_start.fd P_law_start (spStart (K := K)) := ok_start d_law_start B
  have G_law_below : FnOk P w K mg base CX0 1 d_law_below.f d_law_below.fd P_law_below (fun vs H Q E => ∃ i : Addr × Addr, spBelow i.1 i.2 vs H Q E) := FnOk.ex fun i => ok_below d_law_below B
  have G_law_pick : FnOk P w K mg base CX0 2 d_law_pick.f d_law_pick.fd P_law_pick (fun vs H Q E => ∃ i : Addr × Addr, spPick i.1 i.2 vs H Q E) := FnOk.ex fun i => ok_pick d_law_pick d_law_below B
  have G_law_log : FnOk P w K mg base CX0 5 d_law_log.f d_law_log.fd P_law_log (fun vs H Q E => ∃ i : Addr × Addr, spLog i.1 i.2 vs H Q E) := FnOk.ex fun i => ok_log d_law_log d_law_below d_law_pick d_law_lot d_law_chance d_law_name d_law_names d_law_record B
  have G_law_needs : FnOk P w K mg base CX0 1 d_law_needs.f d_law_needs.fd P_law_needs spNeeds := ok_needs d_law_needs B
  have G_law_made : FnOk P w K mg base CX0 7 d_law_made.f d_law_made.fd P_law_made (fun vs H Q E => ∃ i : Addr × Addr, spMade i.1 i.2 C vs H Q E) := FnOk.ex fun i => ok_made d_law_made d_law_below d_law_mixed d_law_loose cLog dinit dstanding mkLog drecord_of dlot_among dnames_of dis_name B
  have G_law_nrow : FnOk P w K mg base CX0 3 d_law_nrow.f d_law_nrow.fd P_law_nrow (fun vs H Q E => ∃ i : Addr × Addr, spNrow i.1 i.2 vs H Q E) := FnOk.ex fun i => ok_nrow d_law_nrow d_law_below d_law_pick d_law_chance B
  have G_law_nline : FnOk P w K mg base CX0 1 d_law_nline.f d_law_nline.fd P_law_nline spNline := ok_nline d_law_nline B
  have G_law_same : FnOk P w K mg base CX0 4 d_law_same.f d_law_same.fd P_law_same (spSame 4) := ok_same d_law_same B 4
  have G_law_copied : FnOk P w K mg base CX0 4 d_law_copied.f d_law_copied.fd P_law_copied (spCopied 4) := ok_copied d_law_copied B 4
  have G_law_loose : FnOk P w K mg base CX0 5 d_law_loose.f d_law_loose.fd P_law_loose (fun vs H Q E => ∃ i : Addr × Addr, spLoose i.1 i.2 4 vs H Q E) := FnOk.ex fun i => ok_loose d_law_loose d_law_below B 4
  have G_law_nbent : FnOk P w K mg base CX0 3 d_law_nbent.f d_law_nbent.fd P_law_nbent (fun vs H Q E => ∃ i : Addr × Addr, spNbent i.1 i.2 vs H Q E) := FnOk.ex fun i => ok_nbent d_law_nbent d_law_below d_law_pick B
  have G_law_nfault : FnOk P w K mg base CX0 2 d_law_nfault.f d_law_nfault.fd P_law_nfault spNfault := ok_nfault d_law_nfault d_law_nfits B
  have G_law_nrow_in : FnOk P w K mg base CX0 1 d_law_nrow_in.f d_law_nrow_in.fd P_law_nrow_in spNrowIn := ok_nrowin d_law_nrow_in B
  have G_law_apart : FnOk P w K mg base CX0 10 d_law_apart.f d_law_apart.fd P_law_apart spApart := ok_apart d_law_apart d_law_spoilt d_law_is_once B
  have Grows_fault : FnOk P w K mg base CX0 4 drows_fault.f drows_fault.fd Prows_fault (spRowsFault C) := ok_rowsfault cLog iLog drows_fault dneed_log dlines_in drow_in dwords_in dnumber_in drow_of dis_between B
  have Xread_rows : FnOk P w K mg base (L2.CX P w) 5 dread_rows.f dread_rows.fd Pread_rows (spReadRows C eBadText.C) := ok_readrows cLog iLog eBadText dread_rows drows_fault dneed_log dlines_in drow_in dwords_in dnumber_in drow_of dis_between B
  have Xrows_text : FnOk P w K mg base (L2.CX P w) 5 drows_text.f drows_text.fd Prows_text (fun vs H Q E => spRowsText C eBadRows.C vs H Q E ∨ spRowsTextD C eBadRows.C vs H Q E) :=
    Lr.FnOk.or (ok_rowstext cLog iLog eBadRows drows_text dneed_log drow_line drow_of dis_between B) (ok_rowstextD cLog iLog eBadRows drows_text dneed_log drow_line drow_of dis_between B)
  have Gread_rows := Lr.FnOk.quiet Xread_rows
  have Grows_text := Lr.FnOk.quiet Xrows_text
  refine PS.by_ ⟨_, (ps_for PassesOwn.never rfl (w_list K (pv 15)) (pg_name (i := 19) sclaw.nd rfl (by first | exact Or.inl rfl | exact Or.inr rfl))
      (pss_cons (ps_set (i := 16) sclaw.nd rfl (by first | exact Or.inl rfl | exact Or.inr rfl) (pe_op op_cat (pe_op op_cat (pe_slice (s_list K) (pv 5) po_none (po_some (pv 12))) (pe_lst (pa_cons (pv 19) pa_nil))) (pe_slice (s_list K) (pv 5) (po_some (pv 12)) po_none)))
      (pss_one (ps_if (pt_not (pt_val (pe_call G_law_same (hr.mono (by decide)) (by rfl) d_law_same.g d_law_same.F.kp d_law_same.b .nil pass0 (pa_cons (LamX.pe_lamAt (T := TL PT) (TT := TIndex eBadRows.C eBadText.C) (k := 6) (c := c) (P := PT) (by rfl) d_law_nindex.g d_law_nindex.F.kp lkN hcN bN sc_law_nindex rfl (.inl rfl) (nindex_at eBadRows eBadText exm) TB rfl (List.mem_singleton.mpr rfl) (fun p hp _ => by rw [List.mem_singleton.mp hp] <;> rfl) (hr.mono (by decide)) (LamX.lamS_by (by show LamX.lamSB (defScope slaw) _ = true; decide +kernel)) rfl (fun _ _ _ _ _ => rfl) (fun A outer s H E f c' room => by exact (pe_callS Xrows_text (room.mono (by decide)) (by rfl) drows_text.g drows_text.F.kp drows_text.b (fun σ => passAt (takes_of rfl rfl rfl rfl) σ) (pa_cons (pv 18) (pa_cons (pv 16) pa_nil))))) (pa_cons (pe_lst (pa_cons pe_str (pa_cons (pv 12) pa_nil))) pa_nil))))) (pss_one (ps_ret pe_bl)) pss_nil)))), ?_⟩
  rintro D σ H ⟨sc, a, b, n, L, vl, vn, p, D1, rs, at_, pb, bads, v2, v6, v7, v8, v9, v10, v11, v13, v14, v16, v17, v19, v20, v21, v22, rfl, E1, drs1, dbad1, hat, nob, ok, ln, lrs, vrs, k⟩
  walk_at "v"

  obtain ⟨xb, hpb, dxb, npb⟩ : ∃ xb, H pb = some (.lst xb) ∧ DtAll [a, b] H bads xb ∧ pb ∉ [a, b] := by
    unfold Dt at dbad1
    obtain ⟨a', xs, e, n, h1, h2⟩ := dbad1
    cases e
    exact ⟨xs, h1, h2, n⟩
  refine w_lst hpb ?_
  refine for_by (walk_list (xs := xb)) ⟨fun i σ H' => (∃ v6 v7 v8 v9 v10 v11 v13 v14 v16 v17 v19 v20 v21 v22 : Option V, σ = [some (.ref sc), some (.ref a), v2, some vl, some vn, some (.ref D1), v6, v7, v8, v9, v10, v11, some (.int at_), v13, v14, some (.ref pb), v16, v17, some (.ref p), v19, v20, v21, v22]) ∧
    Env1 a b C PT n L vl vn p H' ∧ Dt [a, b] H' (.list (rs.map rwD)) (.ref D1) ∧ H' pb = some (.lst xb) ∧ DtAll [a, b] H' bads xb, ?_, fun i σ H' _ ⟨_, _, _, z, _⟩ => SqL.of z, ?_, ?_⟩
  · exact ⟨⟨_, _, _, _, _, _, _, _, _, _, _, _, _, _, rfl⟩, E1, drs1, hpb, dxb⟩
  · rintro i x σ H24 H23 hi ⟨⟨v6, v7, v8, v9, v10, v11, v13, v14, v16, v17, v19, v20, v21, v22, rfl⟩, E23, drs23, g1, g2⟩ ⟨rfl, hx⟩
    obtain ⟨dx, gx, ddx⟩ := g2.get' hx
    obtain ⟨xr, hD1, dxr, nD1⟩ : ∃ xr, H23 D1 = some (.lst xr) ∧ DtAll [a, b] H23 (rs.map rwD) xr ∧ D1 ∉ [a, b] := by
      unfold Dt at drs23
      obtain ⟨a', xs, e, n, h1, h2⟩ := drs23
      cases e
      exact ⟨xs, h1, h2, n⟩
    walk_at "v"
    have lxr : xr.length = rs.length := by rw [dxr.length]; simp
    have lz : ∀ {k : Nat}, k ≤ 100 → k ≤ sizeLine := fun h => Nat.le_trans h (by decide)
    refine ⟨D1, xr, rfl, SqL.of hD1, fun q1 hq1 => ?_⟩
    rw [cut_to]
    walk_at "v"
    refine ⟨show 1 ≤ sizeLine by decide, fun q2 hq2 => ?_⟩
    refine ⟨q1, q2, xr.take at_, [x], rfl, rfl, h_new upd_same hq2, upd_same, lz (by simp; omega), fun q3 hq3 => ?_⟩
    walk_at "v"
    obtain ⟨H25, e25⟩ : ∃ H25, H25 = upd (upd (upd H23 q1 (.lst (xr.take at_))) q2 (.lst [x])) q3 (.lst (xr.take at_ ++ [x])) := ⟨_, rfl⟩
    have s25 : Same H23 H25 := by rw [e25]; exact (((Same.refl H23).new hq1).new hq2).new hq3
    have h3 : H25 q3 = some (.lst (xr.take at_ ++ [x])) := by rw [e25]; exact upd_same
    rw [← e25]
    clear e25
    refine ⟨D1, xr, rfl, SqL.of (s25 _ _ hD1), fun q4 hq4 => ?_⟩
    rw [cut_from]
    refine ⟨q3, q4, xr.take at_ ++ [x], xr.drop at_, rfl, rfl, h_new h3 hq4, upd_same, lz (by simp; omega), fun q5 hq5 => ?_⟩
    obtain ⟨H26, e26⟩ : ∃ H26, H26 = upd (upd H25 q4 (.lst (xr.drop at_))) q5 (.lst (xr.take at_ ++ [x] ++ xr.drop at_)) := ⟨_, rfl⟩
    have s26 : Same H23 H26 := by rw [e26]; exact (s25.new hq4).new hq5
    have h5 : H26 q5 = some (.lst (xr.take at_ ++ [x] ++ xr.drop at_)) := by rw [e26]; exact upd_same
    rw [← e26]
    clear e26
    have E26 := E23.same s26
    have drs26 := drs23.same s26
    have fq5 : H23 q5 = none := (Keep.of_same (S := []) (s25.new (o := .lst (xr.drop at_)) hq4)).free hq5
    have n5 := E23.st.nm fq5
    have all5 : DtAll [a, b] H26 (((rs.take at_).map rwD ++ [dx]) ++ (rs.drop at_).map rwD) (xr.take at_ ++ [x] ++ xr.drop at_) := by
      refine DtAll.append (DtAll.append ?_ (DtAll.one (ddx.same s26))) ?_
      · rw [List.map_take]; exact DtAll.keep (Keep.of_same s26) _ _ (DtAll.take_drop at_ dxr).1
      · rw [List.map_drop]; exact DtAll.keep (Keep.of_same s26) _ _ (DtAll.take_drop at_ dxr).2
    have d5 : Dt [a, b] H26 (.list (((rs.take at_).map rwD ++ [dx]) ++ (rs.drop at_).map rwD)) (.ref q5) := dt_list h5 all5 n5
    walk_at "v"
    refine ⟨E26.tb, fun H27 xt T27 Ex hEx => ?_⟩
    have E27 := E26.extn xt T27
    have drs27 := Dt.extn xt _ _ drs26
    have g27 := xt _ _ (s26 _ _ g1) (fun _ e => nomatch e)
    have g27' := DtAll.extn xt _ _ (DtAll.keep (Keep.of_same s26) _ _ g2)
    refine ⟨_, rfl, _, rfl, ?_⟩
    have nobx := nob dx (List.mem_of_getElem? gx)
    have lt : ((rs.take at_).map rwD).length = at_ := by simp; omega
    have gat : ((((rs.take at_).map rwD ++ [dx]) ++ (rs.drop at_).map rwD))[at_]? = some dx := by
      rw [List.append_assoc, List.getElem?_append_right (by omega), lt, Nat.sub_self]; rfl
    refine .inl ⟨[a, b], L, p, _, .ref q5, rfl, E27.la.nil, ok, Dt.extn xt _ _ d5, by simp [kids]; omega, fun rs3 _ hr3 => ?_, fun n' k' rs3 _ gk no hr3 dd H28 hdd s28 => ?_, fun h => by cases h⟩
    · have hlt : at_ < rs3.length := by rw [← hr3.1]; simp [kids]; omega
      exact (nobx _ (hr3.2 at_ dx rs3[at_] gat (by simp [hlt]))).elim
    · obtain rfl : n' = at_ := by
        change ((((rs.take at_).map rwD ++ [dx]) ++ (rs.drop at_).map rwD))[n']? = some k' at gk
        rcases Nat.lt_trichotomy n' at_ with h | h | h
        · rw [List.append_assoc, List.getElem?_append_left (by omega), List.getElem?_map, List.getElem?_take, if_pos h] at gk
          obtain ⟨r, hr, rfl⟩ := Option.map_eq_some_iff.mp gk
          exact (no r ⟨rfl, rfl, vrs r (List.mem_of_getElem? hr)⟩).elim
        · exact h
        · have hlt : at_ < rs3.length := by
            rw [← hr3.1]
            have := (List.getElem?_eq_some_iff.mp gk).1
            show at_ < (((((rs.take at_).map rwD ++ [dx]) ++ (rs.drop at_).map rwD)).take n').length
            rw [List.length_take]
            omega
          refine (nobx _ (hr3.2 at_ dx rs3[at_] ?_ (by simp [hlt]))).elim
          show (((((rs.take at_).map rwD ++ [dx]) ++ (rs.drop at_).map rwD)).take n')[at_]? = some dx
          rw [List.getElem?_take, if_pos h, gat]
      refine hEx _ _ _ (.inl ⟨rfl, dd, _, rfl, hdd, fun q1 hq1 => ?_⟩)
      walk_at "v"
      refine ⟨show 2 ≤ sizeLine by decide, fun q2 hq2 => ?_⟩
      walk_at "v"
      have s29 := (s28.new (o := .lst [.str ("rows" : Str), .int (n' : Nat)]) hq1).new (o := .lst [.str ("rows" : Str), .int (n' : Nat)]) hq2
      refine ⟨[], [], .list [.str ("rows" : Str), .int (n' : Nat)], _, _, rfl, dt_list (h_new upd_same hq2) (DtAll.cons dt_s (DtAll.cons dt_i DtAll.nil)) (by simp), dt_list upd_same (DtAll.cons dt_s (DtAll.cons dt_i DtAll.nil)) (by simp), ?_, fun H30 s30 => ?_⟩
      · refine ⟨by simp, fun d hd => ?_⟩
        simp only [List.mem_cons, List.not_mem_nil, or_false] at hd
        rcases hd with rfl | rfl <;> trivial
      · walk_at "v"
        refine iteF ?_
        walk_at "v"
        have s2730 := s29.trans s30
        exact ⟨⟨_, _, _, _, _, _, _, _, _, _, _, _, _, _, rfl⟩, E27.same s2730, drs27.same s2730, s2730 _ _ g27, DtAll.keep (Keep.of_same s2730) _ _ g27'⟩
  · rintro σ H23 ⟨⟨v6, v7, v8, v9, v10, v11, v13, v14, v16, v17, v19, v20, v21, v22, rfl⟩, E23, drs23, _, _⟩
    exact k _ _ ⟨⟨_, _, _, _, _, _, _, _, _, _, _, _, _, _, _, _, _, rfl⟩, E23, drs23⟩
end Lr
set_option Elab.async false
set_option linter.all false
set_option maxRecDepth 100000
set_option maxHeartbeats 16000000
namespace Lr
open PySem PySem.Spec PyProof.Rows L2 TL
open C8 (InsC call_isC)
open LamX (GivesAt CodeO Tabs TabS TabB ExtN)
local macro_rules | `(tactic| walk_at "ne") => `(tactic| (first | assumption | (refine ne_sym ?_; assumption) | (exact ne_of_none (by assumption) (by assumption)) | (exact ne_sym (ne_of_none (by assumption) (by assumption)))))
local macro_rules | `(tactic| walk_at "h") => `(tactic| (first | assumption | exact upd_same | (refine h_new ?_ (by assumption); walk_at "h") | (refine h_ne (by walk_at "ne") ?_; walk_at "h")))
local macro_rules | `(tactic| walk_at "v1") => `(tactic| (with_reducible first
  | refine i_seq ?_ | refine i_asg ?_ | refine i_ret ?_ | refine i_next ?_ | refine i_drop ?_ | refine i_ifS ?_ | refine i_if ?_ | refine i_and ?_ | refine i_or ?_ | refine i_not ?_ | refine i_test ?_ | refine i_tB ?_ | refine i_bl ?_ | refine i_yes ?_
  | refine i_op ?_ | refine i_un ?_ | refine i_chain ?_ | refine i_andV ?_ | refine i_orV ?_ | refine i_notV ?_ | refine i_cb ?_ | refine i_cons ?_ | refine i_nil ?_ | refine i_bm ?_ | refine i_bm0 ?_ | refine i_c ?_ | refine i_name ?_ | refine i_sub ?_
  | refine i_call ?_ | refine i_lst ?_ | refine i_tup ?_ | refine i_par ?_ | refine i_par2 ?_ | refine i_sl ?_ | refine i_np ?_ | refine i_pt ?_ | refine i_int ?_ | refine i_m0 ?_ | refine i_m1 ?_ | refine i_isS ?_
  | refine i_rI0 ?_ | refine i_inSign ?_ | refine i_notInSign ?_ | refine i_int1 ?_ | refine i_tru ?_ | refine i_isN ?_ | refine i_notN ?_ | refine iteT ?_ | refine iteF ?_ | refine i_brk ?_ | refine i_rt ?_ | refine i_nx ?_ | refine i_bk ?_ | refine i_ct ?_ | refine i_for ?_ | refine i_lc ?_ | refine i_dc ?_ | refine i_iL ?_ | refine i_iT ?_ | refine i_iR1 ?_ | refine i_iR2 ?_ | refine i_iS ?_ | refine i_iE ?_ | refine i_iEK ?_ | refine i_iEQ ?_ | refine i_dget ?_ | refine i_fld ?_ | refine i_sfld ?_ | refine i_dput ?_ | refine i_meth ?_ | refine i_rU ?_ | refine i_cont ?_ | refine i_make ?_))
local macro_rules | `(tactic| walk_at "v2") => `(tactic| (first
  | ((with_reducible refine' i_var ?k1 ?_); (case k1 => exact rfl))
  | ((with_reducible refine' i_eq ?k1 ?_); (case k1 => exact rfl))
  | ((with_reducible refine' i_ne ?k1 ?_); (case k1 => exact rfl))
  | ((with_reducible refine' i_ixL ?k1 ?k2 ?_); (case k1 => walk_at "h"); (case k2 => exact rfl))
  | ((with_reducible refine' i_ixT ?k1 ?k2 ?_); (case k1 => walk_at "h"); (case k2 => exact rfl))
  | ((with_reducible refine' i_lenL ?k1 ?_); (case k1 => walk_at "h"))
  | ((with_reducible refine' i_lenT ?k1 ?_); (case k1 => walk_at "h"))
  | (refine i_wipe (show wipe _ _ = wipe _ _ from rfl) ?_)
  | ((with_reducible refine' i_setL ?k1 ?k2 ?_); (case k1 => walk_at "h"); (case k2 => exact rfl))
  | ((with_reducible refine' i_tyl ?k1 ?_); (case k1 => walk_at "h"))))
local macro_rules | `(tactic| walk_at "v") => `(tactic| repeat (first | walk_at "v1" | walk_at "v2"))

variable {P : Program} {w : World} {K :
      PySem.W.Frag} {mg : Str → Option Value} {base : Heap}
def tlast_ok (C PT : Addr) : TS := fun D σ H => ∃ (sc a b : Addr) (n : Nat) (L : LG) (vl vn : V) (p D1 : Addr) (rs : List Rw), Mid sc a b C PT n L vl vn p D1 rs σ H ∧ L.Ok ∧ n < 2 ^ 37 ∧ rs.length ≤ 9 ∧ (∀ r ∈ rs, Vd L r) ∧ ∀ σ' H', Mid sc a b C PT n L vl vn p D1 rs σ' H' → D.nx σ' H'
theorem last_ok {C c PT f : Addr} (D : Defs K mg C) (B : Blt mg) (TB : TabB base mg c PT) {A : Around} {outer : List Env} {s : Shared} {H : Hp} {E : XK} (hr : Room 10 (A.deeper (envOfC "law" (defScope slaw) s.heap.objs.size f (.ref c)))) :
    PS (cxOf CX0 P w K mg base Nlaw "law" (defScope slaw) f (.ref c) A outer s H E).nox (lawS 16) (tlast_ok C PT) := by
  obtain ⟨d_law_start, d_law_below, d_law_chance, d_law_pick, d_law_mixed, d_law_lot, d_law_name, d_law_names, d_law_record, d_law_log, d_law_same, d_law_copied, d_law_loose, d_law_spoilt, d_law_is_once, d_law_apart, d_law_made, d_law_needs, d_law_nline, d_law_nrow_in, d_law_nrow, d_law_nfits, d_law_nfault, d_law_nbent, d_law_nindex,
    dis_between, dis_name, dnames_of, dlot_among, dnumber_in, dwords_in, dlines_in, drecord_of, dneed_log, drow_of, drow_line, drows_text, drow_in, drows_fault, dread_rows, dinit, dstanding, cLog, iLog, mkLog, eBadRows, eBadText, exm⟩ := D
  obtain ⟨ocN, odN, kVN, docN, pmN, anN, cdvN, ctN, oslN, efd, lkN, hcN⟩ := d_law_nindex.F.ex
  have bN := d_law_nindex.b
  rw [efd] at bN lkN
  have G_law_start : FnOk P w K mg base CX0 1 d_law_start.f d_law_start.fd P_law_start (spStart (K := K)) := ok_start d_law_start B
  have G_law_below : FnOk P w K mg base CX0 1 d_law_below.f d_law_below.fd P_law_below (fun vs H Q E => ∃ i : Addr × Addr, spBelow i.1 i.2 vs H Q E) := FnOk.ex fun i => ok_below d_law_below B
  have G_law_pick : FnOk P w K mg base CX0 2 d_law_pick.f d_law_pick.fd P_law_pick (fun vs H Q E => ∃ i : Addr × Addr, spPick i.1 i.2 vs H Q E) := FnOk.ex fun i => ok_pick d_law_pick d_law_below B
  have G_law_log : FnOk P w K mg base CX0 5 d_law_log.f d_law_log.fd P_law_log (fun vs H Q E => ∃ i : Addr × Addr, spLog i.1 i.2 vs H Q E) := FnOk.ex fun i => ok_log d_law_log d_law_below d_law_pick d_law_lot d_law_chance d_law_name d_law_names d_law_record B
  have G_law_needs : FnOk P w K mg base CX0 1 d_law_needs.f d_law_needs.fd P_law_needs spNeeds := ok_needs d_law_needs B
  have G_law_made : FnOk P w K mg base CX0 7 d_law_made.f d_law_made.fd P_law_made (fun vs H Q E => ∃ i : Addr × Addr, spMade i.1 i.2 C vs H Q E) := FnOk.ex fun i => ok_made d_law_made d_law_below d_law_mixed d_law_loose cLog dinit dstanding mkLog drecord_of dlot_among dnames_of dis_name B
  have G_law_nrow : FnOk P w K mg base CX0 3 d_law_nrow.f d_law_nrow.fd P_law_nrow (fun vs H Q E => ∃ i : Addr × Addr, spNrow i.1 i.2 vs H Q E) := FnOk.ex fun i => ok_nrow d_law_nrow d_law_below d_law_pick d_law_chance B
  have G_law_nline : FnOk P w K mg base CX0 1 d_law_nline.f d_law_nline.fd P_law_nline spNline := ok_nline d_law_nline B
  have G_law_same : FnOk P w K mg base CX0 4 d_law_same.f d_law_same.fd P_law_same (spSame 4) := ok_same d_law_same B 4
  have G_law_copied : FnOk P w K mg base CX0 4 d_law_copied.f d_law_copied.fd P_law_copied (spCopied 4) := ok_copied d_law_copied B 4
  have G_law_loose : FnOk P w K mg base CX0 5 d_law_loose.f d_law_loose.fd P_law_loose (fun vs H Q E => ∃ i : Addr × Addr, spLoose i.1 i.2 4 vs H Q E) := FnOk.ex fun i => ok_loose d_law_loose d_law_below B 4
  have G_law_nbent : FnOk P w K mg base CX0 3 d_law_nbent.f d_law_nbent.fd P_law_nbent (fun vs H Q E => ∃ i : Addr × Addr, spNbent i.1 i.2 vs H Q E) := FnOk.ex fun i => ok_nbent d_law_nbent d_law_below d_law_pick B
  have G_law_nfault : FnOk P w K mg base CX0 2 d_law_nfault.f d_law_nfault.fd P_law_nfault spNfault := ok_nfault d_law_nfault d_law_nfits B
  have G_law_nrow_in : FnOk P w K mg base CX0 1 d_law_nrow_in.f d_law_nrow_in.fd P_law_nrow_in spNrowIn := ok_nrowin d_law_nrow_in B
  have G_law_apart : FnOk P w K mg base CX0 10 d_law_apart.f d_law_apart.fd P_law_apart spApart := ok_apart d_law_apart d_law_spoilt d_law_is_once B
  have Grows_fault : FnOk P w K mg base CX0 4 drows_fault.f drows_fault.fd Prows_fault (spRowsFault C) := ok_rowsfault cLog iLog drows_fault dneed_log dlines_in drow_in dwords_in dnumber_in drow_of dis_between B
  have Xread_rows : FnOk P w K mg base (L2.CX P w) 5 dread_rows.f dread_rows.fd Pread_rows (spReadRows C eBadText.C) := ok_readrows cLog iLog eBadText dread_rows drows_fault dneed_log dlines_in drow_in dwords_in dnumber_in drow_of dis_between B
  have Xrows_text : FnOk P w K mg base (L2.CX P w) 5 drows_text.f drows_text.fd Prows_text (fun vs H Q E => spRowsText C eBadRows.C vs H Q E ∨ spRowsTextD C eBadRows.C vs H Q E) :=
    Lr.FnOk.or (ok_rowstext cLog iLog eBadRows drows_text dneed_log drow_line drow_of dis_between B) (ok_rowstextD cLog iLog eBadRows drows_text dneed_log drow_line drow_of dis_between B)
  have Gread_rows := Lr.FnOk.quiet Xread_rows
  have Grows_text := Lr.FnOk.quiet Xrows_text
  refine PS.by_ ⟨_, (ps_for PassesOwn.never rfl (w_list K (pe_lst (pa_cons pe_non (pa_cons pe_str (pa_cons pe_int (pa_cons pe_dnewK pa_nil)))))) (pg_name (i := 19) sclaw.nd rfl (by first | exact Or.inl rfl | exact Or.inr rfl))
      (pss_one (ps_if (pt_not (pt_val (pe_call G_law_same (hr.mono (by decide)) (by rfl) d_law_same.g d_law_same.F.kp d_law_same.b .nil pass0 (pa_cons (LamX.pe_lamAt (T := TL PT) (TT := TIndex eBadRows.C eBadText.C) (k := 6) (c := c) (P := PT) (by rfl) d_law_nindex.g d_law_nindex.F.kp lkN hcN bN sc_law_nindex rfl (.inl rfl) (nindex_at eBadRows eBadText exm) TB rfl (List.mem_singleton.mpr rfl) (fun p hp _ => by rw [List.mem_singleton.mp hp] <;> rfl) (hr.mono (by decide)) (LamX.lamS_by (by show LamX.lamSB (defScope slaw) _ = true; decide +kernel)) rfl (fun _ _ _ _ _ => rfl) (fun A outer s H E f c' room => by exact (pe_callS Xrows_text (room.mono (by decide)) (by rfl) drows_text.g drows_text.F.kp drows_text.b (fun σ => passAt (takes_of rfl rfl rfl rfl) σ) (pa_cons (pv 18) (pa_cons (pv 19) pa_nil))))) (pa_cons (pe_lst (pa_cons pe_str (pa_cons pe_int pa_nil))) pa_nil))))) (pss_one (ps_ret pe_bl)) pss_nil))), ?_⟩
  rintro D σ H ⟨sc, a, b, n, L, vl, vn, p, D1, rs, ⟨⟨v2, v6, v7, v8, v9, v10, v11, v12, v13, v14, v15, v16, v17, v19, v20, v21, v22, rfl⟩, E1, drs1⟩, ok, ln, lrs, vrs, k⟩
  walk_at "v"

  refine fun p1 hp1 => ?_
  walk_at "v"
  refine ⟨show 4 ≤ sizeLine by decide, fun p2 hp2 => ?_⟩
  have s21 := ((Same.refl H).new (o := .dK []) hp1).new (o := .lst [V.non, V.str ("" : Str), V.int 3, V.ref p1]) hp2
  have E22 := E1.same s21
  have drs22 := drs1.same s21
  obtain ⟨H22, e22⟩ : ∃ H22, H22 = upd (upd H p1 (.dK [])) p2 (.lst [V.non, V.str ("" : Str), V.int 3, V.ref p1]) := ⟨_, rfl⟩
  have h1 : H22 p1 = some (.dK []) := by rw [e22]; exact h_new upd_same hp2
  have h2 : H22 p2 = some (.lst [V.non, V.str ("" : Str), V.int 3, V.ref p1]) := by rw [e22]; exact upd_same
  rw [← e22] at E22 drs22 ⊢
  clear e22
  refine w_lst h2 ?_
  refine for_by (walk_list (xs := [V.non, V.str ("" : Str), V.int 3, V.ref p1])) ⟨fun i σ H' => (∃ v6 v7 v8 v9 v10 v11 v12 v13 v14 v15 v16 v17 v19 v20 v21 v22 : Option V, σ = [some (.ref sc), some (.ref a), v2, some vl, some vn, some (.ref D1), v6, v7, v8, v9, v10, v11, v12, v13, v14, v15, v16, v17, some (.ref p), v19, v20, v21, v22]) ∧
    Env1 a b C PT n L vl vn p H' ∧ Dt [a, b] H' (.list (rs.map rwD)) (.ref D1) ∧ H' p1 = some (.dK []) ∧ H' p2 = some (.lst [V.non, V.str ("" : Str), V.int 3, V.ref p1]), ?_, fun i σ H' _ ⟨_, _, _, _, z⟩ => SqL.of z, ?_, ?_⟩
  · exact ⟨⟨_, _, _, _, _, _, _, _, _, _, _, _, _, _, _, _, rfl⟩, E22, drs22, h1, h2⟩
  · rintro i x σ H24 H23 hi ⟨⟨v6, v7, v8, v9, v10, v11, v12, v13, v14, v15, v16, v17, v19, v20, v21, v22, rfl⟩, E23, drs23, g1, g2⟩ ⟨rfl, hx⟩
    obtain hdx : (∃ dx, (∀ H', Dt [] H' dx x) ∧ (isK "list" dx || isK "tuple" dx) = false ∧ (kids dx).length ≤ 1000) ∨ x = .ref p1 := by
      have hm := List.mem_of_getElem? hx
      simp only [List.mem_cons,
            List.not_mem_nil, or_false] at hm
      rcases hm with
            rfl | rfl | rfl | rfl
      · exact .inl ⟨.none, fun _ => dt_n, rfl, by decide⟩
      · exact .inl ⟨.str "", fun _ => dt_s, rfl, by show (0 : Nat) ≤ 1000; decide⟩
      · exact .inl ⟨.int 3, fun _ => dt_i, rfl, by show (0 : Nat) ≤ 1000; decide⟩
      · exact .inr rfl
    walk_at "v"
    refine ⟨E23.tb, fun H27 xt T27 Ex hEx => ?_⟩
    have E27 := E23.extn xt T27
    have drs27 := Dt.extn xt _ _ drs23
    have g27 := xt _ _ g1 (fun _ e => nomatch e)
    have g27' := xt _ _ g2 (fun _ e => nomatch e)
    refine ⟨_, rfl, _, rfl, ?_⟩
    have fin : ∀ dd H28, H28 dd = some (.xd [(("index" : Str), .int 0)]) → Same H27 H28 → Ex (.ref eBadRows.C) (some dd) H28 := by
      intro dd H28 hdd s28
      refine hEx _ _ _ (.inl ⟨rfl, dd, _, rfl, hdd, fun q1 hq1 => ?_⟩)
      walk_at "v"
      refine ⟨show 2 ≤ sizeLine by decide, fun q2 hq2 => ?_⟩
      walk_at "v"
      have s29 := (s28.new (o := .lst [.str ("rows" : Str), .int 0]) hq1).new (o := .lst [.str ("rows" : Str), .int 0]) hq2
      refine ⟨[], [], .list [.str ("rows" : Str), .int 0], _, _, rfl, dt_list (h_new upd_same hq2) (DtAll.cons dt_s (DtAll.cons dt_i DtAll.nil)) (by simp), dt_list upd_same (DtAll.cons dt_s (DtAll.cons dt_i DtAll.nil)) (by simp), ?_, fun H30 s30 => ?_⟩
      · refine ⟨by simp, fun d hd => ?_⟩
        simp only [List.mem_cons, List.not_mem_nil, or_false] at hd
        rcases hd with rfl | rfl <;> trivial
      · walk_at "v"
        refine iteF ?_
        walk_at "v"
        have s2730 := s29.trans s30
        exact ⟨⟨_, _, _, _, _, _, _, _, _, _, _, _, _, _, _, _, rfl⟩, E27.same s2730, drs27.same s2730, s2730 _ _ g27, s2730 _ _ g27'⟩
    rcases hdx with ⟨dx, ddx, ndx, kdx⟩ | rfl
    · refine .inl ⟨[], L, p, dx, x, rfl, E27.la.nil, ok, ddx _, kdx, fun _ h => ?_, fun _ _ _ h => ?_, fun _ => fin⟩
      · rw [ndx] at h; cases h
      · rw [ndx] at h; cases h
    · exact .inr ⟨L, p, p1, [], rfl, E27.la.nil, g27, fin⟩
  · rintro σ H23 ⟨⟨v6, v7, v8, v9, v10, v11, v12, v13, v14, v15, v16, v17, v19, v20, v21, v22, rfl⟩, E23, drs23, _, _⟩
    exact k _ _ ⟨⟨_, _, _, _, _, _, _, _, _, _, _, _, _, _, _, _, _, rfl⟩, E23, drs23⟩
end Lr
set_option Elab.async false
set_option linter.all false
set_option maxRecDepth 100000
set_option maxHeartbeats 4000000
/-! Tb: the things that are no rows, in plain terms. -/
namespace Lr
open PySem PySem.Spec PyProof.Rows L2 TL
def badD (N : Nat) (pg : Str) (v : Int) : List PyData :=
  [.none, .tuple [.int ((N : Int) + 1), .str pg], .tuple [.int ((N : Int) + 1 + 1), .str pg, .none], .tuple [.int 0, .str pg, .none], .tuple [.bool true, .str pg, .none], .tuple [.int ((N : Int) + 1), .str ("zz99zz99z" : Str), .none],
   .tuple [.int ((N : Int) + 1), .str pg, .int 0], .tuple [.int ((N : Int) + 1), .str pg, .int v], .tuple [.int ((N : Int) + 1), .str pg, .bool true], .tuple [.int ((N : Int) + 1), .str pg, .str ("1" : Str)], .tuple [.str ("end" : Str), .str pg, .none]]
theorem need_mem {L : LG} (ok : L.Ok) {k : Nat} (h1 : 1 ≤ k) (h2 : k ≤ L.rows.length + 1) {x : Str} {v : Int} (h : (x, v) ∈ needOf L k) : x ∈ L.pages := by
  obtain ⟨t, ns, e, _, sub, _⟩ := need_form ok h1 h2
  unfold needOf at h
  rw [e] at h
  simp only [Option.getD_some, standing, List.mem_map, Prod.mk.injEq] at h
  obtain ⟨y, hy, rfl, _⟩ := h
  exact sub _ hy
theorem no_bad {L : LG} (ok : L.Ok) {pg : Str} : ∀ d ∈ badD L.rows.length pg (ver L.rows pg), ∀ r, ¬ RowIs L d r := by
  intro d hd r ⟨h1, h2, h3⟩
  obtain ⟨k, page, over⟩ := r
  obtain ⟨lo, hi, v, hv, ov⟩ := h3
  unfold badD at hd
  simp only [List.mem_cons, List.not_mem_nil, or_false] at hd
  rcases hd with rfl | rfl | rfl | rfl | rfl | rfl | rfl | rfl | rfl | rfl | rfl <;> simp [kids] at h2
  · simp at hi; omega
  · simp at lo; omega
  · obtain ⟨h4, h5, h6⟩ := h2
    simp only at hv lo hi
    have := ok.name _ (need_mem ok lo hi hv)
    rw [← h5] at this
    revert this
    decide +kernel
  · obtain ⟨h4, h5, h6⟩ := h2
    cases over with
    | none => cases h6
    | some j =>
      simp [ovD] at h6
      have := ov.1
      omega
  · obtain ⟨h4, h5, h6⟩ := h2
    cases over with
    | none => cases h6
    | some j =>
      simp [ovD] at h6
      have ek : k = L.rows.length + 1 := by omega
      simp only at hv ov
      subst ek
      unfold needOf at hv
      rw [show L.rows.length + 1 - 1 = L.rows.length from rfl, needs_end L] at hv
      simp only [Option.getD_some, standing, List.mem_map, Prod.mk.injEq] at hv
      obtain ⟨y, hy, rfl, rfl⟩ := hv
      have := ov.2.1
      rw [← h5] at this
      omega
  · obtain ⟨h4, h5, h6⟩ := h2
    cases over <;> cases h6
  · obtain ⟨h4, h5, h6⟩ := h2
    cases over <;> cases h6
end Lr
set_option Elab.async false
set_option linter.all false
set_option maxRecDepth 100000
set_option maxHeartbeats 16000000
namespace Lr
open PySem PySem.Spec PyProof.Rows L2 TL
open C8 (InsC call_isC)
open LamX (GivesAt CodeO Tabs TabS TabB ExtN)
local macro_rules | `(tactic| walk_at "ne") => `(tactic| (first | assumption | (refine ne_sym ?_; assumption) | (exact ne_of_none (by assumption) (by assumption)) | (exact ne_sym (ne_of_none (by assumption) (by assumption)))))
local macro_rules | `(tactic| walk_at "h") => `(tactic| (first | assumption | exact upd_same | (refine h_new ?_ (by assumption); walk_at "h") | (refine h_ne (by walk_at "ne") ?_; walk_at "h")))
local macro_rules | `(tactic| walk_at "v1") => `(tactic| (with_reducible first
  | refine i_seq ?_ | refine i_asg ?_ | refine i_ret ?_ | refine i_next ?_ | refine i_drop ?_ | refine i_ifS ?_ | refine i_if ?_ | refine i_and ?_ | refine i_or ?_ | refine i_not ?_ | refine i_test ?_ | refine i_tB ?_ | refine i_bl ?_ | refine i_yes ?_
  | refine i_op ?_ | refine i_un ?_ | refine i_chain ?_ | refine i_andV ?_ | refine i_orV ?_ | refine i_notV ?_ | refine i_cb ?_ | refine i_cons ?_ | refine i_nil ?_ | refine i_bm ?_ | refine i_bm0 ?_ | refine i_c ?_ | refine i_name ?_ | refine i_sub ?_
  | refine i_call ?_ | refine i_lst ?_ | refine i_tup ?_ | refine i_par ?_ | refine i_par2 ?_ | refine i_sl ?_ | refine i_np ?_ | refine i_pt ?_ | refine i_int ?_ | refine i_m0 ?_ | refine i_m1 ?_ | refine i_isS ?_
  | refine i_rI0 ?_ | refine i_inSign ?_ | refine i_notInSign ?_ | refine i_int1 ?_ | refine i_tru ?_ | refine i_isN ?_ | refine i_notN ?_ | refine iteT ?_ | refine iteF ?_ | refine i_brk ?_ | refine i_rt ?_ | refine i_nx ?_ | refine i_bk ?_ | refine i_ct ?_ | refine i_for ?_ | refine i_lc ?_ | refine i_dc ?_ | refine i_iL ?_ | refine i_iT ?_ | refine i_iR1 ?_ | refine i_iR2 ?_ | refine i_iS ?_ | refine i_iE ?_ | refine i_iEK ?_ | refine i_iEQ ?_ | refine i_dget ?_ | refine i_fld ?_ | refine i_sfld ?_ | refine i_dput ?_ | refine i_meth ?_ | refine i_rU ?_ | refine i_cont ?_ | refine i_make ?_))
local macro_rules | `(tactic| walk_at "v2") => `(tactic| (first
  | ((with_reducible refine' i_var ?k1 ?_); (case k1 => exact rfl))
  | ((with_reducible refine' i_eq ?k1 ?_); (case k1 => exact rfl))
  | ((with_reducible refine' i_ne ?k1 ?_); (case k1 => exact rfl))
  | ((with_reducible refine' i_ixL ?k1 ?k2 ?_); (case k1 => walk_at "h"); (case k2 => exact rfl))
  | ((with_reducible refine' i_ixT ?k1 ?k2 ?_); (case k1 => walk_at "h"); (case k2 => exact rfl))
  | ((with_reducible refine' i_lenL ?k1 ?_); (case k1 => walk_at "h"))
  | ((with_reducible refine' i_lenT ?k1 ?_); (case k1 => walk_at "h"))
  | (refine i_wipe (show wipe _ _ = wipe _ _ from rfl) ?_)
  | ((with_reducible refine' i_setL ?k1 ?k2 ?_); (case k1 => walk_at "h"); (case k2 => exact rfl))
  | ((with_reducible refine' i_tyl ?k1 ?_); (case k1 => walk_at "h"))))
local macro_rules | `(tactic| walk_at "v") => `(tactic| repeat (first | walk_at "v1" | walk_at "v2"))

variable {P : Program} {w : World} {K :
      PySem.W.Frag} {mg : Str → Option Value} {base : Heap}
def tbads1_ok (C PT : Addr) : TS := fun D σ H => ∃ (sc a b : Addr) (n : Nat) (L : LG) (vl vn : V) (p D1 pb : Addr) (rs : List Rw) (at_ : Nat) (pg : Str) (v2 v6 v7 v8 v9 v10 v11 v15 v16 v17 v19 v20 v21 v22 : Option V), σ = [some (.ref sc), some (.ref a), v2, some vl, some vn, some (.ref D1), v6, v7, v8, v9, v10, v11, some (.int at_), some (.str pg), some (.int ((L.rows.length : Int) + 1)), v15, v16, v17, some (.ref p), v19, v20, v21, v22] ∧
  Env1 a b C PT n L vl vn p H ∧ Dt [a, b] H (.list (rs.map rwD)) (.ref D1) ∧ L.Ok ∧ (pg, ver L.rows pg) ∈ standing L.rows L.pages ∧ L.pages[0]? = some pg ∧ ∀ pb H', Env1 a b C PT n L vl vn p H' → Dt [a, b] H' (.list (rs.map rwD)) (.ref D1) → Dt [a, b] H' (.list ((badD L.rows.length pg (ver L.rows pg)).take 6)) (.ref pb) → D.nx [some (.ref sc), some (.ref a), v2, some vl, some vn, some (.ref D1), v6, v7, v8, v9, v10, v11, some (.int at_), some (.str pg), some (.int ((L.rows.length : Int) + 1)), some (.ref pb), v16, v17, some (.ref p), v19, v20, v21, v22] H'
theorem bads1_ok {C c PT f : Addr} (D : Defs K mg C) (B : Blt mg) (TB : TabB base mg c PT) {A : Around} {outer : List Env} {s : Shared} {H : Hp} {E : XK} (hr : Room 10 (A.deeper (envOfC "law" (defScope slaw) s.heap.objs.size f (.ref c)))) :
    PS (cxOf CX0 P w K mg base Nlaw "law" (defScope slaw) f (.ref c) A outer s H E).nox (lawS 13) (tbads1_ok C PT) := by
  obtain ⟨d_law_start, d_law_below, d_law_chance, d_law_pick, d_law_mixed, d_law_lot, d_law_name, d_law_names, d_law_record, d_law_log, d_law_same, d_law_copied, d_law_loose, d_law_spoilt, d_law_is_once, d_law_apart, d_law_made, d_law_needs, d_law_nline, d_law_nrow_in, d_law_nrow, d_law_nfits, d_law_nfault, d_law_nbent, d_law_nindex,
    dis_between, dis_name, dnames_of, dlot_among, dnumber_in, dwords_in, dlines_in, drecord_of, dneed_log, drow_of, drow_line, drows_text, drow_in, drows_fault, dread_rows, dinit, dstanding, cLog, iLog, mkLog, eBadRows, eBadText, exm⟩ := D
  obtain ⟨ocN, odN, kVN, docN, pmN, anN, cdvN, ctN, oslN, efd, lkN, hcN⟩ := d_law_nindex.F.ex
  have bN := d_law_nindex.b
  rw [efd] at bN lkN
  have G_law_start : FnOk P w K mg base CX0 1 d_law_start.f d_law_start.fd P_law_start (spStart (K := K)) := ok_start d_law_start B
  have G_law_below : FnOk P w K mg base CX0 1 d_law_below.f d_law_below.fd P_law_below (fun vs H Q E => ∃ i : Addr × Addr, spBelow i.1 i.2 vs H Q E) := FnOk.ex fun i => ok_below d_law_below B
  have G_law_pick : FnOk P w K mg base CX0 2 d_law_pick.f d_law_pick.fd P_law_pick (fun vs H Q E => ∃ i : Addr × Addr, spPick i.1 i.2 vs H Q E) := FnOk.ex fun i => ok_pick d_law_pick d_law_below B
  have G_law_log : FnOk P w K mg base CX0 5 d_law_log.f d_law_log.fd P_law_log (fun vs H Q E => ∃ i : Addr × Addr, spLog i.1 i.2 vs H Q E) := FnOk.ex fun i => ok_log d_law_log d_law_below d_law_pick d_law_lot d_law_chance d_law_name d_law_names d_law_record B
  have G_law_needs : FnOk P w K mg base CX0 1 d_law_needs.f d_law_needs.fd P_law_needs spNeeds := ok_needs d_law_needs B
  have G_law_made : FnOk P w K mg base CX0 7 d_law_made.f d_law_made.fd P_law_made (fun vs H Q E => ∃ i : Addr × Addr, spMade i.1 i.2 C vs H Q E) := FnOk.ex fun i => ok_made d_law_made d_law_below d_law_mixed d_law_loose cLog dinit dstanding mkLog drecord_of dlot_among dnames_of dis_name B
  have G_law_nrow : FnOk P w K mg base CX0 3 d_law_nrow.f d_law_nrow.fd P_law_nrow (fun vs H Q E => ∃ i : Addr × Addr, spNrow i.1 i.2 vs H Q E) := FnOk.ex fun i => ok_nrow d_law_nrow d_law_below d_law_pick d_law_chance B
  have G_law_nline : FnOk P w K mg base CX0 1 d_law_nline.f d_law_nline.fd P_law_nline spNline := ok_nline d_law_nline B
  have G_law_same : FnOk P w K mg base CX0 4 d_law_same.f d_law_same.fd P_law_same (spSame 4) := ok_same d_law_same B 4
  have G_law_copied : FnOk P w K mg base CX0 4 d_law_copied.f d_law_copied.fd P_law_copied (spCopied 4) := ok_copied d_law_copied B 4
  have G_law_loose : FnOk P w K mg base CX0 5 d_law_loose.f d_law_loose.fd P_law_loose (fun vs H Q E => ∃ i : Addr × Addr, spLoose i.1 i.2 4 vs H Q E) := FnOk.ex fun i => ok_loose d_law_loose d_law_below B 4
  have G_law_nbent : FnOk P w K mg base CX0 3 d_law_nbent.f d_law_nbent.fd P_law_nbent (fun vs H Q E => ∃ i : Addr × Addr, spNbent i.1 i.2 vs H Q E) := FnOk.ex fun i => ok_nbent d_law_nbent d_law_below d_law_pick B
  have G_law_nfault : FnOk P w K mg base CX0 2 d_law_nfault.f d_law_nfault.fd P_law_nfault spNfault := ok_nfault d_law_nfault d_law_nfits B
  have G_law_nrow_in : FnOk P w K mg base CX0 1 d_law_nrow_in.f d_law_nrow_in.fd P_law_nrow_in spNrowIn := ok_nrowin d_law_nrow_in B
  have G_law_apart : FnOk P w K mg base CX0 10 d_law_apart.f d_law_apart.fd P_law_apart spApart := ok_apart d_law_apart d_law_spoilt d_law_is_once B
  have Grows_fault : FnOk P w K mg base CX0 4 drows_fault.f drows_fault.fd Prows_fault (spRowsFault C) := ok_rowsfault cLog iLog drows_fault dneed_log dlines_in drow_in dwords_in dnumber_in drow_of dis_between B
  have Xread_rows : FnOk P w K mg base (L2.CX P w) 5 dread_rows.f dread_rows.fd Pread_rows (spReadRows C eBadText.C) := ok_readrows cLog iLog eBadText dread_rows drows_fault dneed_log dlines_in drow_in dwords_in dnumber_in drow_of dis_between B
  have Xrows_text : FnOk P w K mg base (L2.CX P w) 5 drows_text.f drows_text.fd Prows_text (fun vs H Q E => spRowsText C eBadRows.C vs H Q E ∨ spRowsTextD C eBadRows.C vs H Q E) :=
    Lr.FnOk.or (ok_rowstext cLog iLog eBadRows drows_text dneed_log drow_line drow_of dis_between B) (ok_rowstextD cLog iLog eBadRows drows_text dneed_log drow_line drow_of dis_between B)
  have Gread_rows := Lr.FnOk.quiet Xread_rows
  have Grows_text := Lr.FnOk.quiet Xrows_text
  refine PS.by_ ⟨_, (ps_set (i := 15) sclaw.nd rfl (by first | exact Or.inl rfl | exact Or.inr rfl) (pe_lst (pa_cons pe_non (pa_cons (pe_tup (pa_cons (pv 14) (pa_cons (pv 13) pa_nil))) (pa_cons (pe_tup (pa_cons (pe_op op_add (pv 14) pe_int) (pa_cons (pv 13) (pa_cons pe_non pa_nil)))) (pa_cons (pe_tup (pa_cons pe_int (pa_cons (pv 13) (pa_cons pe_non pa_nil)))) (pa_cons (pe_tup (pa_cons pe_bl (pa_cons (pv 13) (pa_cons pe_non pa_nil)))) (pa_cons (pe_tup (pa_cons (pv 14) (pa_cons pe_str (pa_cons pe_non pa_nil)))) pa_nil)))))))), ?_⟩
  rintro D σ H ⟨sc, a, b, n, L, vl, vn, p, D1, pb, rs, at_, pg, v2, v6, v7, v8, v9, v10, v11, v15, v16, v17, v19, v20, v21, v22, rfl, E1, drs1, ok, pgv, pg0, k⟩
  walk_at "v"
  refine ⟨show 2 ≤ sizeLine by decide, fun t1 ht1 => ?_⟩
  walk_at "v"
  refine ⟨show 3 ≤ sizeLine by decide, fun t2 ht2 => ?_⟩
  walk_at "v"
  refine ⟨show 3 ≤ sizeLine by decide, fun t3 ht3 => ?_⟩
  walk_at "v"
  refine ⟨show 3 ≤ sizeLine by decide, fun t4 ht4 => ?_⟩
  walk_at "v"
  refine ⟨show 3 ≤ sizeLine by decide, fun t5 ht5 => ?_⟩
  walk_at "v"
  refine ⟨show 6 ≤ sizeLine by decide, fun pl hpl => ?_⟩
  have s1 := (Same.refl H).new (o := .tup [.int ((L.rows.length : Int) + 1), .str pg]) ht1
  have s2 := s1.new (o := .tup [.int ((L.rows.length : Int) + 1 + 1), .str pg, .non]) ht2
  have s3 := s2.new (o := .tup [.int 0, .str pg, .non]) ht3
  have s4 := s3.new (o := .tup [.bl true, .str pg, .non]) ht4
  have s5 := s4.new (o := .tup [.int ((L.rows.length : Int) + 1), .str ("zz99zz99z" : Str), .non]) ht5
  have s6 := s5.new (o := .lst [.non, .ref t1, .ref t2, .ref t3, .ref t4, .ref t5]) hpl
  have nm : ∀ {H' : Hp} {t : Addr}, Same H H' → H' t = none → t ∉ [a, b] := fun s h => E1.st.nm ((Keep.of_same (S := []) s).free h)
  refine k pl _ (E1.same s6) (drs1.same s6) (dt_list upd_same ?_ (nm s5 hpl))
  refine DtAll.cons dt_n (DtAll.cons (dt_tup (h_new (h_new (h_new (h_new (h_new upd_same ht2) ht3) ht4) ht5) hpl) ?_ (nm (Same.refl _) ht1)) (DtAll.cons (dt_tup (h_new (h_new (h_new (h_new upd_same ht3) ht4) ht5) hpl) ?_ (nm s1 ht2))
    (DtAll.cons (dt_tup (h_new (h_new (h_new upd_same ht4) ht5) hpl) ?_ (nm s2 ht3)) (DtAll.cons (dt_tup (h_new (h_new upd_same ht5) hpl) ?_ (nm s3 ht4)) (DtAll.cons (dt_tup (h_new upd_same hpl) ?_ (nm s4 ht5)) DtAll.nil)))))
  · exact DtAll.cons dt_i (DtAll.cons dt_s DtAll.nil)
  · exact DtAll.cons dt_i (DtAll.cons dt_s (DtAll.cons dt_n DtAll.nil))
  · exact DtAll.cons dt_i (DtAll.cons dt_s (DtAll.cons dt_n DtAll.nil))
  · exact DtAll.cons dt_b (DtAll.cons dt_s (DtAll.cons dt_n DtAll.nil))
  · exact DtAll.cons dt_i (DtAll.cons dt_s (DtAll.cons dt_n DtAll.nil))
end Lr
set_option Elab.async false
set_option linter.all false
set_option maxRecDepth 100000
set_option maxHeartbeats 16000000
namespace Lr
open PySem PySem.Spec PyProof.Rows L2 TL
open C8 (InsC call_isC)
open LamX (GivesAt CodeO Tabs TabS TabB ExtN)
local macro_rules | `(tactic| walk_at "ne") => `(tactic| (first | assumption | (refine ne_sym ?_; assumption) | (exact ne_of_none (by assumption) (by assumption)) | (exact ne_sym (ne_of_none (by assumption) (by assumption)))))
local macro_rules | `(tactic| walk_at "h") => `(tactic| (first | assumption | exact upd_same | (refine h_new ?_ (by assumption); walk_at "h") | (refine h_ne (by walk_at "ne") ?_; walk_at "h")))
local macro_rules | `(tactic| walk_at "v1") => `(tactic| (with_reducible first
  | refine i_seq ?_ | refine i_asg ?_ | refine i_ret ?_ | refine i_next ?_ | refine i_drop ?_ | refine i_ifS ?_ | refine i_if ?_ | refine i_and ?_ | refine i_or ?_ | refine i_not ?_ | refine i_test ?_ | refine i_tB ?_ | refine i_bl ?_ | refine i_yes ?_
  | refine i_op ?_ | refine i_un ?_ | refine i_chain ?_ | refine i_andV ?_ | refine i_orV ?_ | refine i_notV ?_ | refine i_cb ?_ | refine i_cons ?_ | refine i_nil ?_ | refine i_bm ?_ | refine i_bm0 ?_ | refine i_c ?_ | refine i_name ?_ | refine i_sub ?_
  | refine i_call ?_ | refine i_lst ?_ | refine i_tup ?_ | refine i_par ?_ | refine i_par2 ?_ | refine i_sl ?_ | refine i_np ?_ | refine i_pt ?_ | refine i_int ?_ | refine i_m0 ?_ | refine i_m1 ?_ | refine i_isS ?_
  | refine i_rI0 ?_ | refine i_inSign ?_ | refine i_notInSign ?_ | refine i_int1 ?_ | refine i_tru ?_ | refine i_isN ?_ | refine i_notN ?_ | refine iteT ?_ | refine iteF ?_ | refine i_brk ?_ | refine i_rt ?_ | refine i_nx ?_ | refine i_bk ?_ | refine i_ct ?_ | refine i_for ?_ | refine i_lc ?_ | refine i_dc ?_ | refine i_iL ?_ | refine i_iT ?_ | refine i_iR1 ?_ | refine i_iR2 ?_ | refine i_iS ?_ | refine i_iE ?_ | refine i_iEK ?_ | refine i_iEQ ?_ | refine i_dget ?_ | refine i_fld ?_ | refine i_sfld ?_ | refine i_dput ?_ | refine i_meth ?_ | refine i_rU ?_ | refine i_cont ?_ | refine i_make ?_))
local macro_rules | `(tactic| walk_at "v2") => `(tactic| (first
  | ((with_reducible refine' i_var ?k1 ?_); (case k1 => exact rfl))
  | ((with_reducible refine' i_eq ?k1 ?_); (case k1 => exact rfl))
  | ((with_reducible refine' i_ne ?k1 ?_); (case k1 => exact rfl))
  | ((with_reducible refine' i_ixL ?k1 ?k2 ?_); (case k1 => walk_at "h"); (case k2 => exact rfl))
  | ((with_reducible refine' i_ixT ?k1 ?k2 ?_); (case k1 => walk_at "h"); (case k2 => exact rfl))
  | ((with_reducible refine' i_lenL ?k1 ?_); (case k1 => walk_at "h"))
  | ((with_reducible refine' i_lenT ?k1 ?_); (case k1 => walk_at "h"))
  | (refine i_wipe (show wipe _ _ = wipe _ _ from rfl) ?_)
  | ((with_reducible refine' i_setL ?k1 ?k2 ?_); (case k1 => walk_at "h"); (case k2 => exact rfl))
  | ((with_reducible refine' i_tyl ?k1 ?_); (case k1 => walk_at "h"))))
local macro_rules | `(tactic| walk_at "v") => `(tactic| repeat (first | walk_at "v1" | walk_at "v2"))

variable {P : Program} {w : World} {K :
      PySem.W.Frag} {mg : Str → Option Value} {base : Heap}
theorem DtAll.snoc_inv {S : List Addr} {H : Hp} {d : PyData} : ∀ {ds : List PyData} {xs : List V}, DtAll S H (ds ++ [d]) xs → ∃ ys y, xs = ys ++ [y] ∧ Dt S H d y
  | [], _, h => by
    obtain ⟨x, r, rfl, h1, h2⟩ := DtAll.cons_iff.mp h
    obtain rfl := DtAll.nil_iff.mp h2
    exact ⟨[], x, rfl, h1⟩
  | e :: ds, _, h => by
    obtain ⟨x, r, rfl, h1, h2⟩ := DtAll.cons_iff.mp h
    obtain ⟨ys, y, rfl, h3⟩ := DtAll.snoc_inv h2
    exact ⟨x :: ys, y, rfl, h3⟩
def tbads2_ok (C PT : Addr) : TS := fun D σ H => ∃ (sc a b : Addr) (n : Nat) (L : LG) (vl vn : V) (p D1 pb : Addr) (rs : List Rw) (at_ : Nat) (pg : Str) (v2 v6 v7 v8 v9 v10 v11 v15 v16 v17 v19 v20 v21 v22 : Option V), σ = [some (.ref sc), some (.ref a), v2, some vl, some vn, some (.ref D1), v6, v7, v8, v9, v10, v11, some (.int at_), some (.str pg), some (.int ((L.rows.length : Int) + 1)), some (.ref pb), v16, v17, some (.ref p), v19, v20, v21, v22] ∧
  Env1 a b C PT n L vl vn p H ∧ Dt [a, b] H (.list (rs.map rwD)) (.ref D1) ∧ Dt [a, b] H (.list ((badD L.rows.length pg (ver L.rows pg)).take 6)) (.ref pb) ∧ L.Ok ∧ (pg, ver L.rows pg) ∈ standing L.rows L.pages ∧ L.pages[0]? = some pg ∧ ∀ pb H', Env1 a b C PT n L vl vn p H' → Dt [a, b] H' (.list (rs.map rwD)) (.ref D1) → Dt [a, b] H' (.list (badD L.rows.length pg (ver L.rows pg))) (.ref pb) → D.nx [some (.ref sc), some (.ref a), v2, some vl, some vn, some (.ref D1), v6, v7, v8, v9, v10, v11, some (.int at_), some (.str pg), some (.int ((L.rows.length : Int) + 1)), some (.ref pb), v16, v17, some (.ref p), v19, v20, v21, v22] H'
theorem bads2_ok {C c PT f : Addr} (D : Defs K mg C) (B : Blt mg) (TB : TabB base mg c PT) {A : Around} {outer : List Env} {s : Shared} {H : Hp} {E : XK} (hr : Room 10 (A.deeper (envOfC "law" (defScope slaw) s.heap.objs.size f (.ref c)))) :
    PS (cxOf CX0 P w K mg base Nlaw "law" (defScope slaw) f (.ref c) A outer s H E).nox (lawS 14) (tbads2_ok C PT) := by
  obtain ⟨d_law_start, d_law_below, d_law_chance, d_law_pick, d_law_mixed, d_law_lot, d_law_name, d_law_names, d_law_record, d_law_log, d_law_same, d_law_copied, d_law_loose, d_law_spoilt, d_law_is_once, d_law_apart, d_law_made, d_law_needs, d_law_nline, d_law_nrow_in, d_law_nrow, d_law_nfits, d_law_nfault, d_law_nbent, d_law_nindex,
    dis_between, dis_name, dnames_of, dlot_among, dnumber_in, dwords_in, dlines_in, drecord_of, dneed_log, drow_of, drow_line, drows_text, drow_in, drows_fault, dread_rows, dinit, dstanding, cLog, iLog, mkLog, eBadRows, eBadText, exm⟩ := D
  obtain ⟨ocN, odN, kVN, docN, pmN, anN, cdvN, ctN, oslN, efd, lkN, hcN⟩ := d_law_nindex.F.ex
  have bN := d_law_nindex.b
  rw [efd] at bN lkN
  have G_law_start : FnOk P w K mg base CX0 1 d_law_start.f d_law_start.fd P_law_start (spStart (K := K)) := ok_start d_law_start B
  have G_law_below : FnOk P w K mg base CX0 1 d_law_below.f d_law_below.fd P_law_below (fun vs H Q E => ∃ i : Addr × Addr, spBelow i.1 i.2 vs H Q E) := FnOk.ex fun i => ok_below d_law_below B
  have G_law_pick : FnOk P w K mg base CX0 2 d_law_pick.f d_law_pick.fd P_law_pick (fun vs H Q E => ∃ i : Addr × Addr, spPick i.1 i.2 vs H Q E) := FnOk.ex fun i => ok_pick d_law_pick d_law_below B
  have G_law_log : FnOk P w K mg base CX0 5 d_law_log.f d_law_log.fd P_law_log (fun vs H Q E => ∃ i : Addr × Addr, spLog i.1 i.2 vs H Q E) := FnOk.ex fun i => ok_log d_law_log d_law_below d_law_pick d_law_lot d_law_chance d_law_name d_law_names d_law_record B
  have G_law_needs : FnOk P w K mg base CX0 1 d_law_needs.f d_law_needs.fd P_law_needs spNeeds := ok_needs d_law_needs B
  have G_law_made : FnOk P w K mg base CX0 7 d_law_made.f d_law_made.fd P_law_made (fun vs H Q E => ∃ i : Addr × Addr, spMade i.1 i.2 C vs H Q E) := FnOk.ex fun i => ok_made d_law_made d_law_below d_law_mixed d_law_loose cLog dinit dstanding mkLog drecord_of dlot_among dnames_of dis_name B
  have G_law_nrow : FnOk P w K mg base CX0 3 d_law_nrow.f d_law_nrow.fd P_law_nrow (fun vs H Q E => ∃ i : Addr × Addr, spNrow i.1 i.2 vs H Q E) := FnOk.ex fun i => ok_nrow d_law_nrow d_law_below d_law_pick d_law_chance B
  have G_law_nline : FnOk P w K mg base CX0 1 d_law_nline.f d_law_nline.fd P_law_nline spNline := ok_nline d_law_nline B
  have G_law_same : FnOk P w K mg base CX0 4 d_law_same.f d_law_same.fd P_law_same (spSame 4) := ok_same d_law_same B 4
  have G_law_copied : FnOk P w K mg base CX0 4 d_law_copied.f d_law_copied.fd P_law_copied (spCopied 4) := ok_copied d_law_copied B 4
  have G_law_loose : FnOk P w K mg base CX0 5 d_law_loose.f d_law_loose.fd P_law_loose (fun vs H Q E => ∃ i : Addr × Addr, spLoose i.1 i.2 4 vs H Q E) := FnOk.ex fun i => ok_loose d_law_loose d_law_below B 4
  have G_law_nbent : FnOk P w K mg base CX0 3 d_law_nbent.f d_law_nbent.fd P_law_nbent (fun vs H Q E => ∃ i : Addr × Addr, spNbent i.1 i.2 vs H Q E) := FnOk.ex fun i => ok_nbent d_law_nbent d_law_below d_law_pick B
  have G_law_nfault : FnOk P w K mg base CX0 2 d_law_nfault.f d_law_nfault.fd P_law_nfault spNfault := ok_nfault d_law_nfault d_law_nfits B
  have G_law_nrow_in : FnOk P w K mg base CX0 1 d_law_nrow_in.f d_law_nrow_in.fd P_law_nrow_in spNrowIn := ok_nrowin d_law_nrow_in B
  have G_law_apart : FnOk P w K mg base CX0 10 d_law_apart.f d_law_apart.fd P_law_apart spApart := ok_apart d_law_apart d_law_spoilt d_law_is_once B
  have Grows_fault : FnOk P w K mg base CX0 4 drows_fault.f drows_fault.fd Prows_fault (spRowsFault C) := ok_rowsfault cLog iLog drows_fault dneed_log dlines_in drow_in dwords_in dnumber_in drow_of dis_between B
  have Xread_rows : FnOk P w K mg base (L2.CX P w) 5 dread_rows.f dread_rows.fd Pread_rows (spReadRows C eBadText.C) := ok_readrows cLog iLog eBadText dread_rows drows_fault dneed_log dlines_in drow_in dwords_in dnumber_in drow_of dis_between B
  have Xrows_text : FnOk P w K mg base (L2.CX P w) 5 drows_text.f drows_text.fd Prows_text (fun vs H Q E => spRowsText C eBadRows.C vs H Q E ∨ spRowsTextD C eBadRows.C vs H Q E) :=
    Lr.FnOk.or (ok_rowstext cLog iLog eBadRows drows_text dneed_log drow_line drow_of dis_between B) (ok_rowstextD cLog iLog eBadRows drows_text dneed_log drow_line drow_of dis_between B)
  have Gread_rows := Lr.FnOk.quiet Xread_rows
  have Grows_text := Lr.FnOk.quiet Xrows_text
  refine PS.by_ ⟨_, (ps_set (i := 15) sclaw.nd rfl (by first | exact Or.inl rfl | exact Or.inr rfl) (pe_op op_cat (pv 15) (pe_lst (pa_cons (pe_tup (pa_cons (pv 14) (pa_cons (pv 13) (pa_cons pe_int pa_nil)))) (pa_cons (pe_tup (pa_cons (pv 14) (pa_cons (pv 13) (pa_cons (pe_ix (x_tup K) (pe_ix (x_list K) (pe_ix (x_list K) (pv 4) (pe_un un_neg pe_int) (fun _ _ => rfl)) pe_int (fun _ _ => rfl)) pe_int (fun _ _ => rfl)) pa_nil)))) (pa_cons (pe_tup (pa_cons (pv 14) (pa_cons (pv 13) (pa_cons pe_bl pa_nil)))) (pa_cons (pe_tup (pa_cons (pv 14) (pa_cons (pv 13) (pa_cons pe_str pa_nil)))) (pa_cons (pe_tup (pa_cons pe_str (pa_cons (pv 13) (pa_cons pe_non pa_nil)))) pa_nil)))))))), ?_⟩
  rintro D σ H ⟨sc, a, b, n, L, vl, vn, p, D1, pb, rs, at_, pg, v2, v6, v7, v8, v9, v10, v11, v15, v16, v17, v19, v20, v21, v22, rfl, E1, drs1, dbad, ok, pgv, pg0, k⟩
  walk_at "v"
  obtain ⟨xb, hpb, dxb, npb⟩ : ∃ xb, H pb = some (.lst xb) ∧ DtAll [a, b] H ((badD L.rows.length pg (ver L.rows pg)).take 6) xb ∧ pb ∉ [a, b] := by
    unfold Dt at dbad
    obtain ⟨a', xs, e, n, h1, h2⟩ := dbad
    cases e
    exact ⟨xs, h1, h2, n⟩
  have lxb : xb.length = 6 := by rw [dxb.length]; rfl
  obtain ⟨pn, xn, yn, pz, yz, rfl, hpn, hyn, hpz⟩ : ∃ (pn : Addr) (xn : List V) (yn : Addr) (pz : Addr) (yz : List V), vn = .ref pn ∧ H pn = some (.lst (xn ++ [.ref yn])) ∧ H yn = some (.lst (.ref pz :: yz)) ∧ H pz = some (.tup [.str pg, .int (ver L.rows pg)]) := by
    have z := E1.dn
    unfold needsL needs at z
    rw [List.map_append, List.map_cons, List.map_nil] at z
    obtain ⟨pn, xs, rfl, _, hpn, dxs⟩ := (by unfold Dt at z; exact z)
    obtain ⟨xn, yn, rfl, dyn⟩ := DtAll.snoc_inv dxs
    unfold needL Dt at dyn
    obtain ⟨yn, ys, rfl, _, hyn, dys⟩ := dyn
    obtain ⟨rest, er⟩ : ∃ rest, L.pages = pg :: rest := by
      cases e : L.pages with
      | nil => rw [e] at pg0; cases pg0
      | cons y r => rw [e] at pg0; cases pg0; exact ⟨r, rfl⟩
    rw [er] at dys
    obtain ⟨y1, yz, rfl, d1, _⟩ := DtAll.cons_iff.mp dys
    unfold pairD Dt at d1
    obtain ⟨pz, zs, rfl, _, hpz, dz⟩ := d1
    obtain ⟨u1, r1, rfl, e1, z1⟩ := DtAll.cons_iff.mp dz
    obtain ⟨u2, r2, rfl, e2, z2⟩ := DtAll.cons_iff.mp z1
    obtain rfl := DtAll.nil_iff.mp z2
    unfold Dt at e1 e2
    subst e1 e2
    exact ⟨pn, xn, yn, pz, yz, rfl, hpn, hyn, hpz⟩
  refine ⟨show 3 ≤ sizeLine by decide, fun t6 ht6 => ?_⟩
  walk_at "v"
  refine i_ixL (h_new hpn ht6) (atI_last _ _) ?_
  walk_at "v"
  refine i_ixL (h_new hyn ht6) (atI_nat (j := 0) rfl) ?_
  walk_at "v"
  refine ⟨show 3 ≤ sizeLine by decide, fun t7 ht7 => ?_⟩
  walk_at "v"
  refine ⟨show 3 ≤ sizeLine by decide, fun t8 ht8 => ?_⟩
  walk_at "v"
  refine ⟨show 3 ≤ sizeLine by decide, fun t9 ht9 => ?_⟩
  walk_at "v"
  refine ⟨show 3 ≤ sizeLine by decide, fun t10 ht10 => ?_⟩
  walk_at "v"
  refine ⟨show 5 ≤ sizeLine by decide, fun pl hpl => ?_⟩
  have s1 := (Same.refl H).new (o := .tup [.int ((L.rows.length : Int) + 1), .str pg, .int 0]) ht6
  have s2 := s1.new (o := .tup [.int ((L.rows.length : Int) + 1), .str pg, .int (ver L.rows pg)]) ht7
  have s3 := s2.new (o := .tup [.int ((L.rows.length : Int) + 1), .str pg, .bl true]) ht8
  have s4 := s3.new (o := .tup [.int ((L.rows.length : Int) + 1), .str pg, .str ("1" : Str)]) ht9
  have s5 := s4.new (o := .tup [.str ("end" : Str), .str pg, .non]) ht10
  have s6 := s5.new (o := .lst [.ref t6, .ref t7, .ref t8, .ref t9, .ref t10]) hpl
  have nm : ∀ {H' : Hp} {t : Addr}, Same H H' → H' t = none → t ∉ [a, b] := fun s h => E1.st.nm ((Keep.of_same (S := []) s).free h)
  refine ⟨pb, pl, xb, _, rfl, rfl, s6 _ _ hpb, upd_same, Nat.le_trans (by simp [lxb]) (show 20 ≤ sizeLine by decide), fun pq hpq => ?_⟩
  have s7 := s6.new (o := .lst (xb ++ [.ref t6, .ref t7, .ref t8, .ref t9, .ref t10])) hpq
  refine k pq _ (E1.same s7) (drs1.same s7) ?_
  show Dt [a, b] _ (.list ((badD L.rows.length pg (ver L.rows pg)).take 6 ++ (badD L.rows.length pg (ver L.rows pg)).drop 6)) _
  refine dt_list upd_same (DtAll.append (DtAll.keep (Keep.of_same s7) _ _ dxb) ?_) (nm s6 hpq)
  refine DtAll.cons (dt_tup (h_new (h_new (h_new (h_new (h_new (h_new upd_same ht7) ht8) ht9) ht10) hpl) hpq) ?_ (nm (Same.refl _) ht6)) (DtAll.cons (dt_tup (h_new (h_new (h_new (h_new (h_new upd_same ht8) ht9) ht10) hpl) hpq) ?_ (nm s1 ht7))
    (DtAll.cons (dt_tup (h_new (h_new (h_new (h_new upd_same ht9) ht10) hpl) hpq) ?_ (nm s2 ht8)) (DtAll.cons (dt_tup (h_new (h_new (h_new upd_same ht10) hpl) hpq) ?_ (nm s3 ht9)) (DtAll.cons (dt_tup (h_new (h_new upd_same hpl) hpq) ?_ (nm s4 ht10)) DtAll.nil))))
  · exact DtAll.cons dt_i (DtAll.cons dt_s (DtAll.cons dt_i DtAll.nil))
  · exact DtAll.cons dt_i (DtAll.cons dt_s (DtAll.cons dt_i DtAll.nil))
  · exact DtAll.cons dt_i (DtAll.cons dt_s (DtAll.cons dt_b DtAll.nil))
  · exact DtAll.cons dt_i (DtAll.cons dt_s (DtAll.cons dt_s DtAll.nil))
  · exact DtAll.cons dt_s (DtAll.cons dt_s (DtAll.cons dt_n DtAll.nil))
end Lr
set_option Elab.async false
set_option linter.all false
set_option maxRecDepth 100000
set_option maxHeartbeats 16000000
namespace Lr
open PySem PySem.Spec PyProof.Rows L2 TL
open C8 (InsC call_isC)
open LamX (GivesAt CodeO Tabs TabS TabB ExtN)
local macro_rules | `(tactic| walk_at "ne") => `(tactic| (first | assumption | (refine ne_sym ?_; assumption) | (exact ne_of_none (by assumption) (by assumption)) | (exact ne_sym (ne_of_none (by assumption) (by assumption)))))
local macro_rules | `(tactic| walk_at "h") => `(tactic| (first | assumption | exact upd_same | (refine h_new ?_ (by assumption); walk_at "h") | (refine h_ne (by walk_at "ne") ?_; walk_at "h")))
local macro_rules | `(tactic| walk_at "v1") => `(tactic| (with_reducible first
  | refine i_seq ?_ | refine i_asg ?_ | refine i_ret ?_ | refine i_next ?_ | refine i_drop ?_ | refine i_ifS ?_ | refine i_if ?_ | refine i_and ?_ | refine i_or ?_ | refine i_not ?_ | refine i_test ?_ | refine i_tB ?_ | refine i_bl ?_ | refine i_yes ?_
  | refine i_op ?_ | refine i_un ?_ | refine i_chain ?_ | refine i_andV ?_ | refine i_orV ?_ | refine i_notV ?_ | refine i_cb ?_ | refine i_cons ?_ | refine i_nil ?_ | refine i_bm ?_ | refine i_bm0 ?_ | refine i_c ?_ | refine i_name ?_ | refine i_sub ?_
  | refine i_call ?_ | refine i_lst ?_ | refine i_tup ?_ | refine i_par ?_ | refine i_par2 ?_ | refine i_sl ?_ | refine i_np ?_ | refine i_pt ?_ | refine i_int ?_ | refine i_m0 ?_ | refine i_m1 ?_ | refine i_isS ?_
  | refine i_rI0 ?_ | refine i_inSign ?_ | refine i_notInSign ?_ | refine i_int1 ?_ | refine i_tru ?_ | refine i_isN ?_ | refine i_notN ?_ | refine iteT ?_ | refine iteF ?_ | refine i_brk ?_ | refine i_rt ?_ | refine i_nx ?_ | refine i_bk ?_ | refine i_ct ?_ | refine i_for ?_ | refine i_lc ?_ | refine i_dc ?_ | refine i_iL ?_ | refine i_iT ?_ | refine i_iR1 ?_ | refine i_iR2 ?_ | refine i_iS ?_ | refine i_iE ?_ | refine i_iEK ?_ | refine i_iEQ ?_ | refine i_dget ?_ | refine i_fld ?_ | refine i_sfld ?_ | refine i_dput ?_ | refine i_meth ?_ | refine i_rU ?_ | refine i_cont ?_ | refine i_make ?_))
local macro_rules | `(tactic| walk_at "v2") => `(tactic| (first
  | ((with_reducible refine' i_var ?k1 ?_); (case k1 => exact rfl))
  | ((with_reducible refine' i_eq ?k1 ?_); (case k1 => exact rfl))
  | ((with_reducible refine' i_ne ?k1 ?_); (case k1 => exact rfl))
  | ((with_reducible refine' i_ixL ?k1 ?k2 ?_); (case k1 => walk_at "h"); (case k2 => exact rfl))
  | ((with_reducible refine' i_ixT ?k1 ?k2 ?_); (case k1 => walk_at "h"); (case k2 => exact rfl))
  | ((with_reducible refine' i_lenL ?k1 ?_); (case k1 => walk_at "h"))
  | ((with_reducible refine' i_lenT ?k1 ?_); (case k1 => walk_at "h"))
  | (refine i_wipe (show wipe _ _ = wipe _ _ from rfl) ?_)
  | ((with_reducible refine' i_setL ?k1 ?k2 ?_); (case k1 => walk_at "h"); (case k2 => exact rfl))
  | ((with_reducible refine' i_tyl ?k1 ?_); (case k1 => walk_at "h"))))
local macro_rules | `(tactic| walk_at "v") => `(tactic| repeat (first | walk_at "v1" | walk_at "v2"))

variable {P : Program} {w : World} {K :
      PySem.W.Frag} {mg : Str → Option Value} {base : Heap}
theorem log_parts {S : List Addr} {L : LG} {H : Hp} {vl : V} (ok : L.Ok) (h : Dt S H (logD L) vl) : ∃ (pl pp : Addr) (pg : Str) (yl : List V) (pr : Addr) (xrr : List V), vl = .ref pl ∧ H pl = some (.lst [.ref pp, .ref pr]) ∧ H pp = some (.lst (.str pg :: yl)) ∧ H pr = some (.lst xrr) ∧ xrr.length = L.rows.length ∧ L.pages[0]? = some pg := by
  unfold logD Dt at h
  obtain ⟨pl, xs, rfl, _, hpl, dxs⟩ := h
  obtain ⟨x1, r1, rfl, d1, z1⟩ := DtAll.cons_iff.mp dxs
  obtain ⟨x2, r2, rfl, d2, z2⟩ := DtAll.cons_iff.mp z1
  obtain rfl := DtAll.nil_iff.mp z2
  unfold Dt at d1 d2
  obtain ⟨pp, xp, rfl, _, hpp, dp⟩ := d1
  obtain ⟨pr, xr, rfl, _, hpr, dr⟩ := d2
  have e := DtAll.of_strs dp
  cases eP : L.pages with
  | nil => have := ok.pos; rw [eP] at this; simp at this
  | cons pg rest =>
    rw [eP] at e
    subst e
    exact ⟨pl, pp, pg, _, pr, xr, rfl, hpl, hpp, hpr, by rw [dr.length]; simp, rfl⟩
theorem ok_law {C c PT f : Addr} {oc kV doc pm ct : Value} {od an : Option Addr} {osl : Array (Option Value)} (lk : K.lookup f = some ⟨oc, od, .func (PySem.W.fnOf "law" "law" (defArgs slaw) (defBody slaw) (defScope slaw) .none kV doc pm an (.ref c) ct), osl⟩) (hcd : PySem.W.codeIn K (.ref c) "law" = true)
    (D : Defs K mg C) (B : Blt mg) (TB : TabB base mg c PT) : FnOk P w K mg base CX0 11 f (PySem.W.fnOf "law" "law" (defArgs slaw) (defBody slaw) (defScope slaw) .none kV doc pm an (.ref c) ct) Plaw (spLaw (K := K) PT) := by
  have D' := D
  obtain ⟨d_law_start, d_law_below, d_law_chance, d_law_pick, d_law_mixed, d_law_lot, d_law_name, d_law_names, d_law_record, d_law_log, d_law_same, d_law_copied, d_law_loose, d_law_spoilt, d_law_is_once, d_law_apart, d_law_made, d_law_needs, d_law_nline, d_law_nrow_in, d_law_nrow, d_law_nfits, d_law_nfault, d_law_nbent, d_law_nindex,
    dis_between, dis_name, dnames_of, dlot_among, dnumber_in, dwords_in, dlines_in, drecord_of, dneed_log, drow_of, drow_line, drows_text, drow_in, drows_fault, dread_rows, dinit, dstanding, cLog, iLog, mkLog, eBadRows, eBadText, exm⟩ := D
  obtain ⟨ocN, odN, kVN, docN, pmN, anN, cdvN, ctN, oslN, efd, lkN, hcN⟩ := d_law_nindex.F.ex
  have bN := d_law_nindex.b
  rw [efd] at bN lkN
  have G_law_start : FnOk P w K mg base CX0 1 d_law_start.f d_law_start.fd P_law_start (spStart (K := K)) := ok_start d_law_start B
  have G_law_below : FnOk P w K mg base CX0 1 d_law_below.f d_law_below.fd P_law_below (fun vs H Q E => ∃ i : Addr × Addr, spBelow i.1 i.2 vs H Q E) := FnOk.ex fun i => ok_below d_law_below B
  have G_law_pick : FnOk P w K mg base CX0 2 d_law_pick.f d_law_pick.fd P_law_pick (fun vs H Q E => ∃ i : Addr × Addr, spPick i.1 i.2 vs H Q E) := FnOk.ex fun i => ok_pick d_law_pick d_law_below B
  have G_law_log : FnOk P w K mg base CX0 5 d_law_log.f d_law_log.fd P_law_log (fun vs H Q E => ∃ i : Addr × Addr, spLog i.1 i.2 vs H Q E) := FnOk.ex fun i => ok_log d_law_log d_law_below d_law_pick d_law_lot d_law_chance d_law_name d_law_names d_law_record B
  have G_law_needs : FnOk P w K mg base CX0 1 d_law_needs.f d_law_needs.fd P_law_needs spNeeds := ok_needs d_law_needs B
  have G_law_made : FnOk P w K mg base CX0 7 d_law_made.f d_law_made.fd P_law_made (fun vs H Q E => ∃ i : Addr × Addr, spMade i.1 i.2 C vs H Q E) := FnOk.ex fun i => ok_made d_law_made d_law_below d_law_mixed d_law_loose cLog dinit dstanding mkLog drecord_of dlot_among dnames_of dis_name B
  have G_law_nrow : FnOk P w K mg base CX0 3 d_law_nrow.f d_law_nrow.fd P_law_nrow (fun vs H Q E => ∃ i : Addr × Addr, spNrow i.1 i.2 vs H Q E) := FnOk.ex fun i => ok_nrow d_law_nrow d_law_below d_law_pick d_law_chance B
  have G_law_nline : FnOk P w K mg base CX0 1 d_law_nline.f d_law_nline.fd P_law_nline spNline := ok_nline d_law_nline B
  have G_law_same : FnOk P w K mg base CX0 4 d_law_same.f d_law_same.fd P_law_same (spSame 4) := ok_same d_law_same B 4
  have G_law_copied : FnOk P w K mg base CX0 4 d_law_copied.f d_law_copied.fd P_law_copied (spCopied 4) := ok_copied d_law_copied B 4
  have G_law_loose : FnOk P w K mg base CX0 5 d_law_loose.f d_law_loose.fd P_law_loose (fun vs H Q E => ∃ i : Addr × Addr, spLoose i.1 i.2 4 vs H Q E) := FnOk.ex fun i => ok_loose d_law_loose d_law_below B 4
  have G_law_nbent : FnOk P w K mg base CX0 3 d_law_nbent.f d_law_nbent.fd P_law_nbent (fun vs H Q E => ∃ i : Addr × Addr, spNbent i.1 i.2 vs H Q E) := FnOk.ex fun i => ok_nbent d_law_nbent d_law_below d_law_pick B
  have G_law_nfault : FnOk P w K mg base CX0 2 d_law_nfault.f d_law_nfault.fd P_law_nfault spNfault := ok_nfault d_law_nfault d_law_nfits B
  have G_law_nrow_in : FnOk P w K mg base CX0 1 d_law_nrow_in.f d_law_nrow_in.fd P_law_nrow_in spNrowIn := ok_nrowin d_law_nrow_in B
  have G_law_apart : FnOk P w K mg base CX0 10 d_law_apart.f d_law_apart.fd P_law_apart spApart := ok_apart d_law_apart d_law_spoilt d_law_is_once B
  have Grows_fault : FnOk P w K mg base CX0 4 drows_fault.f drows_fault.fd Prows_fault (spRowsFault C) := ok_rowsfault cLog iLog drows_fault dneed_log dlines_in drow_in dwords_in dnumber_in drow_of dis_between B
  have Xread_rows : FnOk P w K mg base (L2.CX P w) 5 dread_rows.f dread_rows.fd Pread_rows (spReadRows C eBadText.C) := ok_readrows cLog iLog eBadText dread_rows drows_fault dneed_log dlines_in drow_in dwords_in dnumber_in drow_of dis_between B
  have Xrows_text : FnOk P w K mg base (L2.CX P w) 5 drows_text.f drows_text.fd Prows_text (fun vs H Q E => spRowsText C eBadRows.C vs H Q E ∨ spRowsTextD C eBadRows.C vs H Q E) :=
    Lr.FnOk.or (ok_rowstext cLog iLog eBadRows drows_text dneed_log drow_line drow_of dis_between B) (ok_rowstextD cLog iLog eBadRows drows_text dneed_log drow_line drow_of dis_between B)
  have Gread_rows := Lr.FnOk.quiet Xread_rows
  have Grows_text := Lr.FnOk.quiet Xrows_text
  refine okC lk hcd sclaw (fun vs H Q E h => ?_) (fun A outer s H vs Q E hr h => ?_)
  · obtain ⟨a, ns, rfl, _⟩ := h
    rfl
  · obtain ⟨sc, ns, rfl, hs, hl, hT, k⟩ := h
    refine ⟨_, (pss_cons (ps_set (i := 1) sclaw.nd rfl (by first | exact Or.inl rfl | exact Or.inr rfl) (pe_call G_law_start (hr.mono (by decide)) (by rfl) d_law_start.g d_law_start.F.kp d_law_start.b .nil pass0 (pa_cons (pv 0) pa_nil)))
      (pss_cons (ps_for PassesOwn.never rfl (pi_range1 (by rfl) B.range (pa_cons pe_int pa_nil)) (pg_name (i := 2) sclaw.nd rfl (by first | exact Or.inl rfl | exact Or.inr rfl))
      (pss_cons (ps_set (i := 3) sclaw.nd rfl (by first | exact Or.inl rfl | exact Or.inr rfl) (pe_call G_law_log (hr.mono (by decide)) (by rfl) d_law_log.g d_law_log.F.kp d_law_log.b .nil pass0 (pa_cons (pv 1) (pa_cons (pe_call G_law_pick (hr.mono (by decide)) (by rfl) d_law_pick.g d_law_pick.F.kp d_law_pick.b .nil pass0 (pa_cons (pv 1) (pa_cons (pe_lst (pa_cons pe_int (pa_cons pe_int (pa_cons pe_int pa_nil)))) pa_nil))) pa_nil))))
      (pss_cons (ps_asg (pe_tup (pa_cons (pe_call G_law_needs (hr.mono (by decide)) (by rfl) d_law_needs.g d_law_needs.F.kp d_law_needs.b .nil pass0 (pa_cons (pv 3) pa_nil)) (pa_cons (pe_call G_law_made (hr.mono (by decide)) (by rfl) d_law_made.g d_law_made.F.kp d_law_made.b .nil pass0 (pa_cons (pv 1) (pa_cons (pv 3) pa_nil))) pa_nil))) (g_tup K (n := 2) rfl (pgs_cons (pg_name (i := 4) sclaw.nd rfl (by first | exact Or.inl rfl | exact Or.inr rfl)) (pgs_cons (pg_name (i := 18) sclaw.nd rfl (by first | exact Or.inl rfl | exact Or.inr rfl)) pgs_nil))))
      (pss_cons (ps_setLc (i := 5) (own := [("k", 20)]) (g := gName 20) (tt := tYes) rfl sclaw.nd rfl rfl (sw_true rfl rfl rfl (by decide +kernel)) (pi_range1 (by rfl) B.range (pa_cons (pe_call G_law_below (hr.mono (by decide)) (by rfl) d_law_below.g d_law_below.F.kp d_law_below.b .nil pass0 (pa_cons (pv 1) (pa_cons pe_int pa_nil))) pa_nil)) (blkOk_by (own := [("k", 20)]) (N := Nlaw) (sc := defScope slaw) (by decide +kernel)) (fun _ _ _ _ _ => by exact (pg_name (i := 20) sclaw.nd rfl (by first | exact Or.inl rfl | exact Or.inr rfl))) (fun _ _ _ _ _ => pts_nil) (fun _ _ _ _ _ => by exact (pe_call G_law_nrow (hr.mono (by decide)) (by rfl) d_law_nrow.g d_law_nrow.F.kp d_law_nrow.b .nil pass0 (pa_cons (pv 1) (pa_cons (pv 3) (pa_cons (pv 4) pa_nil))))))
      (pss_cons (ps_setLc (i := 5) (own := [("row", 21)]) (g := gName 21) rfl sclaw.nd rfl rfl (sw_true rfl rfl rfl (by decide +kernel)) (w_list K (pv 5)) (blkOk_by (own := [("row", 21)]) (N := Nlaw) (sc := defScope slaw) (by decide +kernel)) (fun _ _ _ _ _ => by exact (pg_name (i := 21) sclaw.nd rfl (by first | exact Or.inl rfl | exact Or.inr rfl))) (fun _ _ _ _ _ => by exact (pts_one (pt_cmpR o_notN (pv 21) pe_non (nomark _)))) (fun _ _ _ _ _ => by exact (pv 21)))
      (pss_cons (ps_set (i := 6) sclaw.nd rfl (by first | exact Or.inl rfl | exact Or.inr rfl) (pe_m1 PySem.F.slot_str_join PySem.F.type_str_join (m_join K) pe_str (pe_lc (own := [("row", 21)]) (g := gName 21) (tt := tYes) rfl sclaw.nd (w_list K (pv 5)) (blkOk_by (own := [("row", 21)]) (N := Nlaw) (sc := defScope slaw) (by decide +kernel)) (fun _ _ _ _ _ => by exact (pg_name (i := 21) sclaw.nd rfl (by first | exact Or.inl rfl | exact Or.inr rfl))) (fun _ _ _ _ _ => pts_nil) (fun _ _ _ _ _ => by exact (pe_op o_addS (pe_call G_law_nline (hr.mono (by decide)) (by rfl) d_law_nline.g d_law_nline.F.kp d_law_nline.b .nil pass0 (pa_cons (pv 3) (pa_cons (pv 21) pa_nil))) pe_str)))))
      (pss_cons (ps_if (PW.pt (pw_or (pt_not (pt_val (pe_call G_law_same (hr.mono (by decide)) (by rfl) d_law_same.g d_law_same.F.kp d_law_same.b .nil pass0 (pa_cons (pe_call Gread_rows (hr.mono (by decide)) (by rfl) dread_rows.g dread_rows.F.kp dread_rows.b .nil pass0 (pa_cons (pv 18) (pa_cons (pv 6) pa_nil))) (pa_cons (pv 5) pa_nil))))) (pw_or1 (pt_cmpR o_notN (pe_call Grows_fault (hr.mono (by decide)) (by rfl) drows_fault.g drows_fault.F.kp drows_fault.b .nil pass0 (pa_cons (pv 18) (pa_cons (pv 6) pa_nil))) pe_non (nomark _))))) (pss_one (ps_ret pe_bl)) pss_nil)
      (pss_cons (ps_set (i := 7) sclaw.nd rfl (by first | exact Or.inl rfl | exact Or.inr rfl) (pe_call G_law_loose (hr.mono (by decide)) (by rfl) d_law_loose.g d_law_loose.F.kp d_law_loose.b .nil pass0 (pa_cons (pv 1) (pa_cons (pv 5) pa_nil))))
      (pss_cons (ps_set (i := 8) sclaw.nd rfl (by first | exact Or.inl rfl | exact Or.inr rfl) (pe_call G_law_copied (hr.mono (by decide)) (by rfl) d_law_copied.g d_law_copied.F.kp d_law_copied.b .nil pass0 (pa_cons (pv 7) pa_nil)))
      (pss_cons (ps_if (PW.pt (pw_or (pt_not (pt_val (pe_call G_law_same (hr.mono (by decide)) (by rfl) d_law_same.g d_law_same.F.kp d_law_same.b .nil pass0 (pa_cons (pe_call Grows_text (hr.mono (by decide)) (by rfl) drows_text.g drows_text.F.kp drows_text.b .nil pass0 (pa_cons (pv 18) (pa_cons (pv 7) pa_nil))) (pa_cons (pv 6) pa_nil))))) (pw_or1 (pt_not (pt_val (pe_call G_law_same (hr.mono (by decide)) (by rfl) d_law_same.g d_law_same.F.kp d_law_same.b .nil pass0 (pa_cons (pv 7) (pa_cons (pv 8) pa_nil)))))))) (pss_one (ps_ret pe_bl)) pss_nil)
      (pss_cons (again_ok D' B TB hr)
      (pss_cons (odd_ok D' B TB hr)
      (pss_cons (ps_set (i := 12) sclaw.nd rfl (by first | exact Or.inl rfl | exact Or.inr rfl) (pe_call G_law_below (hr.mono (by decide)) (by rfl) d_law_below.g d_law_below.F.kp d_law_below.b .nil pass0 (pa_cons (pv 1) (pa_cons (pe_op op_add (pe_callB (c_len K) (by rfl) B.len (by decide +kernel) (pa_cons (pv 5) pa_nil)) pe_int) pa_nil))))
      (pss_cons (ps_par (i := 13) (j := 14) (by rfl) sclaw.nd rfl rfl (by decide) rfl rfl (pa_cons (pe_ix (x_list K) (pe_ix (x_list K) (pv 3) pe_int (fun _ _ => rfl)) pe_int (fun _ _ => rfl)) (pa_cons (pe_op op_add (pe_callB (c_len K) (by rfl) B.len (by decide +kernel) (pa_cons (pe_ix (x_list K) (pv 3) pe_int (fun _ _ => rfl)) pa_nil)) pe_int) pa_nil)) (by rfl))
      (pss_cons (bads1_ok D' B TB hr)
      (pss_cons (bads2_ok D' B TB hr)
      (pss_cons (bad_ok D' B TB hr)
      (pss_one (last_ok D' B TB hr)))))))))))))))))))
      (pss_one (ps_ret
            pe_bl)))), ?_⟩
    walk_at "v"
    refine ⟨sc, ns, rfl, hs, hl, fun a b H1 ha hb st s1 => ?_⟩
    have T1 : Tabs (TL PT) H1 := fun p hp => by
      rw [List.mem_singleton.mp hp]
      exact TabS.nil (s1 _ _ hT)
    walk_at "v"
    refine w_rg1 (n := 3) (by decide) ?_
    refine for_by walk_range ⟨fun i σ H' => (∃ v2 v3 v4 v5 v6 v7 v8 v9 v10 v11 v12 v13 v14 v15 v16 v17 v18 v19 v20 v21 v22 : Option V, σ = [some (.ref sc), some (.ref a), v2, v3, v4, v5, v6, v7, v8, v9, v10, v11, v12, v13, v14, v15, v16, v17, v18, v19, v20, v21, v22]) ∧ StreamAt a b (1000000 * i) H' ∧ Tabs (TL PT) H', ?_, fun _ _ _ _ _ => trivial, ?_, ?_⟩
    · exact ⟨⟨_, _, _, _, _, _, _, _, _, _, _, _, _, _, _, _, _, _, _, _, _, rfl⟩, st, T1⟩
    · rintro turn x σ H2 H3 hturn ⟨⟨v2, v3, v4, v5, v6, v7, v8, v9, v10, v11, v12, v13, v14, v15, v16, v17, v18, v19, v20, v21, v22, rfl⟩, st2, T2⟩ ⟨rfl, rfl⟩
      have ht3 : turn < 3 := by simpa using hturn
      walk_at "v"
      refine ⟨show 3 ≤ sizeLine by decide, fun l hl => ?_⟩
      walk_at "v"
      refine ⟨(a, b), 1000000 * turn, l, _, rfl, upd_same, st2.nm hl, by decide, by decide, st2.new hl, by omega, fun x i H4 hx st4 kp4 => ?_⟩
      obtain ⟨sz, hsz, rfl⟩ : ∃ k : Nat, k < 3 ∧ x = .int (k : Nat) := by
        have hm := List.mem_of_getElem? hx
        simp only [List.mem_cons,
              List.not_mem_nil, or_false] at hm
        rcases hm with rfl | rfl | rfl
        · exact ⟨0, by decide, rfl⟩
        · exact ⟨1, by decide, rfl⟩
        · exact ⟨2, by decide, rfl⟩
      have T4 : Tabs (TL PT) H4 := tabs_kp (tabs_kp T2 ((Keep.refl [a, b] _).new hl) st2.lsts) kp4 (st2.new hl).lsts
      walk_at "v"
      refine ⟨(a, b), 1000000 * turn + 1, sz, rfl, hsz, st4, by omega, fun L vl H5 ok nvl st5 kp5 => ?_⟩
      have T5 : Tabs (TL PT) H5 := tabs_kp T4 kp5 st4.lsts
      have dl5 : Dt [a, b] H5 (logD L) vl := nvl _ st4.trk (fun m h => h)
      walk_at "v"
      refine ⟨[a, b], L, vl, rfl, dl5, ok, fun vn H6 nvn s6 => ?_⟩
      have dn6 : Dt [a, b] H6 (needsL L) vn := nvn _ st5.trk
      have st6 := st5.same s6
      walk_at "v"
      refine ⟨(a, b), 1000000 * turn + 1 + 2000, L, vl, rfl, dl5.same s6, ok, st6, by omega, fun p H7 lg st7 kp7 => ?_⟩
      have E7 : Env1 a b C PT (1000000 * turn + 1 + 2000 + 4000) L vl vn p H7 := ⟨st7, tabs_kp (tabs_kp T5 (Keep.of_same s6) st5.lsts) kp7 st6.lsts, Dt.keep (Keep.of_same s6 |>.trans kp7) _ _ dl5, Dt.keep kp7 _ _ dn6, lg _ st6.trk⟩
      walk_at "v"
      refine ⟨show 2 ≤ sizeLine by decide, fun tt htt => ?_⟩
      refine g_two upd_same ?_
      have E8 := E7.same ((Same.refl H7).new (o := .tup [vn, .ref p]) htt)
      obtain ⟨H8, e8⟩ : ∃ H8, H8 = upd H7 tt (.tup [vn, .ref p]) := ⟨_, rfl⟩
      rw [← e8] at E8 ⊢
      clear e8
      obtain ⟨n8, en8⟩ : ∃ n8, n8 = 1000000 * turn + 1 + 2000 + 4000 := ⟨_, rfl⟩
      rw [← en8] at E8
      walk_at "v"
      refine ⟨(a, b), n8, 9, rfl, by decide, by decide, E8.st, by omega, fun d H9 d0 d9 st9 kp9 => ?_⟩
      have E9 := E8.keep kp9 st9
      walk_at "v"
      refine w_rg1' d0 (by omega) ?_
      refine lc_by walk_range fun D hD => ⟨fun i H' => ∃ os : List (Option Rw), os.length = i ∧ (∀ r, some r ∈ os → Vd L r) ∧ Acc [a, b] H9 H' D (os.map roD) ∧ Env1 a b C PT (n8 + 1 + 4 * i) L vl vn p H', ?_, fun _ _ _ _ => trivial, ?_, ?_⟩
      · exact ⟨[], rfl, by simp, Acc.start (Keep.refl _ _) hD, E9.same ((Same.refl H9).new hD)⟩
      · rintro i x H11 H10 hi ⟨os, los, vos, ac, E10⟩ ⟨rfl, rfl⟩
        have hi9 : i < 9 := by omega
        walk_at "v"
        have stepO : ∀ (o : Option Rw) (v : V) (H11 : Hp), (∀ r, o = some r → Vd L r) → NewM [a, b] H10 H11 (roD o) v → StreamAt a b (n8 + 1 + 4 * i + 4) H11 → Keep [a, b] H10 H11 →
            ∃ acc, H11 D = some (.lst acc) ∧ acc.length < sizeLine ∧ ∃ os : List (Option Rw), os.length = i + 1 ∧ (∀ r, some r ∈ os → Vd L r) ∧ Acc [a, b] H9 (upd H11 D (.lst (acc ++ [v]))) D (os.map roD) ∧ Env1 a b C PT (n8 + 1 + 4 * (i + 1)) L vl vn p (upd H11 D (.lst (acc ++ [v]))) := fun o v H11 vo nv st11 kp11 => by
          obtain ⟨acc, ea, la, _⟩ := id ac.ex
          obtain ⟨e11, ac11⟩ := ac.step E9.st.trk ea nv kp11
          refine ⟨acc, e11, ?_, os ++ [o], by simp [los], fun r hr => ?_, by rw [List.map_append]; exact ac11, ?_⟩
          · rw [la, List.length_map]; exact small1000 (by omega)
          · rcases List.mem_append.mp
                hr with hr | hr
            · exact vos r hr
            · simp at hr; exact vo r hr.symm
          · have nD := E9.st.na hD
            exact E9.keep ac11.kp ((st11.put nD.1 nD.2).mono (by omega))
        refine ⟨(a, b), n8 + 1 + 4 * i, L, vl, vn, rfl, E10.dl, ok, E10.dn, E10.st, by omega, fun H11 st11 kp11 => ?_, fun r vd v' H11 nv st11 kp11 => ?_⟩
        · exact stepO none _ _ (fun r h => nomatch h) (fun S t m => by unfold roD Dt; rfl) st11 kp11
        · exact stepO (some r) _ _ (fun r' h => by cases h; exact vd) nv st11 kp11
      · rintro H10 ⟨os, los, vos, ac, E10⟩
        walk_at "v"
        obtain ⟨acc, ea, la, dacc⟩ := ac.ex
        have los9 : os.length ≤ 9 := by omega
        have d10 := dacc [a, b] E9.st.trk (fun m h => h)
        refine w_lst ea ?_
        refine lc_by (walk_list (xs := acc)) fun D1 hD1 => ⟨fun i H' => (∃ ys, H' D1 = some (.lst ys) ∧ DtAll (D1 :: [a, b]) H' (((os.take i).filterMap id).map rwD) ys) ∧ Keep (D1 :: [a, b]) H10 H' ∧ Same H10 H', ?_, fun i H' _ ⟨_, _, s⟩ => SqL.of (s _ _ ea), ?_, ?_⟩
        · exact ⟨⟨[], upd_same, DtAll.nil⟩, (Keep.refl _ _).new hD1, (Same.refl _).new hD1⟩
        · rintro i x H12 H11 hi ⟨⟨ys, hys, dys⟩, kD, s11⟩ ⟨rfl, hx⟩
          obtain ⟨di, gi, zi⟩ := (DtAll.mono (S := [a, b]) (fun x hx => List.mem_cons_of_mem _ hx) _ _ d10).get' hx
          rw [List.getElem?_map] at gi
          obtain ⟨o, ho, rfl⟩ := Option.map_eq_some_iff.mp gi
          have et : os.take (i + 1) = os.take i ++ [o] := by rw [List.take_succ, ho]; rfl
          have zi' : Dt (D1 :: [a, b]) H10 (roD o) x := Dt.avoid (T := [D1]) (fun t ht => by simp at ht; subst ht; exact hD1) _ _ zi
          walk_at "v"
          cases o with
          | none =>
            have ex : x = .non := by unfold roD Dt at zi; exact zi
            subst ex
            refine ifn (fun h => absurd rfl h) (fun _ => ?_)
            exact ⟨⟨ys, hys, by rw [et, List.filterMap_append]; simpa using dys⟩, kD, s11⟩
          | some r =>
            refine ifn (fun _ => ?_) (fun h => ?_)
            · walk_at "v"
              refine ⟨ys, hys, ?_, ⟨ys ++ [x], upd_same, ?_⟩, kD.put (by simp), s11.put hD1⟩
              · have := dys.length
                rw [this, List.length_map]
                refine small1000 (Nat.le_trans (List.length_filterMap_le _ _) ?_)
                rw [List.length_take]; omega
              · rw [et, List.filterMap_append, List.map_append]
                exact DtAll.append (DtAll.keep ((Keep.refl _ _).put (by simp)) _ _ dys) (DtAll.one (Dt.keep (kD.put (by simp)) _ _ zi'))
            · exfalso
              subst h
              unfold roD rwD Dt at zi
              obtain ⟨_, _, e, _⟩ := zi
              cases e
        rintro H11 ⟨⟨ys, hys, dys⟩, kD, s11⟩
        have los' : acc.length = os.length := by rw [la, List.length_map]
        rw [los', List.take_length] at dys
        obtain ⟨rs, ers⟩ : ∃ rs, rs = os.filterMap id := ⟨_, rfl⟩
        rw [← ers] at dys
        have vrs : ∀ r ∈ rs, Vd L r := fun r hr => by
          rw [ers, List.mem_filterMap] at hr
          obtain ⟨o, ho, e⟩ := hr
          simp at e; subst e
          exact vos r ho
        have lrs : rs.length ≤ 9 := by rw [ers]; exact Nat.le_trans (List.length_filterMap_le _ _) los9
        have E11 := E10.same s11
        have nD1 := E10.st.nm hD1
        have drs : Dt [a, b] H11 (.list (rs.map rwD)) (.ref D1) := dt_list hys (DtAll.mono (fun x hx => List.mem_cons_of_mem _ hx) _ _ dys) nD1
        have eE : ∃ n11, n11 ≤ n8 + 50 ∧ Env1 a b C PT n11 L vl vn p H11 := ⟨_, by omega, E11⟩
        clear E11 E10 kD dys hys d10 dacc ea la ac vos los ers los9 los'
        obtain ⟨n11, ln11, E11⟩ := eE
        walk_at "v"
        obtain ⟨dlt, hD1r, xs, hys, dys, nDr⟩ : ∃ (_ : True) (_ : True) (xs : List V), H11 D1 = some (.lst xs) ∧ DtAll [a, b] H11 (rs.map rwD) xs ∧ D1 ∉ [a, b] := by
          unfold Dt at drs
          obtain ⟨a', xs, e, n, q, z⟩ := drs
          cases e
          exact ⟨trivial, trivial, xs, q, z, n⟩
        have lxs : xs.length = rs.length := by rw [dys.length]; simp
        refine w_lst hys ?_
        refine lc_by (walk_list (xs := xs)) fun D2 hD2 => ⟨fun i H' => H' D2 = some (.lst (((rs.take i).map fun r => lineOf L r ++ NLN).map V.str)) ∧ Same H11 H', ?_, fun i H' _ ⟨_, s⟩ => SqL.of (s _ _ hys), ?_, ?_⟩
        · exact ⟨upd_same, (Same.refl _).new hD2⟩
        · rintro i x H13 H12 hi ⟨hd2, s12⟩ ⟨rfl, hx⟩
          obtain ⟨di, gi, zi⟩ := dys.get' hx
          rw [List.getElem?_map] at gi
          obtain ⟨r, hri, rfl⟩ := Option.map_eq_some_iff.mp gi
          have vr := vrs r (List.mem_of_getElem? hri)
          obtain ⟨t, rfl⟩ : ∃ t, x = .ref t := by unfold rwD Dt at zi; obtain ⟨t, _, e, _⟩ := zi; exact ⟨t, e⟩
          walk_at "v"
          refine ⟨[a, b], [a, b], L, vl, t, r, rfl, E11.dl.same s12, ok, vr, zi.same s12, ?_⟩
          walk_at "v"
          have ll := line_len ok vr
          have l1 : NLN.length = 1 := by decide
          refine i_adds (small_of (by show (lineOf L r).length + NLN.length ≤ 100; omega)) ?_
          refine ⟨_, hd2, by simp only [List.length_map, List.length_take]; exact small1000 (by omega), ?_, s12.put hD2⟩
          rw [List.take_succ, hri, List.map_append, List.map_append]
          exact upd_same
        rintro H12 ⟨hd2, s12⟩
        rw [lxs, List.take_length] at hd2
        have sums : ∀ l : List Rw, (∀ r ∈ l, Vd L r) → ((l.map fun r => lineOf L r ++ NLN).map (·.length)).sum ≤ 22 * l.length := by
          intro l
          induction l with
          | nil => intro _; simp
          | cons r l ih =>
            intro h
            have h1 := line_len ok (h r (by simp))
            have h2 := ih (fun z hz => h z (by simp [hz]))
            have l1 : NLN.length = 1 := by decide
            simp only [List.map_cons, List.sum_cons, List.length_cons, len_app]
            simp only [List.map_map] at h2 ⊢
            omega
        have l0 : ("" : Str).length = 0 := by decide
        refine i_join hd2 (by have := sums rs vrs; rw [l0]; omega) ?_
        have E12 := E11.same s12
        have drs12 := drs.same s12
        obtain ⟨text, etext⟩ : ∃ z, z = textOf L rs := ⟨_, rfl⟩
        have ltext : text.length ≤ 300 := by
          rw [etext, len_tl]
          unfold textOf
          rw [join_eq, join_nil]
          have key : ∀ l : List Str, ((l.map tl).flatten).length = (l.map (·.length)).sum := by
            intro l
            induction l with
            | nil => rfl
            | cons x r ih => simp [ih, len_tl]
          rw [key]
          have := sums rs vrs
          omega
        have lnT := lines_textOf ok vrs
        have plT := parse_lines ok vrs
        have fT := fault_textOf ok vrs
        change gName 6 (.str (textOf L rs)) _ _ _
        rw [← etext] at lnT fT ⊢
        walk_at "v"
        have lsT : (lines text).length ≤ 1000 := by rw [lnT]; simp; omega
        have rows3 : ∀ k, Fit (k + 3) (.list (rs.map rwD)) := fun k => fit_rows k (by omega)
        refine ⟨[], L, p, .str text, .str text, rfl, E12.la.nil, ok, dt_s, fun z e => by cases e; exact ⟨by omega, lsT⟩, fun z ls rs' e el em q1 H13 nq s13 => ?_, fun z n e ef => ?_, fun h => by cases h⟩
        · cases e
          obtain rfl : rs' = rs := told_uniq el lnT em plT
          walk_at "v"
          refine ⟨[], [a, b], .list (rs'.map rwD), .ref q1, .ref D1, rfl, nq [] trk_nil, drs12.same s13, rows3 1, fun H14 s14 => ?_⟩
          have E14 := (E12.same s13).same s14
          have drs14 := (drs12.same s13).same s14
          walk_at "v"
          refine iteF ?_
          walk_at "v"
          refine ⟨[], L, p, .str text, .str text, rfl, E14.la.nil, ok, dt_s, fun z e => ?_, fun h => by cases h⟩
          cases e
          refine ⟨by omega, fun H15 s15 => ?_⟩
          rw [fT]
          have E15 := E14.same s15
          have drs15 := drs14.same s15
          walk_at "v"
          refine ifn (fun h => absurd rfl h) (fun _ => ?_)
          walk_at "v"
          refine ⟨(a, b), n11, .list (rs'.map rwD), .ref D1, rfl, drs15, rows3 1, E15.st, by simp only [nod, nod_rows]; omega, fun dh vh H16 uh nh st16 kp16 => ?_⟩
          simp only [nod, nod_rows] at st16
          have E16 := E15.keep kp16 st16
          have drs16 : Dt [a, b] H16 (.list (rs'.map rwD)) (.ref D1) := Dt.keep kp16 _ _ drs15
          have dh16 : Dt [a, b] H16 dh vh := nh _ E15.st.trk (fun m h => h)
          have fh : Fit 4 dh := Fit_un 4 _ _ (rows3 1) uh
          obtain ⟨rowh, rowsh⟩ := rows_un uh vrs
          walk_at "v"
          refine ⟨[a, b], dh, vh, rfl, dh16, fh, fun vw H17 nw s17 => ?_⟩
          have E17 := E16.same s17
          have dw17 : Dt [a, b] H17 dh vw := nw _ E16.st.trk
          have dh17 := dh16.same s17
          have drs17 := drs16.same s17
          walk_at "v"
          refine .inl ⟨[a, b], L, p, dh, vh, rfl, E17.la.nil, ok, dh17, by rw [rowsh.1]; omega, fun rs2 _ hr2 H18 s18 => ?_, fun n k' rs2 _ gk no _ => ?_, fun h => by rw [rowh] at h; cases h⟩
          · obtain rfl : rs2 = rs' := hr2.uniq rowsh
            rw [← etext]
            have E18 := E17.same s18
            walk_at "v"
            refine ⟨[], [], .str text, .str text, .str text, rfl, dt_s, dt_s, trivial, fun H19 s19 => ?_⟩
            have E19 := E18.same s19
            walk_at "v"
            refine iteF ?_
            walk_at "v"
            refine ⟨[a, b], [a, b], dh, vh, vw, rfl, (dh17.same s18).same s19, (dw17.same s18).same s19, fh, fun H20 s20 => ?_⟩
            have E20 := E19.same s20
            have drs20 := ((drs17.same s18).same s19).same s20
            walk_at "v"
            refine iteF ?_
            have eE : ∃ n20, n20 ≤ n8 + 100 ∧ Env1 a b C PT n20 L vl vn p H20 := ⟨_, by omega, E20⟩
            clear E20 E19 E18 E17 E16 E15 E14 st16 kp16 dh16 dw17 dh17 drs16 drs17 drs15 drs14 nh nw nq
            obtain ⟨n20, ln20, E20⟩ := eE
            walk_at "v"
            refine ⟨sc, a, b, n20, L, vl, vn, p, D1, rs2, text, _, _, _, _, _, _, _, _, _, _, _, _, _, _, _, _, rfl, E20, drs20, ok, by omega, ltext, fun σ1 H21 M21 => ?_⟩
            walk_at "v"
            refine ⟨sc, a, b, n20 + 32, L, vl, vn, p, D1, rs2, M21, ok, by omega, lrs, vrs, fun σ2 H22 M22 => ?_⟩
            clear M21
            obtain ⟨⟨v2, v6, v7, v8, v9, v10, v11, v12, v13, v14, v15, v16, v17, v19, v20, v21, v22, rfl⟩, E22, drs22⟩ := M22
            obtain ⟨xr, hD1', dxr, nD1'⟩ : ∃ xr, H22 D1 = some (.lst xr) ∧ DtAll [a, b] H22 (rs2.map rwD) xr ∧ D1 ∉ [a, b] := by
              unfold Dt at drs22
              obtain ⟨a', xs, e, n, h1, h2⟩ := drs22
              cases e
              exact ⟨xs, h1, h2, n⟩
            have lxr : xr.length = rs2.length := by rw [dxr.length]; simp
            walk_at "v"
            refine ⟨(a, b), n20 + 32, ((xr.length : Nat) : Int) + 1, rfl, by omega, by omega, E22.st, by omega, fun d H23 d0 d9 st23 kp23 => ?_⟩
            obtain ⟨at_, rfl⟩ : ∃ at_ : Nat, d = (at_ : Int) := ⟨d.toNat, by omega⟩
            have E23 := E22.keep kp23 st23
            have drs23 := Dt.keep kp23 _ _ drs22
            obtain ⟨pl, pp, pg, yl, pr, xrr, rfl, hpl, hpp, hpr, lxr2, pg0⟩ : ∃ (pl pp : Addr) (pg : Str) (yl : List V) (pr : Addr) (xrr : List V), vl = .ref pl ∧ H23 pl = some (.lst [.ref pp, .ref pr]) ∧ H23 pp = some (.lst (.str pg :: yl)) ∧ H23 pr = some (.lst xrr) ∧ xrr.length = L.rows.length ∧ L.pages[0]? = some pg :=
              log_parts ok E23.dl
            have pgv : (pg, ver L.rows pg) ∈ standing L.rows L.pages := List.mem_map.mpr ⟨pg, List.mem_of_getElem? pg0, rfl⟩
            walk_at "v"
            refine i_ixL hpp (atI_nat (j := 0) rfl) ?_
            walk_at "v"
            rw [lxr2]
            refine ⟨sc, a, b, _, L, .ref pl, vn, p, D1, p, rs2, at_, pg, _, _, _, _, _, _, _, _, _, _, _, _, _, _, rfl, E23, drs23, ok, pgv, pg0, fun pb H24 E24 drs24 db24 => ?_⟩
            clear hpl hpp hpr
            walk_at "v"
            refine ⟨sc, a, b, _, L, .ref pl, vn, p, D1, pb, rs2, at_, pg, _, _, _, _, _, _, _, none, _, _, _, _, _, _, rfl, E24, drs24, db24, ok, pgv, pg0, fun pb H25 E25 drs25 db25 => ?_⟩
            walk_at "v"
            refine ⟨sc, a, b, _, L, .ref pl, vn, p, D1, rs2, at_, pb, _, _, _, _, _, _, _, _, _, _, _, _, _, _, _, _, rfl, E25, drs25, db25, by omega, no_bad ok, ok, by omega, lrs, vrs, fun σ3 H26 M26 => ?_⟩
            walk_at "v"
            refine ⟨sc, a, b, _, L, .ref pl, vn, p, D1, rs2, M26, ok, by omega, lrs, vrs, fun σ4 H27 M27 => ?_⟩
            obtain ⟨⟨w2, w6, w7, w8, w9, w10, w11, w12, w13, w14, w15, w16, w17, w19, w20, w21, w22, rfl⟩, E27, _⟩ := M27
            exact ⟨⟨_, _, _, _, _, _, _, _, _, _, _, _, _, _, _, _, _, _, _, _, _, rfl⟩, E27.st.mono (by omega), E27.tb⟩
          · have hn : n < rs'.length := by rw [← rowsh.1]; exact (List.getElem?_eq_some_iff.mp gk).1
            exact (no _ (rowsh.2 n k' rs'[n] gk (by simp [hn]))).elim
        · cases e; rw [fT] at ef; cases ef
    · rintro σ H2 ⟨⟨v2, v3, v4, v5, v6, v7, v8, v9, v10, v11, v12, v13, v14, v15, v16, v17, v18, v19, v20, v21, v22, rfl⟩, st2, T2⟩
      walk_at "v"
      exact k _
end Lr
set_option Elab.async false
set_option linter.all false
set_option maxRecDepth 100000
set_option maxHeartbeats 4000000
/-! Hc: the head's facts as the texts want them. -/
namespace Lr
open PySem PySem.Spec
      PyProof.Rows L2
theorem fun_of {K : PySem.W.Frag} {x q : Str} {st : Stmt} {f : Addr} {fd : FuncData} (F : FunD K x q (defArgs st) (defBody st) (defScope st) [] [] f fd) : Fun K x q st f fd := by
  obtain ⟨oc, od, dV, kV, doc, pm, an, cdv, ct, osl, rfl, lk, hc, hD, _⟩ := F.ex
  rcases hD with ⟨_, rfl⟩ | ⟨h, _⟩
  · exact ⟨⟨oc, od, kV, doc, pm, an, cdv, ct, osl, rfl, lk, hc⟩, F.kp⟩
  · exact absurd rfl h
/-- an own error's class: over ValueError, with fields -/
def oexB (K : PySem.W.Frag) (C : Addr) : Bool :=
  (match K.lookup C with
    | some ob => (match ob.cls, ob.data with
      | .type t, .cls cd => decide (t = "type") && ((match cd.mro, ob.slots.toList with
        | .ref z :: bm, [_, _, _, _, some (.builtin n), _] => decide (z = C) && (decide (n = "ValueError.__new__") && (!cd.hasDel && (cd.hasDict && PySem.HandSPX.refsVE bm)))
        | _, _ => false))
      | _, _ => false)
    | none => false) &&
  (decide (PySem.W.findIn K (.ref C) "__setattr__" = some (some (.builtin "object.__setattr__"))) && (decide (PySem.W.subIn K (.ref C) (.type "BaseException") = some true) && (decide (PySem.W.typeIn K (.ref C) = some (.type "type")) && PySem.W.keepIn K (.ref C))))
theorem oexB_ok {K : PySem.W.Frag} {C : Addr} (h : oexB K C = true) : OexC K C := by
  unfold oexB at h
  obtain ⟨h1, h⟩
        := Bool.and_eq_true_iff.mp h
  obtain ⟨h2, h⟩
        := Bool.and_eq_true_iff.mp h
  obtain ⟨h3, h⟩ := Bool.and_eq_true_iff.mp h
  obtain ⟨h4, h5⟩ := Bool.and_eq_true_iff.mp h
  refine ⟨?_, of_decide_eq_true h2, of_decide_eq_true h3, of_decide_eq_true h4, h5⟩
  cases hl : K.lookup C with
  | none => rw [hl] at h1; cases h1
  | some ob =>
    rw [hl] at h1
    obtain ⟨oc, od, dt, sl⟩ := ob
    cases oc with
    | type t =>
      cases dt with
      | cls cd =>
        dsimp only at h1
        obtain ⟨ht, g1⟩ := Bool.and_eq_true_iff.mp h1
        clear h1
        obtain rfl := of_decide_eq_true ht
        split at g1
        · rename_i z bm k0 k1 k2 k3 n k5 hm hs
          obtain ⟨z1, g2⟩ := Bool.and_eq_true_iff.mp g1
          obtain ⟨z2, g3⟩ := Bool.and_eq_true_iff.mp g2
          obtain ⟨z3, g4⟩ := Bool.and_eq_true_iff.mp g3
          obtain ⟨z4, z5⟩ := Bool.and_eq_true_iff.mp g4
          have e1 := of_decide_eq_true z1
          have e2 := of_decide_eq_true z2
          obtain ⟨nm, bs, mro, ns, qn,
                hd, sn, sub, ab, col, del⟩ := cd
          have z3' : del = false := by
            cases del
            · rfl
            · cases z3
          have z4' : hd = true := z4
          have hm' : mro = .ref z :: bm := hm
          subst hm' z3' z4' e1 e2
          obtain ⟨l⟩ := sl
          dsimp only at hs
          subst hs
          exact ⟨nm, qn, ns, bs, bm, sn, sub, ab, col, od, k0, k1, k2, k3, k5, rfl, z5⟩
        · cases g1
      | _ => cases h1
    | _ => cases dt <;> cases h1
/-- a class whose instances isinstance knows -/
def insB (K : PySem.W.Frag) (C : Addr) : Bool := decide (PySem.W.findIn K (.ref C) "__class__" = some (some (.builtin "object.__class__"))) && (decide (PySem.W.specialIn K (.builtin "object.__class__") "__get__" = some (some (.builtin "getset_descriptor.__get__"))) &&
  (decide (PySem.W.takesIn K (.builtin "object.__class__") = some true) && (decide (PySem.W.mroIn K C (.type "object") = some true) && decide (PySem.W.kitOne K (.ref C) (.ref C) = some true))))
theorem insB_ok {K : PySem.W.Frag} {C : Addr} (cl : Cls K C) (h : insB K C = true) : C8.InsC K C := by
  unfold insB at h
  obtain ⟨h1, h⟩
        := Bool.and_eq_true_iff.mp h
  obtain ⟨h2, h⟩
        := Bool.and_eq_true_iff.mp h
  obtain ⟨h3, h⟩ := Bool.and_eq_true_iff.mp h
  obtain ⟨h4, h5⟩ := Bool.and_eq_true_iff.mp h
  exact ⟨cl, of_decide_eq_true h1, of_decide_eq_true h2, of_decide_eq_true h3, of_decide_eq_true h4, of_decide_eq_true h5⟩
end Lr
set_option Elab.async false
set_option linter.all false
set_option maxRecDepth 100000
set_option maxHeartbeats 0
namespace Lr
open PySem PySem.Spec
      PyProof.Rows L2
namespace Hd
def top (i : Nat) : Stmt := PySem.Challenge.pw_leastredo_k78_whole_rows_as_texts.main.body.getD i (.Pass ⟨0, 0, 0, 0⟩)
/-! ### the head:
      facts by names, the run -/
def fn0 : List He.DefD := [⟨("BadLog", some "__init__"), "__init__", "BadLog.__init__", defArgs (inClass (top 2) 0), defBody (inClass (top 2) 0), defScope (inClass (top 2) 0), [], []⟩, ⟨("BadPages", some "__init__"), "__init__", "BadPages.__init__", defArgs (inClass (top 3) 0), defBody (inClass (top 3) 0), defScope (inClass (top 3) 0), [], []⟩, ⟨("BadRecords", some "__init__"), "__init__", "BadRecords.__init__", defArgs (inClass (top 4) 0), defBody (inClass (top 4) 0), defScope (inClass (top 4) 0), [], []⟩, ⟨("BadRows", some "__init__"), "__init__", "BadRows.__init__", defArgs (inClass (top 5) 0), defBody (inClass (top 5) 0), defScope (inClass (top 5) 0), [], []⟩, ⟨("BadText", some "__init__"), "__init__", "BadText.__init__", defArgs (inClass (top 6) 0), defBody (inClass (top 6) 0), defScope (inClass (top 6) 0), [], []⟩, ⟨("is_between", none), "is_between", "is_between", defArgs (top 10), defBody (top 10), defScope (top 10), [], []⟩, ⟨("is_name", none), "is_name", "is_name", defArgs (top 11), defBody (top 11), defScope (top 11), [], []⟩, ⟨("names_of", none), "names_of", "names_of", defArgs (top 12), defBody (top 12), defScope (top 12), [], []⟩, ⟨("lot_among", none), "lot_among", "lot_among", defArgs (top 13), defBody (top 13), defScope (top 13), [], []⟩, ⟨("number_in", none), "number_in", "number_in", defArgs (top 14), defBody (top 14), defScope (top 14), [], []⟩, ⟨("words_in", none), "words_in", "words_in", defArgs (top 15), defBody (top 15), defScope (top 15), [], []⟩, ⟨("lines_in", none), "lines_in", "lines_in", defArgs (top 16), defBody (top 16), defScope (top 16), [], []⟩, ⟨("record_of", none), "record_of", "record_of", defArgs (top 18), defBody (top 18), defScope (top 18), [], []⟩, ⟨("Log", some "__init__"), "__init__", "Log.__init__", defArgs (inClass (top 19) 0), defBody (inClass (top 19) 0), defScope (inClass (top 19) 0), [], []⟩, ⟨("Log", some "standing"), "standing", "Log.standing", defArgs (inClass (top 19) 1), defBody (inClass (top 19) 1), defScope (inClass (top 19) 1), [], []⟩, ⟨("Log", some "pages"), "pages", "Log.pages", defArgs (inClass (top 19) 2), defBody (inClass (top 19) 2), defScope (inClass (top 19) 2), [], []⟩, ⟨("Log", some "records"), "records", "Log.records", defArgs (inClass (top 19) 3), defBody (inClass (top 19) 3), defScope (inClass (top 19) 3), [], []⟩, ⟨("Log", some "size"), "size", "Log.size", defArgs (inClass (top 19) 4), defBody (inClass (top 19) 4), defScope (inClass (top 19) 4), [], []⟩, ⟨("need_log", none), "need_log", "need_log", defArgs (top 21), defBody (top 21), defScope (top 21), [], []⟩, ⟨("row_of", none), "row_of", "row_of", defArgs (top 23), defBody (top 23), defScope (top 23), [], []⟩]
def fn1 : List He.DefD := [⟨("row_line", none), "row_line", "row_line", defArgs (top 24), defBody (top 24), defScope (top 24), [], []⟩, ⟨("rows_text", none), "rows_text", "rows_text", defArgs (top 25), defBody (top 25), defScope (top 25), [], []⟩, ⟨("row_in", none), "row_in", "row_in", defArgs (top 26), defBody (top 26), defScope (top 26), [], []⟩, ⟨("rows_fault", none), "rows_fault", "rows_fault", defArgs (top 27), defBody (top 27), defScope (top 27), [], []⟩, ⟨("read_rows", none), "read_rows", "read_rows", defArgs (top 28), defBody (top 28), defScope (top 28), [], []⟩, ⟨("_law_nline", none), "_law_nline", "_law_nline", defArgs (top 30), defBody (top 30), defScope (top 30), [], []⟩, ⟨("_law_nrow_in", none), "_law_nrow_in", "_law_nrow_in", defArgs (top 31), defBody (top 31), defScope (top 31), [], []⟩, ⟨("_law_start", none), "_law_start", "_law_start", defArgs (top 32), defBody (top 32), defScope (top 32), [], []⟩, ⟨("_law_below", none), "_law_below", "_law_below", defArgs (top 33), defBody (top 33), defScope (top 33), [], []⟩, ⟨("_law_chance", none), "_law_chance", "_law_chance", defArgs (top 34), defBody (top 34), defScope (top 34), [], []⟩, ⟨("_law_pick", none), "_law_pick", "_law_pick", defArgs (top 35), defBody (top 35), defScope (top 35), [], []⟩, ⟨("_law_mixed", none), "_law_mixed", "_law_mixed", defArgs (top 36), defBody (top 36), defScope (top 36), [], []⟩, ⟨("_law_lot", none), "_law_lot", "_law_lot", defArgs (top 37), defBody (top 37), defScope (top 37), [], []⟩, ⟨("_law_copied", none), "_law_copied", "_law_copied", defArgs (top 38), defBody (top 38), defScope (top 38), [], []⟩, ⟨("_law_same", none), "_law_same", "_law_same", defArgs (top 39), defBody (top 39), defScope (top 39), [], []⟩, ⟨("_law_loose", none), "_law_loose", "_law_loose", defArgs (top 40), defBody (top 40), defScope (top 40), [], []⟩, ⟨("_law_spoilt", none), "_law_spoilt", "_law_spoilt", defArgs (top 41), defBody (top 41), defScope (top 41), [], []⟩, ⟨("_law_is_once", none), "_law_is_once", "_law_is_once", defArgs (top 42), defBody (top 42), defScope (top 42), [], []⟩, ⟨("_law_apart", none), "_law_apart", "_law_apart", defArgs (top 43), defBody (top 43), defScope (top 43), [], []⟩, ⟨("_law_name", none), "_law_name", "_law_name", defArgs (top 44), defBody (top 44), defScope (top 44), [], []⟩]
def fn2 : List He.DefD := [⟨("_law_names", none), "_law_names", "_law_names", defArgs (top 45), defBody (top 45), defScope (top 45), [], []⟩, ⟨("_law_record", none), "_law_record", "_law_record", defArgs (top 46), defBody (top 46), defScope (top 46), [], []⟩, ⟨("_law_log", none), "_law_log", "_law_log", defArgs (top 47), defBody (top 47), defScope (top 47), [], []⟩, ⟨("_law_made", none), "_law_made", "_law_made", defArgs (top 48), defBody (top 48), defScope (top 48), [], []⟩, ⟨("_law_needs", none), "_law_needs", "_law_needs", defArgs (top 49), defBody (top 49), defScope (top 49), [], []⟩, ⟨("_law_nrow", none), "_law_nrow", "_law_nrow", defArgs (top 50), defBody (top 50), defScope (top 50), [], []⟩, ⟨("_law_nfits", none), "_law_nfits", "_law_nfits", defArgs (top 51), defBody (top 51), defScope (top 51), [], []⟩, ⟨("_law_nfault", none), "_law_nfault", "_law_nfault", defArgs (top 52), defBody (top 52), defScope (top 52), [], []⟩, ⟨("_law_nindex", none), "_law_nindex", "_law_nindex", defArgs (top 53), defBody (top 53), defScope (top 53), [], []⟩, ⟨("_law_nbent", none), "_law_nbent", "_law_nbent", defArgs (top 54), defBody (top 54), defScope (top 54), [], []⟩, ⟨("law", none), "law", "law", defArgs (top 55), defBody (top 55), defScope (top 55), [], []⟩]
def fn : List He.DefD := fn0 ++ fn1 ++ fn2
def fa0 : List He.Fa := [.glo "is_between", .glo "is_name", .glo "names_of", .glo "lot_among", .glo "number_in", .glo "words_in", .glo "lines_in", .glo "record_of", .glo "need_log", .glo "row_of", .glo "row_line", .glo "rows_text", .glo "row_in", .glo "rows_fault", .glo "read_rows", .glo "_law_nline", .glo "_law_nrow_in", .glo "_law_start", .glo "_law_below", .glo "_law_chance"]
def fa1 : List He.Fa := [.glo "_law_pick", .glo "_law_mixed", .glo "_law_lot", .glo "_law_copied", .glo "_law_same", .glo "_law_loose", .glo "_law_spoilt", .glo "_law_is_once", .glo "_law_apart", .glo "_law_name", .glo "_law_names", .glo "_law_record", .glo "_law_log", .glo "_law_made", .glo "_law_needs", .glo "_law_nrow", .glo "_law_nfits", .glo "_law_nfault", .glo "_law_nindex", .glo "_law_nbent"]
def fa2 : List He.Fa := [.glo "law", .glo "RedoError", .glo "BadLog", .glo "BadPages", .glo "BadRecords", .glo "BadRows", .glo "BadText", .glo "Log", .free "all", .free "bool", .free "dict", .free "enumerate", .free "int", .free "isinstance", .free "len", .free "list", .free "range", .free "sorted", .free "str", .free "tuple"]
def fa3 : List He.Fa := [.free "zip", .str "LETTERS" "abcdefghijklmnopqrstuvwxyz", .str "FIGURES" "0123456789", .meth "BadLog" "__init__", .noat "BadLog" "thing", .meth "BadPages" "__init__", .noat "BadPages" "thing", .meth "BadRecords" "__init__", .noat "BadRecords" "index", .meth "BadRows" "__init__", .noat "BadRows" "index", .meth "BadText" "__init__", .noat "BadText" "line", .cls "Log", .mkr "Log", .meth "Log" "__init__", .meth "Log" "standing", .meth "Log" "pages", .meth "Log" "records", .meth "Log" "size"]
def fa4 : List He.Fa := [.noat "Log" "names", .noat "Log" "needs", .noat "Log" "rows", .noat "Log" "writers"]
def fa : List He.Fa := fa0 ++ fa1 ++ fa2 ++ fa3 ++ fa4
def tf : List He.Defn := [("law", none)]
def lz : List (List Str) := [["RedoError", "BadLog", "BadPages", "BadRecords", "BadRows", "BadText", "LETTERS", "FIGURES", "is_between", "is_name", "names_of", "lot_among", "number_in", "words_in", "lines_in", "record_of", "Log", "need_log", "row_of", "row_line"], ["rows_text", "row_in", "rows_fault", "read_rows", "_law_nline", "_law_nrow_in", "_law_start", "_law_below", "_law_chance", "_law_pick", "_law_mixed", "_law_lot", "_law_copied", "_law_same", "_law_loose", "_law_spoilt", "_law_is_once", "_law_apart", "_law_name", "_law_names"], ["_law_record", "_law_log", "_law_made", "_law_needs", "_law_nrow", "_law_nfits", "_law_nfault", "_law_nindex", "_law_nbent"]]
def loose : List Str := lz.flatten
def lawI : Nat := 55
/-- the facts that the list of facts has no word for -/
def ex (K : PySem.W.Frag) : Bool := [("BadRows" : Str), "BadText"].all (fun x => oexB K (He.ga K x) && (xfB K (He.ga K x) && decide (PySem.W.typeIn K (.ref (He.ma K (He.ga K x) "__init__")) = some (.type "function")))) &&
  (insB K (He.ga K "Log") && (decide (PySem.W.exmOne K (.ref (He.ga K "BadRows")) (.ref (He.ga K "BadRows")) = some true) && (decide (PySem.W.exmOne K (.ref (He.ga K "BadText")) (.ref (He.ga K "BadRows")) = some false) && decide (PySem.W.exmOne K (.ref (He.ga K "BadText")) (.ref (He.ga K "BadText")) = some true))))
abbrev R : PySem.W.OpenRow := PySem.W.OpenLaw.row PySem.Challenge.rw_leastredo_k78_whole_rows_as_texts
abbrev hk : PySem.W.Hook := He.hookX 5 fa fn [] tf ex
def ob (s : PySem.W.SharedT) : He.AlX := He.obsX 5 fa fn [] tf ex (HandSHeadRun.getT s)
theorem ob_eq (s : PySem.W.SharedT) : ob s = hk.obs s.abs := He.obsX_eq (HandSHeadRun.getT_eq s)
theorem run (w : World) : HandSHeadRun.RunEq R (PySem.W.view R.prog [55]) hk ob 6000 loose w := by
  intro os
  kernel_rfl
end Hd
end Lr
set_option Elab.async false
set_option linter.all false
set_option maxRecDepth 100000
set_option maxHeartbeats 0
namespace Lr
open PySem PySem.Spec
      PyProof.Rows L2
open LamX (TabB LawAtS)
theorem law_at (w : World) (mg : Str → Option Value) (fa : Addr) (h : Heap) (Y : Hd.hk.says w h) (hns : h.Ns mainGlobals mg) (hmg : mg ("law" : Str) = some (.ref fa)) :
    ∃ K : PySem.W.Frag, K.In h ∧ LawAtS PySem.Challenge.rw_leastredo_k78_whole_rows_as_texts w K CX0 11 63 "script" mg fa h := by
  obtain ⟨K, X, c⟩ := Y
  have cd := c.t.d
  have hex := c.more
  unfold Hd.ex at hex
  obtain ⟨x1, hex⟩ := Bool.and_eq_true_iff.mp hex
  obtain ⟨x2, hex⟩ := Bool.and_eq_true_iff.mp hex
  obtain ⟨x3, hex⟩ := Bool.and_eq_true_iff.mp hex
  obtain ⟨x4, x5⟩ := Bool.and_eq_true_iff.mp hex
  simp only [List.all_cons, List.all_nil, Bool.and_true, Bool.and_eq_true] at x1
  obtain ⟨⟨r1, r2, r3⟩, t1, t2, t3⟩ := x1
  obtain ⟨fd3, F3⟩ := cd.def_ 3 rfl
  obtain ⟨fd4, F4⟩ := cd.def_ 4 rfl
  obtain ⟨fd5, F5⟩ := cd.def_ 5 rfl
  obtain ⟨fd6, F6⟩ := cd.def_ 6 rfl
  obtain ⟨fd7, F7⟩ := cd.def_ 7 rfl
  obtain ⟨fd8, F8⟩ := cd.def_ 8 rfl
  obtain ⟨fd9, F9⟩ := cd.def_ 9 rfl
  obtain ⟨fd10, F10⟩ := cd.def_ 10 rfl
  obtain ⟨fd11, F11⟩ := cd.def_ 11 rfl
  obtain ⟨fd12, F12⟩ := cd.def_ 12 rfl
  obtain ⟨fd13, F13⟩ := cd.def_ 13 rfl
  obtain ⟨fd14, F14⟩ := cd.def_ 14 rfl
  obtain ⟨fd18, F18⟩ := cd.def_ 18 rfl
  obtain ⟨fd19, F19⟩ := cd.def_ 19 rfl
  obtain ⟨fd20, F20⟩ := cd.def_ 20 rfl
  obtain ⟨fd21, F21⟩ := cd.def_ 21 rfl
  obtain ⟨fd22, F22⟩ := cd.def_ 22 rfl
  obtain ⟨fd23, F23⟩ := cd.def_ 23 rfl
  obtain ⟨fd24, F24⟩ := cd.def_ 24 rfl
  obtain ⟨fd25, F25⟩ := cd.def_ 25 rfl
  obtain ⟨fd26, F26⟩ := cd.def_ 26 rfl
  obtain ⟨fd27, F27⟩ := cd.def_ 27 rfl
  obtain ⟨fd28, F28⟩ := cd.def_ 28 rfl
  obtain ⟨fd29, F29⟩ := cd.def_ 29 rfl
  obtain ⟨fd30, F30⟩ := cd.def_ 30 rfl
  obtain ⟨fd31, F31⟩ := cd.def_ 31 rfl
  obtain ⟨fd32, F32⟩ := cd.def_ 32 rfl
  obtain ⟨fd33, F33⟩ := cd.def_ 33 rfl
  obtain ⟨fd34, F34⟩ := cd.def_ 34 rfl
  obtain ⟨fd35, F35⟩ := cd.def_ 35 rfl
  obtain ⟨fd36, F36⟩ := cd.def_ 36 rfl
  obtain ⟨fd37, F37⟩ := cd.def_ 37 rfl
  obtain ⟨fd38, F38⟩ := cd.def_ 38 rfl
  obtain ⟨fd39, F39⟩ := cd.def_ 39 rfl
  obtain ⟨fd40, F40⟩ := cd.def_ 40 rfl
  obtain ⟨fd41, F41⟩ := cd.def_ 41 rfl
  obtain ⟨fd42, F42⟩ := cd.def_ 42 rfl
  obtain ⟨fd43, F43⟩ := cd.def_ 43 rfl
  obtain ⟨fd44, F44⟩ := cd.def_ 44 rfl
  obtain ⟨fd45, F45⟩ := cd.def_ 45 rfl
  obtain ⟨fd46, F46⟩ := cd.def_ 46 rfl
  obtain ⟨fd47, F47⟩ := cd.def_ 47 rfl
  obtain ⟨fd48, F48⟩ := cd.def_ 48 rfl
  obtain ⟨fd49, F49⟩ := cd.def_ 49 rfl
  obtain ⟨fd50, F50⟩ := cd.def_ 50 rfl
  have hLog : mg ("Log" : Str) = some (.ref (He.ga K "Log")) := He.glo_ok X hns (cd.fact 47 rfl)
  have clL := He.cls_ok (cd.fact 73 rfl)
  have cLog : LogCls K mg (He.ga K "Log") := ⟨clL, He.noat_ok (cd.fact 80 rfl), He.noat_ok (cd.fact 82 rfl), He.noat_ok (cd.fact 83 rfl), He.noat_ok (cd.fact 81 rfl), hLog⟩
  let D : Defs K mg (He.ga K "Log") := {
    start := ⟨_, fd27, fun_of F27, He.glo_ok X hns (cd.fact 17 rfl), F27.bindsN (fun _ _ _ _ _ _ us hl => match us, hl with | [_], _ => rfl)⟩
    below := ⟨_, fd28, fun_of F28, He.glo_ok X hns (cd.fact 18 rfl), F28.bindsN (fun _ _ _ _ _ _ us hl => match us, hl with | [_, _], _ => rfl)⟩
    chance := ⟨_, fd29, fun_of F29, He.glo_ok X hns (cd.fact 19 rfl), F29.bindsN (fun _ _ _ _ _ _ us hl => match us, hl with | [_, _], _ => rfl)⟩
    pick := ⟨_, fd30, fun_of F30, He.glo_ok X hns (cd.fact 20 rfl), F30.bindsN (fun _ _ _ _ _ _ us hl => match us, hl with | [_, _], _ => rfl)⟩
    mixed := ⟨_, fd31, fun_of F31, He.glo_ok X hns (cd.fact 21 rfl), F31.bindsN (fun _ _ _ _ _ _ us hl => match us, hl with | [_, _], _ => rfl)⟩
    lot := ⟨_, fd32, fun_of F32, He.glo_ok X hns (cd.fact 22 rfl), F32.bindsN (fun _ _ _ _ _ _ us hl => match us, hl with | [_, _, _], _ => rfl)⟩
    name := ⟨_, fd39, fun_of F39, He.glo_ok X hns (cd.fact 29 rfl), F39.bindsN (fun _ _ _ _ _ _ us hl => match us, hl with | [_], _ => rfl)⟩
    names := ⟨_, fd40, fun_of F40, He.glo_ok X hns (cd.fact 30 rfl), F40.bindsN (fun _ _ _ _ _ _ us hl => match us, hl with | [_, _], _ => rfl)⟩
    record := ⟨_, fd41, fun_of F41, He.glo_ok X hns (cd.fact 31 rfl), F41.bindsN (fun _ _ _ _ _ _ us hl => match us, hl with | [_, _, _], _ => rfl)⟩
    log := ⟨_, fd42, fun_of F42, He.glo_ok X hns (cd.fact 32 rfl), F42.bindsN (fun _ _ _ _ _ _ us hl => match us, hl with | [_, _], _ => rfl)⟩
    same := ⟨_, fd34, fun_of F34, He.glo_ok X hns (cd.fact 24 rfl), F34.bindsN (fun _ _ _ _ _ _ us hl => match us, hl with | [_, _], _ => rfl)⟩
    copied := ⟨_, fd33, fun_of F33, He.glo_ok X hns (cd.fact 23 rfl), F33.bindsN (fun _ _ _ _ _ _ us hl => match us, hl with | [_], _ => rfl)⟩
    loose := ⟨_, fd35, fun_of F35, He.glo_ok X hns (cd.fact 25 rfl), F35.bindsN (fun _ _ _ _ _ _ us hl => match us, hl with | [_, _], _ => rfl)⟩
    spoilt := ⟨_, fd36, fun_of F36, He.glo_ok X hns (cd.fact 26 rfl), F36.bindsN (fun _ _ _ _ _ _ us hl => match us, hl with | [_], _ => rfl)⟩
    once := ⟨_, fd37, fun_of F37, He.glo_ok X hns (cd.fact 27 rfl), F37.bindsN (fun _ _ _ _ _ _ us hl => match us, hl with | [_], _ => rfl)⟩
    apart := ⟨_, fd38, fun_of F38, He.glo_ok X hns (cd.fact 28 rfl), F38.bindsN (fun _ _ _ _ _ _ us hl => match us, hl with | [_], _ => rfl)⟩
    made := ⟨_, fd43, fun_of F43, He.glo_ok X hns (cd.fact 33 rfl), F43.bindsN (fun _ _ _ _ _ _ us hl => match us, hl with | [_, _], _ => rfl)⟩
    needs := ⟨_, fd44, fun_of F44, He.glo_ok X hns (cd.fact 34 rfl), F44.bindsN (fun _ _ _ _ _ _ us hl => match us, hl with | [_], _ => rfl)⟩
    nline := ⟨_, fd25, fun_of F25, He.glo_ok X hns (cd.fact 15 rfl), F25.bindsN (fun _ _ _ _ _ _ us hl => match us, hl with | [_, _], _ => rfl)⟩
    nrow_in := ⟨_, fd26, fun_of F26, He.glo_ok X hns (cd.fact 16 rfl), F26.bindsN (fun _ _ _ _ _ _ us hl => match us, hl with | [_, _, _], _ => rfl)⟩
    nrow := ⟨_, fd45, fun_of F45, He.glo_ok X hns (cd.fact 35 rfl), F45.bindsN (fun _ _ _ _ _ _ us hl => match us, hl with | [_, _, _], _ => rfl)⟩
    nfits := ⟨_, fd46, fun_of F46, He.glo_ok X hns (cd.fact 36 rfl), F46.bindsN (fun _ _ _ _ _ _ us hl => match us, hl with | [_, _, _], _ => rfl)⟩
    nfault := ⟨_, fd47, fun_of F47, He.glo_ok X hns (cd.fact 37 rfl), F47.bindsN (fun _ _ _ _ _ _ us hl => match us, hl with | [_, _, _], _ => rfl)⟩
    nbent := ⟨_, fd49, fun_of F49, He.glo_ok X hns (cd.fact 39 rfl), F49.bindsN (fun _ _ _ _ _ _ us hl => match us, hl with | [_, _], _ => rfl)⟩
    nindex := ⟨_, fd48, fun_of F48, He.glo_ok X hns (cd.fact 38 rfl), F48.bindsN (fun _ _ _ _ _ _ us hl => match us, hl with | [_], _ => rfl)⟩
    between := ⟨_, fd5, fun_of F5, He.glo_ok X hns (cd.fact 0 rfl), F5.bindsN (fun _ _ _ _ _ _ us hl => match us, hl with | [_, _, _], _ => rfl)⟩
    is_name := ⟨_, fd6, fun_of F6, He.glo_ok X hns (cd.fact 1 rfl), F6.bindsN (fun _ _ _ _ _ _ us hl => match us, hl with | [_], _ => rfl)⟩
    names_of := ⟨_, fd7, fun_of F7, He.glo_ok X hns (cd.fact 2 rfl), F7.bindsN (fun _ _ _ _ _ _ us hl => match us, hl with | [_], _ => rfl)⟩
    lot_among := ⟨_, fd8, fun_of F8, He.glo_ok X hns (cd.fact 3 rfl), F8.bindsN (fun _ _ _ _ _ _ us hl => match us, hl with | [_, _], _ => rfl)⟩
    number_in := ⟨_, fd9, fun_of F9, He.glo_ok X hns (cd.fact 4 rfl), F9.bindsN (fun _ _ _ _ _ _ us hl => match us, hl with | [_], _ => rfl)⟩
    words_in := ⟨_, fd10, fun_of F10, He.glo_ok X hns (cd.fact 5 rfl), F10.bindsN (fun _ _ _ _ _ _ us hl => match us, hl with | [_], _ => rfl)⟩
    lines_in := ⟨_, fd11, fun_of F11, He.glo_ok X hns (cd.fact 6 rfl), F11.bindsN (fun _ _ _ _ _ _ us hl => match us, hl with | [_], _ => rfl)⟩
    record_of := ⟨_, fd12, fun_of F12, He.glo_ok X hns (cd.fact 7 rfl), F12.bindsN (fun _ _ _ _ _ _ us hl => match us, hl with | [_, _], _ => rfl)⟩
    need_log := ⟨_, fd18, fun_of F18, He.glo_ok X hns (cd.fact 8 rfl), F18.bindsN (fun _ _ _ _ _ _ us hl => match us, hl with | [_], _ => rfl)⟩
    row_of := ⟨_, fd19, fun_of F19, He.glo_ok X hns (cd.fact 9 rfl), F19.bindsN (fun _ _ _ _ _ _ us hl => match us, hl with | [_, _], _ => rfl)⟩
    row_line := ⟨_, fd20, fun_of F20, He.glo_ok X hns (cd.fact 10 rfl), F20.bindsN (fun _ _ _ _ _ _ us hl => match us, hl with | [_, _], _ => rfl)⟩
    rows_text := ⟨_, fd21, fun_of F21, He.glo_ok X hns (cd.fact 11 rfl), F21.bindsN (fun _ _ _ _ _ _ us hl => match us, hl with | [_, _], _ => rfl)⟩
    row_in := ⟨_, fd22, fun_of F22, He.glo_ok X hns (cd.fact 12 rfl), F22.bindsN (fun _ _ _ _ _ _ us hl => match us, hl with | [_, _], _ => rfl)⟩
    rows_fault := ⟨_, fd23, fun_of F23, He.glo_ok X hns (cd.fact 13 rfl), F23.bindsN (fun _ _ _ _ _ _ us hl => match us, hl with | [_, _], _ => rfl)⟩
    read_rows := ⟨_, fd24, fun_of F24, He.glo_ok X hns (cd.fact 14 rfl), F24.bindsN (fun _ _ _ _ _ _ us hl => match us, hl with | [_, _], _ => rfl)⟩
    init := ⟨_, fd13, fun_of F13, He.meth_ok (cd.fact 75 rfl), F13.bindsN (fun _ _ _ _ _ _ us hl => match us, hl with | [_, _, _], _ => rfl)⟩
    standing := ⟨_, fd14, fun_of F14, He.meth_ok (cd.fact 76 rfl), F14.bindsN (fun _ _ _ _ _ _ us hl => match us, hl with | [_, _], _ => rfl)⟩
    cLog := cLog
    iLog := insB_ok clL x2
    mkLog := He.mkr_ok (cd.fact 74 rfl)
    eRows := ⟨_, _, fd3, oexB_ok r1, He.glo_ok X hns (cd.fact 45 rfl), (He.meth_ok (cd.fact 69 rfl)).at_, of_decide_eq_true r3, fun_of F3, F3.bindsN (fun _ _ _ _ _ _ us hl => match us, hl with | [_, _], _ => rfl), He.noat_ok (cd.fact 70 rfl), xfB_ok r2⟩
    eText := ⟨_, _, fd4, oexB_ok t1, He.glo_ok X hns (cd.fact 46 rfl), (He.meth_ok (cd.fact 71 rfl)).at_, of_decide_eq_true t3, fun_of F4, F4.bindsN (fun _ _ _ _ _ _ us hl => match us, hl with | [_, _], _ => rfl), He.noat_ok (cd.fact 72 rfl), xfB_ok t2⟩
    exm := ⟨of_decide_eq_true x3, of_decide_eq_true x4, of_decide_eq_true x5⟩ }
  have B : Blt mg := {
    len := He.free_ok X hns (cd.fact 54 rfl)
    list := He.free_ok X hns (cd.fact 55 rfl)
    tuple := He.free_ok X hns (cd.fact 59 rfl)
    dict := He.free_ok X hns (cd.fact 50 rfl)
    int := He.free_ok X hns (cd.fact 52 rfl)
    str := He.free_ok X hns (cd.fact 58 rfl)
    bool := He.free_ok X hns (cd.fact 49 rfl)
    range := He.free_ok X hns (cd.fact 56 rfl)
    enumerate := He.free_ok X hns (cd.fact 51 rfl)
    zip := He.free_ok X hns (cd.fact 60 rfl)
    sorted := He.free_ok X hns (cd.fact 57 rfl)
    all := He.free_ok X hns (cd.fact 48 rfl)
    isinstance := He.free_ok X hns (cd.fact 53 rfl)
    gLETTERS := by
      obtain ⟨t, e⟩ := He.str_ok X hns (cd.fact 61 rfl)
      exact ⟨_, e, t, rfl⟩
    gFIGURES := by
      obtain ⟨t, e⟩ := He.str_ok X hns (cd.fact 62 rfl)
      exact ⟨_, e, t, rfl⟩
    }
  have e := hmg.symm.trans (He.glo_ok X hns (cd.fact 40 rfl))
  obtain rfl : fa = He.ga K "law" := by cases e; rfl
  obtain ⟨oc, od, dV, kV, doc, pm, an, cdv, ct, osl, efd, lk, hcd, hD, _⟩ := F50.ex
  have b := FunD.bindsA (ps := ["script"]) F50 (fun _ _ _ _ _ _ us hl => match us, hl with | [_], _ => rfl)
  obtain rfl : dV = .none := by
    rcases hD with ⟨_, e⟩ | ⟨e, _⟩
    · exact e
    · exact absurd rfl e
  obtain ⟨co, rfl⟩ := He.codeIn_ref hcd
  subst efd
  have eco : He.codeOf K ("law", none) = co := He.codeOf_eq lk rfl
  have mem : He.cT K ("law", none) ∈ [He.cT K ("law", none)] := List.mem_singleton.mpr rfl
  have mem2 : (("law", none) : He.Defn) ∈ Hd.tf := List.mem_singleton.mpr rfl
  refine ⟨K, X, _, [He.cT K ("law", none)], spLaw (K := K) (He.cT K ("law", none)).2, ?_, ?_, ?_, fun s v => b s [v] rfl, ?_, ?_⟩
  · intro p hp; rw [List.mem_singleton.mp hp]; exact c.empty _ mem2
  · intro p hp; rw [List.mem_singleton.mp hp]; exact c.out _ mem2
  · intro p hp; rw [List.mem_singleton.mp hp]; exact PySem.W.codeHd_of_K X (c.hd _ mem2)
  · intro H a ns hl _ hT hS
    exact ⟨a, ns, rfl, hS, by omega, hT _ mem, fun _ => rfl⟩
  · intro base _ _ TB
    have TB1 := TB _ mem
    have e1 : (He.cT K ("law", none)).1 = co := eco
    rw [e1] at TB1
    exact ok_law lk hcd D B TB1
end Lr
open PySem PySem.W
      PySem.Calls PyProof.Rows
theorem PySem.Challenge.cw_leastredo_k78_whole_rows_as_texts_holds : PySem.Challenge.rw_leastredo_k78_whole_rows_as_texts.Holds := by
  w_on; o_law
  refine HandSHeadRun.head_any (r := OpenLaw.row PySem.Challenge.rw_leastredo_k78_whole_rows_as_texts) (q := view (OpenLaw.row PySem.Challenge.rw_leastredo_k78_whole_rows_as_texts).prog [55]) (H := Lr.Hd.hk) (ob := Lr.Hd.ob) (M := 6000) (loose := Lr.Hd.loose) (d := HandSHeadRun.topDef (OpenLaw.row PySem.Challenge.rw_leastredo_k78_whole_rows_as_texts).prog 55) (kwd := []) Lr.Hd.ob_eq
    (by kernel_rfl) (fun s => by kernel_rfl) Lr.Hd.run (by kernel_rfl) (by kernel_rfl) (by kernel_rfl) (by rfl) (by first | assumption | decide +kernel) (by decide +kernel) ⟨rfl, rfl, rfl, rfl, rfl, by decide +kernel⟩ ?hw ?hc
  case hw => w_witness2
  case hc =>
    refine LamX.walk_ofTsE (l := PySem.Challenge.rw_leastredo_k78_whole_rows_as_texts) (n := 63) (k := 11) (x := "script") (CX := fun _ => L2.CX0) rfl (by decide) (by kernel_rfl) ⟨rfl, by decide, by decide⟩ ?F (fun _ _ _ _ _ z => z)
    intro w mg fa h Y hns hmg0
    have hmg : mg ("law" : PySem.Str)
          = some (.ref fa) := by
      have e : (HandSHeadRun.topDef (OpenLaw.row PySem.Challenge.rw_leastredo_k78_whole_rows_as_texts).prog 55).name = ("law" : PySem.Str) := by kernel_rfl
      rw [← e]
      exact hmg0
    exact Lr.law_at w mg fa h Y hns hmg
